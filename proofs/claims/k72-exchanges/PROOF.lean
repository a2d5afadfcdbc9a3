import PyProof.Rows.All
import Wide.All
import OpenK.AllK
import Wide.FinOn
import PyProof.EqAt
import PyProof.EqKinds
import PyProof.TupleCall
import HandS.ForMost
import HandS.ForExc
import HandS.CallSlots
import HandS.TryMany
import HandS.ExcIs
import HandS.IsInst
import HandS.Defaults
import HandS.Ends
import HandS.Head0
import HandS.Head1
import HandS.Head2
import HandS.HeadEnd
import HandS.HeadHook1
import HandS.HeadHook2
import PySem.Challenge.RW_trueleaf_k72_exchanges
set_option Elab.async false
set_option linter.all false
set_option autoImplicit false
set_option maxRecDepth 100000
set_option maxHeartbeats 3999000
/-! The pure-value layer: core. -/
namespace PV
open PySem PySem.Spec PyProof.Rows L2

abbrev St := L2.St
inductive Ec where
  | badRow | noPart | ring | tooLong | badCall | deep | noShort | badForm | badWord | badPaper | noGrowth | twice | noFoot | noMark | noLaying | badName | noRow | nothingDone
  deriving DecidableEq

abbrev Mini := List (Addr × HO)
theorem same_seqT {K : PySem.W.Frag} {H H' : Hp} {a : Addr} {xs : List V} (e : Same H H') (h : SqT K H a xs) : SqT K H' a xs := by
  rcases h with (h | ⟨o, h⟩) | h
  · exact .inl (.inl (e _ _ h))
  · exact .inl (.inr ⟨o, e _ _ h⟩)
  · exact .inr h
theorem same_rd {H H' : Hp} {a : Addr} {o : HO} (e : Same H H') (h : Rd H a o) : Rd H' a o := by
  rcases h with h | ⟨u, h⟩
  · exact .inl (e _ _ h)
  · exact .inr ⟨u, e _ _ h⟩
mutual
/-- the value v is the data d, by the heap H -/
inductive Dq (K : PySem.W.Frag) (H : Hp) : V → PyData → Prop
  | non : Dq K H .non .none
  | bl (b : Bool) : Dq K H (.bl b) (.bool b)
  | int (i : Int) : Dq K H (.int i) (.int i)
  | str (x : Str) : Dq K H (.str x) (.str x)
  | lst {a : Addr} {xs : List V} {ds : List PyData} : Rd H a (.lst xs) → DqAll K H xs ds → Dq K H (.ref a) (.list ds)
  | tup {a : Addr} {xs : List V} {ds : List PyData} : SqT K H a xs → DqAll K H xs ds → Dq K H (.ref a) (.tuple ds)
inductive DqAll (K : PySem.W.Frag) (H : Hp) : List V → List PyData → Prop
  | nil : DqAll K H [] []
  | cons {v : V} {vs : List V} {d : PyData} {ds : List PyData} : Dq K H v d → DqAll K H vs ds → DqAll K H (v :: vs) (d :: ds)
end
mutual
theorem dq_mono {K : PySem.W.Frag} {H H' : Hp} (e : Same H H') : ∀ (d : PyData) (v : V), Dq K H v d → Dq K H' v d
  | .none, _, h => by cases h; exact .non
  | .bool b, _, h => by cases h; exact .bl b
  | .int i, _, h => by cases h; exact .int i
  | .str x, _, h => by cases h; exact .str x
  | .list ds, _, h => by
    cases h with
    | lst hs ha => exact .lst (same_rd e hs) (dqAll_mono e ds _ ha)
  | .tuple ds, _, h => by
    cases h with
    | tup hs ha => exact .tup (same_seqT e hs) (dqAll_mono e ds _ ha)
  | .dict _, _, h => by cases h
theorem dqAll_mono {K : PySem.W.Frag} {H H' : Hp} (e : Same H H') : ∀ (ds : List PyData) (vs : List V), DqAll K H vs ds → DqAll K H' vs ds
  | [], _, h => by cases h; exact .nil
  | d :: ds, _, h => by
    cases h with
    | cons h1 h2 => exact .cons (dq_mono e d _ h1) (dqAll_mono e ds _ h2)
end
mutual
theorem Dq.dp {K : PySem.W.Frag} {H : Hp} : ∀ (d : PyData) (v : V), Dq K H v d → L2.Dp K H v d
  | .none, _, h => by cases h; exact .non
  | .bool b, _, h => by cases h; exact .bl b
  | .int i, _, h => by cases h; exact .int i
  | .str x, _, h => by cases h; exact .str x
  | .list ds, _, h => by
    cases h with
    | lst hs ha => exact .lst (.inl hs) (DqAll.dp ds _ ha)
  | .tuple ds, _, h => by
    cases h with
    | tup hs ha => exact .tup hs (DqAll.dp ds _ ha)
  | .dict _, _, h => by cases h
theorem DqAll.dp {K : PySem.W.Frag} {H : Hp} : ∀ (ds : List PyData) (vs : List V), DqAll K H vs ds → L2.DpAll K H vs ds
  | [], _, h => by cases h; exact .nil
  | d :: ds, _, h => by
    cases h with
    | cons h1 h2 => exact .cons (Dq.dp d _ h1) (DqAll.dp ds _ h2)
end
section
variable {K : PySem.W.Frag} {H : Hp}
theorem DqAll_len : ∀ {vs : List V} {ds : List PyData}, DqAll K H vs ds → vs.length = ds.length
  | _, _, .nil => rfl
  | _, _, .cons _ t => congrArg (· + 1) (DqAll_len t)
theorem DqAll_app : ∀ {vs : List V} {ds : List PyData} {ws : List V} {es : List PyData}, DqAll K H vs ds → DqAll K H ws es → DqAll K H (vs ++ ws) (ds ++ es)
  | _, _, _, _, .nil, h => h
  | _, _, _, _, .cons a t, h => .cons a (DqAll_app t h)
theorem DqAll_get : ∀ {vs : List V} {ds : List PyData} {i : Nat} {d : PyData}, DqAll K H vs ds → ds[i]? = some d → ∃ v, vs[i]? = some v ∧ Dq K H v d
  | _, _, _, _, .nil, e => by simp at e
  | _, _, 0, _, .cons a _, e => by simp at e; subst e; exact ⟨_, by simp, a⟩
  | _, _, i + 1, d, .cons _ t, e => by
    obtain ⟨v, h1, h2⟩ := DqAll_get (i := i) (d := d) t (by simpa using e)
    exact ⟨v, by simpa using h1, h2⟩
theorem DqAll_getV : ∀ {vs : List V} {ds : List PyData} {i : Nat} {v : V}, DqAll K H vs ds → vs[i]? = some v → ∃ d, ds[i]? = some d ∧ Dq K H v d
  | _, _, _, _, .nil, e => by simp at e
  | _, _, 0, _, .cons a _, e => by simp at e; subst e; exact ⟨_, by simp, a⟩
  | _, _, i + 1, v, .cons _ t, e => by
    obtain ⟨d, h1, h2⟩ := DqAll_getV (i := i) (v := v) t (by simpa using e)
    exact ⟨d, by simpa using h1, h2⟩
theorem DqAll_set : ∀ {vs : List V} {ds : List PyData} {v : V} {d : PyData} (i : Nat), DqAll K H vs ds → Dq K H v d → DqAll K H (vs.set i v) (ds.set i d)
  | _, _, _, _, _, .nil, _ => .nil
  | _, _, _, _, 0, .cons _ t, h => .cons h t
  | _, _, _, _, i + 1, .cons a t, h => .cons a (DqAll_set i t h)
theorem DqAll_take : ∀ {vs : List V} {ds : List PyData} (n : Nat), DqAll K H vs ds → DqAll K H (vs.take n) (ds.take n)
  | _, _, 0, _ => .nil
  | _, _, _ + 1, .nil => .nil
  | _, _, n + 1, .cons a t => .cons a (DqAll_take n t)
theorem DqAll_drop : ∀ {vs : List V} {ds : List PyData} (n : Nat), DqAll K H vs ds → DqAll K H (vs.drop n) (ds.drop n)
  | _, _, 0, h => h
  | _, _, _ + 1, .nil => .nil
  | _, _, n + 1, .cons _ t => DqAll_drop n t
end

/-- what a name holds: by the frozen heap, the value, the objects that it owns -/
structure Slot where
  R : PySem.W.Frag → Hp → V → Mini → Prop
  mono : ∀ (K : PySem.W.Frag) (F F' : Hp) (v : V) (m : Mini), Same F F' → R K F v m → R K F' v m
/-- data that never changes -/
def fz (d : PyData) : Slot := ⟨fun K F v m => m = [] ∧ Dq K F v d, fun _ _ _ _ _ e ⟨h1, h2⟩ => ⟨h1, dq_mono e _ _ h2⟩⟩
/-- a list that nobody else holds -/
def ow (p : Option Addr) (ds : List PyData) : Slot := ⟨fun K F v m => ∃ a vs, v = .ref a ∧ m = [(a, .lst vs)] ∧ (∀ q, p = some q → a = q) ∧ DqAll K F vs ds,
  fun _ _ _ _ _ e ⟨a, vs, h1, h2, h3, h4⟩ => ⟨a, vs, h1, h2, h3, dqAll_mono e _ _ h4⟩⟩
/-- a list that is known to the module, or handed in by the law's caller -/
def kn (ds : List PyData) : Slot := ⟨fun K F v m => m = [] ∧ ∃ a vs, v = .ref a ∧ SqL K F a vs ∧ DqAll K F vs ds, fun _ _ _ _ _ e ⟨h, a, vs, h1, h2, h3⟩ => ⟨h, a, vs, h1, e.seq h2, dqAll_mono e _ _ h3⟩⟩
abbrev Env := List (Option Slot)

structure EOk (K : PySem.W.Frag) (ρ : Env) (F : Hp) (σ : St) (H : Hp) (M : Nat → Mini) : Prop where
  len : σ.length = ρ.length
  sub : Same F H
  at_ : ∀ (i : Nat) (S : Slot), ρ[i]? = some (some S) → ∃ v, σ[i]? = some (some v) ∧ S.R K F v (M i)
  own : ∀ (i : Nat) (a : Addr) (o : HO), (a, o) ∈ M i → H a = some o ∧ F a = none
  apart : ∀ (i j : Nat) (a : Addr) (o o' : HO), (a, o) ∈ M i → (a, o') ∈ M j → i = j

/-- nothing tracked changes; what is newly frozen was not there -/
structure Ext (F H F' H' : Hp) : Prop where
  f : Same F F'
  h : Same H H'
  sub : Same F' H'
  new : ∀ a o, F' a = some o → F a = none → H a = none
theorem Ext.refl {F H : Hp} (s : Same F H) : Ext F H F H := ⟨.refl _, .refl _, s, fun a o h1 h2 => by rw [h1] at h2; cases h2⟩
theorem Ext.trans {F H F1 H1 F2 H2 : Hp} (a : Ext F H F1 H1) (b : Ext F1 H1 F2 H2) : Ext F H F2 H2 := ⟨a.f.trans b.f, a.h.trans b.h, b.sub, fun c o h1 h2 => by
  cases q : F1 c with
  | none => exact a.h.free (b.new c o h1 q)
  | some u => exact a.new c u q h2⟩
/-- a new object is frozen at once -/
theorem Ext.laid {F H : Hp} {p : Addr} {o : HO} (s : Same F H) (n : H p = none) : Ext F H (upd F p o) (upd H p o) := by
  have nf : F p = none := s.free n
  refine ⟨fun b u e => by rw [upd_ne (ne_of_none e nf)]; exact e, fun b u e => by rw [upd_ne (ne_of_none e n)]; exact e, fun b u e => ?_, fun b u e1 e2 => ?_⟩
  · by_cases hb : b = p
    · subst hb; rw [upd_same] at e ⊢; exact e
    · rw [upd_ne hb] at e ⊢; exact s b u e
  · by_cases hb : b = p
    · subst hb; exact n
    · rw [upd_ne hb] at e1; rw [e1] at e2; cases e2
/-- a new object beside the frozen part -/
theorem Ext.beside {F H : Hp} {p : Addr} {o : HO} (s : Same F H) (n : H p = none) : Ext F H F (upd H p o) :=
  ⟨.refl _, fun b u e => by rw [upd_ne (ne_of_none e n)]; exact e, fun b u e => by rw [upd_ne (ne_of_none e (s.free n))]; exact s b u e, fun b u e1 e2 => by rw [e1] at e2; cases e2⟩
/-- an object that stands beside is frozen -/
theorem Ext.freeze {F H : Hp} {p : Addr} {o : HO} {F' H' : Hp} (x : Ext F H F' H') (n : H p = none) (n' : F' p = none) (h : H' p = some o) : Ext F H (upd F' p o) H' := by
  refine ⟨fun b u e => ?_, x.h, fun b u e => ?_, fun b u e1 e2 => ?_⟩
  · rw [upd_ne (ne_of_none (x.f b u e) n')]; exact x.f b u e
  · by_cases hb : b = p
    · subst hb; rw [upd_same] at e; rw [← e]; exact h
    · rw [upd_ne hb] at e; exact x.sub b u e
  · by_cases hb : b = p
    · subst hb; exact n
    · rw [upd_ne hb] at e1; exact x.new b u e1 e2
theorem EOk.ext {K : PySem.W.Frag} {ρ : Env} {F F' H H' : Hp} {σ : St} {M : Nat → Mini} (x : EOk K ρ F σ H M) (e : Ext F H F' H') : EOk K ρ F' σ H' M where
  len := x.len
  sub := e.sub
  at_ := fun i S h => by
    obtain ⟨v, h1, h2⟩ := x.at_ i S h
    exact ⟨v, h1, S.mono K F F' v (M i) e.f h2⟩
  own := fun i a o h => by
    obtain ⟨h1, h2⟩ := x.own i a o h
    refine ⟨e.h a o h1, ?_⟩
    cases q : F' a with
    | none => rfl
    | some u =>
      have z := e.new a u q h2
      rw [z] at h1; cases h1
  apart := x.apart

/-! ### the judgements -/
abbrev Wc := Ec → St → Hp → Prop
/-- an expression: what it gives, or what it raises -/
def EvR (X : Cx) (W : Wc) (ρ : Env) (e : Expr) (r : Except Ec PyData) : Prop :=
  ∀ (pins : List (Addr × Obj)) (s : Shared) (σ : St) (F H : Hp) (M : Nat → Mini) (Q : VK), Inv X pins σ H s → EOk X.K ρ F σ H M →
    (∀ d, r = .ok d → ∀ v F' H', Ext F H F' H' → Dq X.K F' v d → Q v H') → (∀ c, r = .error c → ∀ F' H', Ext F H F' H' → W c σ H') →
    wpAny (model X.prog X.w) X.A (eval e X.env) (EP X pins σ Q) X.xe s
abbrev Ev (X : Cx) (W : Wc) (ρ : Env) (e : Expr) (d : PyData) : Prop := EvR X W ρ e (.ok d)
/-- a list that is read: frozen, or owned by a name -/
def LV (K : PySem.W.Frag) (F H : Hp) (v : V) (ds : List PyData) : Prop := ∃ a vs, v = .ref a ∧ Rd H a (.lst vs) ∧ DqAll K F vs ds
/-- .. or known to the module -/
def LW (K : PySem.W.Frag) (F H : Hp) (v : V) (ds : List PyData) : Prop := ∃ a vs, v = .ref a ∧ SqL K H a vs ∧ DqAll K F vs ds
def Bw (X : Cx) (W : Wc) (ρ : Env) (e : Expr) (ds : List PyData) : Prop :=
  ∀ (pins : List (Addr × Obj)) (s : Shared) (σ : St) (F H : Hp) (M : Nat → Mini) (Q : VK), Inv X pins σ H s → EOk X.K ρ F σ H M →
    (∀ v F' H', Ext F H F' H' → LW X.K F' H' v ds → Q v H') →
    wpAny (model X.prog X.w) X.A (eval e X.env) (EP X pins σ Q) X.xe s
def Bv (X : Cx) (W : Wc) (ρ : Env) (e : Expr) (ds : List PyData) : Prop :=
  ∀ (pins : List (Addr × Obj)) (s : Shared) (σ : St) (F H : Hp) (M : Nat → Mini) (Q : VK), Inv X pins σ H s → EOk X.K ρ F σ H M →
    (∀ v F' H', Ext F H F' H' → LV X.K F' H' v ds → Q v H') →
    wpAny (model X.prog X.w) X.A (eval e X.env) (EP X pins σ Q) X.xe s
/-- a new list -/
def Fr (X : Cx) (W : Wc) (ρ : Env) (e : Expr) (ds : List PyData) : Prop :=
  ∀ (pins : List (Addr × Obj)) (s : Shared) (σ : St) (F H : Hp) (M : Nat → Mini) (Q : VK), Inv X pins σ H s → EOk X.K ρ F σ H M →
    (∀ a vs F' H', Ext F H F' H' → H a = none → F' a = none → H' a = some (.lst vs) → DqAll X.K F' vs ds → Q (.ref a) H') →
    wpAny (model X.prog X.w) X.A (eval e X.env) (EP X pins σ Q) X.xe s
/-- a test -/
def Tst (X : Cx) (W : Wc) (ρ : Env) (e : Expr) (b : Bool) : Prop :=
  ∀ (pins : List (Addr × Obj)) (s : Shared) (σ : St) (F H : Hp) (M : Nat → Mini) (Q : Bool → Hp → Prop), Inv X pins σ H s → EOk X.K ρ F σ H M →
    (∀ F' H', Ext F H F' H' → Q b H') →
    wpAny (model X.prog X.w) X.A (isTrue e X.env (eval e X.env)) (TP X pins σ Q) X.xe s
/-- an argument list -/
def EvA (X : Cx) (W : Wc) (ρ : Env) (es : List Expr) (r : Except Ec (List PyData)) : Prop :=
  ∀ (pos : Pos) (pins : List (Addr × Obj)) (s : Shared) (σ : St) (F H : Hp) (M : Nat → Mini) (Q : List V → Hp → Prop), Inv X pins σ H s → EOk X.K ρ F σ H M →
    (∀ ds, r = .ok ds → ∀ vs F' H', Ext F H F' H' → DqAll X.K F' vs ds → Q vs H') → (∀ c, r = .error c → ∀ F' H', Ext F H F' H' → W c σ H') →
    wpAny (model X.prog X.w) X.A (spliced (backTo pos (starEach es X.env))) (AP X pins σ Q) X.xe s

section
variable {X : Cx} {W : Wc} {ρ : Env} {e : Expr} {es : List Expr}
/-- the readings of these, for the rules of HandS -/
def tR (X : Cx) (W : Wc) (ρ : Env) (r : Except Ec PyData) : TE := fun σ H Q => ∃ F M, EOk X.K ρ F σ H M ∧
  (∀ d, r = .ok d → ∀ v F' H', Ext F H F' H' → Dq X.K F' v d → Q v H') ∧ (∀ c, r = .error c → ∀ F' H', Ext F H F' H' → W c σ H')
theorem EvR.pe {r : Except Ec PyData} (h : EvR X W ρ e r) : PE X e (tR X W ρ r) := ⟨fun pins s σ H Q I ⟨F, M, ok, h1, h2⟩ => h pins s σ F H M Q I ok h1 h2⟩
def tBv (X : Cx) (ρ : Env) (ds : List PyData) : TE := fun σ H Q => ∃ F M, EOk X.K ρ F σ H M ∧ (∀ v F' H', Ext F H F' H' → LV X.K F' H' v ds → Q v H')
theorem Bv.pe {ds : List PyData} (h : Bv X W ρ e ds) : PE X e (tBv X ρ ds) := ⟨fun pins s σ H Q I ⟨F, M, ok, h1⟩ => h pins s σ F H M Q I ok h1⟩
theorem Bv.bw {ds : List PyData} (h : Bv X W ρ e ds) : Bw X W ρ e ds := fun pins s σ F H M Q I ok q => h pins s σ F H M Q I ok fun v F' H' x ⟨a, vs, h1, h2, h3⟩ => q v F' H' x ⟨a, vs, h1, .inl h2, h3⟩
def tBw (X : Cx) (ρ : Env) (ds : List PyData) : TE := fun σ H Q => ∃ F M, EOk X.K ρ F σ H M ∧ (∀ v F' H', Ext F H F' H' → LW X.K F' H' v ds → Q v H')
theorem Bw.pe {ds : List PyData} (h : Bw X W ρ e ds) : PE X e (tBw X ρ ds) := ⟨fun pins s σ H Q I ⟨F, M, ok, h1⟩ => h pins s σ F H M Q I ok h1⟩
def tTst (X : Cx) (ρ : Env) (b : Bool) : TT := fun σ H Q => ∃ F M, EOk X.K ρ F σ H M ∧ (∀ F' H', Ext F H F' H' → Q b H')
theorem Tst.pt {b : Bool} (h : Tst X W ρ e b) : PT X e (tTst X ρ b) := ⟨fun pins s σ H Q I ⟨F, M, ok, h1⟩ => h pins s σ F H M Q I ok h1⟩
def tEvA (X : Cx) (W : Wc) (ρ : Env) (r : Except Ec (List PyData)) : TA := fun σ H Q => ∃ F M, EOk X.K ρ F σ H M ∧
  (∀ ds, r = .ok ds → ∀ vs F' H', Ext F H F' H' → DqAll X.K F' vs ds → Q vs H') ∧ (∀ c, r = .error c → ∀ F' H', Ext F H F' H' → W c σ H')
theorem EvA.pa {r : Except Ec (List PyData)} (h : EvA X W ρ es r) : PA X es (tEvA X W ρ r) := ⟨fun pos pins s σ H Q I ⟨F, M, ok, h1, h2⟩ => h pos pins s σ F H M Q I ok h1 h2⟩

/-- from a rule of HandS: its reading, by the environment -/
theorem ev_of {t : TE} {r : Except Ec PyData} (h : PE X e t) (q : ∀ (σ : St) (F H : Hp) (M : Nat → Mini) (Q : VK), EOk X.K ρ F σ H M →
    (∀ d, r = .ok d → ∀ v F' H', Ext F H F' H' → Dq X.K F' v d → Q v H') → (∀ c, r = .error c → ∀ F' H', Ext F H F' H' → W c σ H') → t σ H Q) : EvR X W ρ e r :=
  fun pins s σ F H M Q I ok h1 h2 => h.run pins s σ H Q I (q σ F H M Q ok h1 h2)
theorem ev1_of {t : TE} {d : PyData} (h : PE X e t) (q : ∀ (σ : St) (F H : Hp) (M : Nat → Mini) (Q : VK), EOk X.K ρ F σ H M →
    (∀ v F' H', Ext F H F' H' → Dq X.K F' v d → Q v H') → t σ H Q) : Ev X W ρ e d :=
  fun pins s σ F H M Q I ok h1 _ => h.run pins s σ H Q I (q σ F H M Q ok (h1 d rfl))
theorem tst_of {t : TT} {b : Bool} (h : PT X e t) (q : ∀ (σ : St) (F H : Hp) (M : Nat → Mini) (Q : Bool → Hp → Prop), EOk X.K ρ F σ H M → (∀ F' H', Ext F H F' H' → Q b H') → t σ H Q) : Tst X W ρ e b :=
  fun pins s σ F H M Q I ok h1 => h.run pins s σ H Q I (q σ F H M Q ok h1)
/-- the reading of a part whose value is known -/
theorem rd {d : PyData} {σ : St} {F H : Hp} {M : Nat → Mini} {Q : VK} (ok : EOk X.K ρ F σ H M) (h : ∀ v F' H', Ext F H F' H' → Dq X.K F' v d → Q v H') : tR X W ρ (.ok d) σ H Q :=
  ⟨F, M, ok, fun d' e => by cases e; exact h, fun c e => by cases e⟩

/-! ### names and constants -/
theorem ev_var (i : Nat) {x : Str} {pos : Pos} {d : PyData} (hd : ρ[i]? = some (some (fz d))) (hN : X.N[i]? = some x := by rfl) (hv : Vis X.env.scope x := by first | exact Or.inl rfl | exact Or.inr (Or.inl rfl) | exact Or.inr (Or.inr rfl))
    (h1 : (x == ("__debug__" : Str)) = false := by decide) (h2 : (x == ("__classdict__" : Str)) = false := by decide) : Ev X W ρ (.Name x pos) d :=
  ev1_of (pe_var hN hv h1 h2) fun σ F H M Q ok h => by
    obtain ⟨v, e, _, q⟩ := ok.at_ i _ hd
    exact ⟨v, e, h v F H (.refl ok.sub) q⟩
theorem bv_var (i : Nat) {x : Str} {pos : Pos} {p : Option Addr} {ds : List PyData} (hd : ρ[i]? = some (some (ow p ds))) (hN : X.N[i]? = some x := by rfl) (hv : Vis X.env.scope x := by first | exact Or.inl rfl | exact Or.inr (Or.inl rfl) | exact Or.inr (Or.inr rfl))
    (h1 : (x == ("__debug__" : Str)) = false := by decide) (h2 : (x == ("__classdict__" : Str)) = false := by decide) : Bv X W ρ (.Name x pos) ds :=
  fun pins s σ F H M Q I ok h => (pe_var hN hv h1 h2).run pins s σ H Q I (by
    obtain ⟨v, e, a, vs, rfl, em, _, q⟩ := ok.at_ i _ hd
    exact ⟨_, e, h _ F H (.refl ok.sub) ⟨a, vs, rfl, .of (ok.own i a _ (by rw [em]; exact List.mem_cons_self)).1, q⟩⟩)
theorem bw_var (i : Nat) {x : Str} {pos : Pos} {ds : List PyData} (hd : ρ[i]? = some (some (kn ds))) (hN : X.N[i]? = some x := by rfl) (hv : Vis X.env.scope x := by first | exact Or.inl rfl | exact Or.inr (Or.inl rfl) | exact Or.inr (Or.inr rfl))
    (h1 : (x == ("__debug__" : Str)) = false := by decide) (h2 : (x == ("__classdict__" : Str)) = false := by decide) : Bw X W ρ (.Name x pos) ds :=
  fun pins s σ F H M Q I ok h => (pe_var hN hv h1 h2).run pins s σ H Q I (by
    obtain ⟨v, e, _, a, vs, rfl, q1, q2⟩ := ok.at_ i _ hd
    exact ⟨_, e, h _ F H (.refl ok.sub) ⟨a, vs, rfl, ok.sub.seq q1, q2⟩⟩)
theorem ev_int {i : Int} {j pos} : Ev X W ρ (.Constant (.int i) j pos) (.int i) := ev1_of pe_int fun σ F H M Q ok h => h _ F H (.refl ok.sub) (.int i)
theorem ev_bl {b j pos} : Ev X W ρ (.Constant (.bool b) j pos) (.bool b) := ev1_of pe_bl fun σ F H M Q ok h => h _ F H (.refl ok.sub) (.bl b)
theorem ev_non {j pos} : Ev X W ρ (.Constant .none j pos) .none := ev1_of pe_non fun σ F H M Q ok h => h _ F H (.refl ok.sub) .non
theorem ev_str {x j pos} : Ev X W ρ (.Constant (.str x) j pos) (.str x) := ev1_of pe_str fun σ F H M Q ok h => h _ F H (.refl ok.sub) (.str x)

/-! ### two parts, by an operator on scalars -/
variable {a b : Expr} {pos : Pos}
theorem ev_op {op : Operator} {r : R2} {da db d : PyData} (ho : OpR X (binaryOp op) r) (ha : Ev X W ρ a da) (hb : Ev X W ρ b db)
    (q : ∀ (x y : V) (F H : Hp) (Q : VK), Same F H → Dq X.K F x da → Dq X.K F y db → (∀ v F' H', Ext F H F' H' → Dq X.K F' v d → Q v H') → r x y H Q) : Ev X W ρ (.BinOp a op b pos) d :=
  ev1_of (pe_op ho ha.pe hb.pe) fun σ F H M Q ok h => rd ok fun x F1 H1 e1 dx => rd (ok.ext e1) fun y F2 H2 e2 dy =>
    q x y F2 H2 Q e2.sub (dq_mono e2.f _ _ dx) dy fun v F' H' e3 dv => h v F' H' ((e1.trans e2).trans e3) dv
theorem dq_int {K : PySem.W.Frag} {F : Hp} {x : V} {i : Int} (h : Dq K F x (.int i)) : x = .int i := by cases h; rfl
theorem dq_bl {K : PySem.W.Frag} {F : Hp} {x : V} {i : Bool} (h : Dq K F x (.bool i)) : x = .bl i := by cases h; rfl
theorem dq_str {K : PySem.W.Frag} {F : Hp} {x : V} {i : Str} (h : Dq K F x (.str i)) : x = .str i := by cases h; rfl
theorem dq_non {K : PySem.W.Frag} {F : Hp} {x : V} (h : Dq K F x .none) : x = .non := by cases h; rfl
variable {i j : Int}
theorem ev_add (ha : Ev X W ρ a (.int i)) (hb : Ev X W ρ b (.int j)) : Ev X W ρ (.BinOp a .Add b pos) (.int (i + j)) :=
  ev_op op_add ha hb fun x y F H Q s dx dy h => ⟨i, j, dq_int dx, dq_int dy, h _ F H (.refl s) (.int _)⟩
theorem ev_sub (ha : Ev X W ρ a (.int i)) (hb : Ev X W ρ b (.int j)) : Ev X W ρ (.BinOp a .Sub b pos) (.int (i - j)) :=
  ev_op op_sub ha hb fun x y F H Q s dx dy h => ⟨i, j, dq_int dx, dq_int dy, h _ F H (.refl s) (.int _)⟩
theorem ev_mul (c : CMul i j) (ha : Ev X W ρ a (.int i)) (hb : Ev X W ρ b (.int j)) : Ev X W ρ (.BinOp a .Mult b pos) (.int (i * j)) :=
  ev_op op_mul ha hb fun x y F H Q s dx dy h => ⟨i, j, dq_int dx, dq_int dy, c, h _ F H (.refl s) (.int _)⟩
theorem ev_fdiv (c : 0 < j ∧ j < 1073741824) (ha : Ev X W ρ a (.int i)) (hb : Ev X W ρ b (.int j)) : Ev X W ρ (.BinOp a .FloorDiv b pos) (.int (i / j)) :=
  ev_op op_fdiv ha hb fun x y F H Q s dx dy h => ⟨i, j, dq_int dx, dq_int dy, c, h _ F H (.refl s) (.int _)⟩
theorem ev_mod (c : 0 < j) (ha : Ev X W ρ a (.int i)) (hb : Ev X W ρ b (.int j)) : Ev X W ρ (.BinOp a .Mod b pos) (.int (i % j)) :=
  ev_op op_mod ha hb fun x y F H Q s dx dy h => ⟨i, j, dq_int dx, dq_int dy, c, h _ F H (.refl s) (.int _)⟩
theorem ev_pow (c : CPow i j) (ha : Ev X W ρ a (.int i)) (hb : Ev X W ρ b (.int j)) : Ev X W ρ (.BinOp a .Pow b pos) (.int (i ^ j.toNat)) :=
  ev_op op_pow ha hb fun x y F H Q s dx dy h => ⟨i, j, dq_int dx, dq_int dy, c, h _ F H (.refl s) (.int _)⟩
theorem ev_neg (ha : Ev X W ρ a (.int i)) : Ev X W ρ (.UnaryOp .USub a pos) (.int (-i)) :=
  ev1_of (pe_un un_neg ha.pe) fun σ F H M Q ok h => rd ok fun x F1 H1 e1 dx => ⟨i, dq_int dx, h _ F1 H1 e1 (.int _)⟩
theorem ev_adds {x y : Str} (c : x.length + y.length ≤ sizeLine) (ha : Ev X W ρ a (.str x)) (hb : Ev X W ρ b (.str y)) : Ev X W ρ (.BinOp a .Add b pos) (.str (x ++ y)) :=
  ev_op op_add_str ha hb fun u v F H Q s dx dy h => ⟨x, y, dq_str dx, dq_str dy, c, h _ F H (.refl s) (.str _)⟩
end
end PV

/-! The pure-value layer: statements. -/
namespace PV
open PySem PySem.Spec PyProof.Rows L2

/-- as EOk, over what the body must leave as it is (B) and what was frozen at its entry (F0) -/
structure PInv (K : PySem.W.Frag) (B F0 : Hp) (ρ : Env) (F : Hp) (σ : St) (H : Hp) (M : Nat → Mini) : Prop where
  ok : EOk K ρ F σ H M
  base : Same B H
  f0 : Same F0 F
  nb : ∀ (a : Addr) (o : HO), F a = some o → F0 a = none → B a = none
  mb : ∀ (i : Nat) (a : Addr) (o : HO), (a, o) ∈ M i → B a = none
section
variable {K : PySem.W.Frag} {B F0 F F' H H' : Hp} {ρ : Env} {σ : St} {M : Nat → Mini}
theorem PInv.ext (x : PInv K B F0 ρ F σ H M) (e : Ext F H F' H') : PInv K B F0 ρ F' σ H' M where
  ok := x.ok.ext e
  base := x.base.trans e.h
  f0 := x.f0.trans e.f
  nb := fun a o h1 h2 => by
    cases q : F a with
    | none => exact x.base.free (e.new a o h1 q)
    | some u => exact x.nb a u q h2
  mb := x.mb
def upM (M : Nat → Mini) (i : Nat) (m : Mini) : Nat → Mini := fun j => if j = i then m else M j
theorem upM_same {i : Nat} {m : Mini} : upM M i m i = m := if_pos rfl
theorem upM_ne {i j : Nat} {m : Mini} (h : j ≠ i) : upM M i m j = M j := if_neg h
/-- a name gets a value and what it owns -/
theorem PInv.set {i : Nat} {S : Slot} {v : V} {m : Mini} (x : PInv K B F0 ρ F σ H M) (hS : S.R K F v m)
    (hm : ∀ (a : Addr) (o : HO), (a, o) ∈ m → H a = some o ∧ F a = none ∧ B a = none ∧ ∀ (j : Nat) (o' : HO), j ≠ i → (a, o') ∉ M j) : PInv K B F0 (ρ.set i (some S)) F (σ.set i (some v)) H (upM M i m) where
  ok := {
    len := by rw [List.length_set, List.length_set]; exact x.ok.len
    sub := x.ok.sub
    at_ := fun j T h => by
      by_cases hj : j = i
      · subst hj
        have hl : j < ρ.length := by
          have := (List.getElem?_eq_some_iff.mp h).1
          simpa using this
        rw [List.getElem?_set_self hl] at h
        cases h
        exact ⟨v, List.getElem?_set_self (by rw [x.ok.len]; exact hl), by rw [upM_same]; exact hS⟩
      · rw [List.getElem?_set_ne (Ne.symm hj)] at h
        obtain ⟨u, h1, h2⟩ := x.ok.at_ j T h
        exact ⟨u, by rw [List.getElem?_set_ne (Ne.symm hj)]; exact h1, by rw [upM_ne hj]; exact h2⟩
    own := fun j a o h => by
      by_cases hj : j = i
      · subst hj; rw [upM_same] at h; exact ⟨(hm a o h).1, (hm a o h).2.1⟩
      · rw [upM_ne hj] at h; exact x.ok.own j a o h
    apart := fun j k a o o' h h' => by
      by_cases hj : j = i
      · by_cases hk : k = i
        · rw [hj, hk]
        · subst hj
          rw [upM_same] at h; rw [upM_ne hk] at h'
          exact absurd h' ((hm a o h).2.2.2 k o' hk)
      · by_cases hk : k = i
        · subst hk
          rw [upM_same] at h'; rw [upM_ne hj] at h
          exact absurd h ((hm a o' h').2.2.2 j o hj)
        · rw [upM_ne hj] at h; rw [upM_ne hk] at h'
          exact x.ok.apart j k a o o' h h' }
  base := x.base
  f0 := x.f0
  nb := x.nb
  mb := fun j a o h => by
    by_cases hj : j = i
    · subst hj; rw [upM_same] at h; exact (hm a o h).2.2.1
    · rw [upM_ne hj] at h; exact x.mb j a o h
theorem PInv.setF {i : Nat} {d : PyData} {v : V} (x : PInv K B F0 ρ F σ H M) (hd : Dq K F v d) : PInv K B F0 (ρ.set i (some (fz d))) F (σ.set i (some v)) H (upM M i []) :=
  x.set ⟨rfl, hd⟩ fun a o h => nomatch h
/-- a list that is new behind an expression -/
theorem PInv.setO {i : Nat} {a : Addr} {vs : List V} {ds : List PyData} (x : PInv K B F0 ρ F σ H M) (e : Ext F H F' H') (n : H a = none) (n' : F' a = none) (h : H' a = some (.lst vs)) (q : DqAll K F' vs ds) :
    PInv K B F0 (ρ.set i (some (ow none ds))) F' (σ.set i (some (.ref a))) H' (upM M i [(a, .lst vs)]) :=
  (x.ext e).set ⟨a, vs, rfl, rfl, (fun q h => nomatch h), q⟩ fun b o hb => by
    have hb' : (b, o) = (a, HO.lst vs) := by simpa using hb
    cases hb'
    refine ⟨h, n', x.base.free n, fun j o' hj hm => ?_⟩
    have z := (x.ok.own j _ o' hm).1
    rw [n] at z; cases z
/-- ρ' knows less -/
def Wk (ρ ρ' : Env) : Prop := ρ'.length = ρ.length ∧ ∀ (i : Nat) (S : Slot), ρ'[i]? = some (some S) → ρ[i]? = some (some S)
theorem PInv.weak {ρ' : Env} (x : PInv K B F0 ρ F σ H M) (w : Wk ρ ρ') : PInv K B F0 ρ' F σ H M where
  ok := ⟨by rw [w.1]; exact x.ok.len, x.ok.sub, fun i S h => x.ok.at_ i S (w.2 i S h), x.ok.own, x.ok.apart⟩
  base := x.base
  f0 := x.f0
  nb := x.nb
  mb := x.mb
/-- an owned list changes -/
theorem PInv.mut {i : Nat} {p : Option Addr} {ds es : List PyData} {a : Addr} {vs ws : List V} (x : PInv K B F0 ρ F σ H M) (hi : ρ[i]? = some (some (ow p ds))) (hσ : σ[i]? = some (some (.ref a))) (hp : ∀ q, p = some q → a = q)
    (hM : M i = [(a, .lst vs)]) (q : DqAll K F ws es) : PInv K B F0 (ρ.set i (some (ow p es))) F σ (upd H a (.lst ws)) (upM M i [(a, .lst ws)]) := by
  have hmem : (a, HO.lst vs) ∈ M i := by rw [hM]; exact List.mem_cons_self
  have hF : F a = none := (x.ok.own i a _ hmem).2
  have hB : B a = none := x.mb i a _ hmem
  refine ⟨⟨by rw [List.length_set]; exact x.ok.len, fun b u e => ?_, fun j T h => ?_, fun j b o h => ?_, fun j k b o o' h h' => ?_⟩, fun b u e => ?_, x.f0, x.nb, fun j b o h => ?_⟩
  · rw [upd_ne (ne_of_none e hF)]; exact x.ok.sub b u e
  · by_cases hj : j = i
    · subst hj
      have hl : j < ρ.length := (List.getElem?_eq_some_iff.mp hi).1
      rw [List.getElem?_set_self hl] at h
      cases h
      exact ⟨_, hσ, a, ws, rfl, upM_same, hp, q⟩
    · rw [List.getElem?_set_ne (Ne.symm hj)] at h
      obtain ⟨u, h1, h2⟩ := x.ok.at_ j T h
      exact ⟨u, h1, by rw [upM_ne hj]; exact h2⟩
  · by_cases hj : j = i
    · subst hj
      rw [upM_same] at h
      have h' : (b, o) = (a, HO.lst ws) := by simpa using h
      cases h'
      exact ⟨upd_same, hF⟩
    · rw [upM_ne hj] at h
      have hb : b ≠ a := fun z => by subst z; exact hj (x.ok.apart j i b _ _ h hmem)
      rw [upd_ne hb]
      exact x.ok.own j b o h
  · have key : ∀ (l : Nat) (u : HO), (b, u) ∈ upM M i [(a, HO.lst ws)] l → ∃ u', (b, u') ∈ M l := fun l u hl => by
      by_cases hi' : l = i
      · subst hi'
        rw [upM_same] at hl
        have h' : (b, u) = (a, HO.lst ws) := by simpa using hl
        cases h'
        exact ⟨_, hmem⟩
      · rw [upM_ne hi'] at hl; exact ⟨u, hl⟩
    obtain ⟨u1, q1⟩ := key j o h
    obtain ⟨u2, q2⟩ := key k o' h'
    exact x.ok.apart j k b u1 u2 q1 q2
  · rw [upd_ne (ne_of_none e hB)]; exact x.base b u e
  · by_cases hj : j = i
    · subst hj
      rw [upM_same] at h
      have h' : (b, o) = (a, HO.lst ws) := by simpa using h
      cases h'
      exact hB
    · rw [upM_ne hj] at h; exact x.mb j b o h
/-- an owned list is frozen -/
theorem PInv.freeze {i : Nat} {p : Option Addr} {ds : List PyData} (x : PInv K B F0 ρ F σ H M) (hi : ρ[i]? = some (some (ow p ds))) : ∃ F' M', PInv K B F0 (ρ.set i (some (fz (.list ds)))) F' σ H M' := by
  obtain ⟨v, hσ, a, vs, rfl, hM, hp, q⟩ := x.ok.at_ i _ hi
  have hmem : (a, HO.lst vs) ∈ M i := by rw [hM]; exact List.mem_cons_self
  obtain ⟨hH, hF⟩ := x.ok.own i a _ hmem
  have hB : B a = none := x.mb i a _ hmem
  have sF : Same F (upd F a (.lst vs)) := fun b u e => by rw [upd_ne (ne_of_none e hF)]; exact e
  refine ⟨upd F a (.lst vs), upM M i [], ⟨⟨by rw [List.length_set]; exact x.ok.len, fun b u e => ?_, fun j T h => ?_, fun j b o h => ?_, fun j k b o o' h h' => ?_⟩, x.base, x.f0.trans sF, fun b u h1 h2 => ?_, fun j b o h => ?_⟩⟩
  · by_cases hb : b = a
    · subst hb; rw [upd_same] at e; rw [← e]; exact hH
    · rw [upd_ne hb] at e; exact x.ok.sub b u e
  · by_cases hj : j = i
    · subst hj
      have hl : j < ρ.length := (List.getElem?_eq_some_iff.mp hi).1
      rw [List.getElem?_set_self hl] at h
      cases h
      exact ⟨_, hσ, upM_same, .lst (.of upd_same) (dqAll_mono sF _ _ q)⟩
    · rw [List.getElem?_set_ne (Ne.symm hj)] at h
      obtain ⟨u, h1, h2⟩ := x.ok.at_ j T h
      exact ⟨u, h1, by rw [upM_ne hj]; exact T.mono K F _ u _ sF h2⟩
  · by_cases hj : j = i
    · subst hj; rw [upM_same] at h; cases h
    · rw [upM_ne hj] at h
      have hb : b ≠ a := fun z => by subst z; exact hj (x.ok.apart j i b _ _ h hmem)
      rw [upd_ne hb]
      exact x.ok.own j b o h
  · by_cases hj : j = i
    · subst hj; rw [upM_same] at h; cases h
    · by_cases hk : k = i
      · subst hk; rw [upM_same] at h'; cases h'
      · rw [upM_ne hj] at h; rw [upM_ne hk] at h'
        exact x.ok.apart j k b o o' h h'
  · by_cases hb : b = a
    · subst hb; exact hB
    · rw [upd_ne hb] at h1; exact x.nb b u h1 h2
  · by_cases hj : j = i
    · subst hj; rw [upM_same] at h; cases h
    · rw [upM_ne hj] at h; exact x.mb j b o h
/-- a value in front of the names -/
def shM (m : Mini) (M : Nat → Mini) : Nat → Mini
  | 0 => m
  | i + 1 => M i
theorem PInv.push {S : Slot} {v : V} {m : Mini} (x : PInv K B F0 ρ F σ H M) (hS : S.R K F v m)
    (hm : ∀ (a : Addr) (o : HO), (a, o) ∈ m → H a = some o ∧ F a = none ∧ B a = none ∧ ∀ (j : Nat) (o' : HO), (a, o') ∉ M j) : PInv K B F0 (some S :: ρ) F (some v :: σ) H (shM m M) where
  ok := {
    len := by simpa using x.ok.len
    sub := x.ok.sub
    at_ := fun j T h => by
      cases j with
      | zero => simp at h; subst h; exact ⟨v, rfl, hS⟩
      | succ j => exact x.ok.at_ j T (by simpa using h)
    own := fun j a o h => by
      cases j with
      | zero => exact ⟨(hm a o h).1, (hm a o h).2.1⟩
      | succ j => exact x.ok.own j a o h
    apart := fun j k a o o' h h' => by
      cases j with
      | zero =>
        cases k with
        | zero => rfl
        | succ k => exact absurd h' ((hm a o h).2.2.2 k o')
      | succ j =>
        cases k with
        | zero => exact absurd h ((hm a o' h').2.2.2 j o)
        | succ k => exact congrArg (· + 1) (x.ok.apart j k a o o' h h') }
  base := x.base
  f0 := x.f0
  nb := x.nb
  mb := fun j a o h => by
    cases j with
    | zero => exact (hm a o h).2.2.1
    | succ j => exact x.mb j a o h
theorem PInv.pushF {d : PyData} {v : V} (x : PInv K B F0 ρ F σ H M) (hd : Dq K F v d) : PInv K B F0 (some (fz d) :: ρ) F (some v :: σ) H (shM [] M) := x.push ⟨rfl, hd⟩ fun a o h => nomatch h
/-- what a name owns goes to the front -/
theorem PInv.pull {i : Nat} {S : Slot} {v : V} (x : PInv K B F0 ρ F σ H M) (hi : ρ[i]? = some (some S)) (hv : σ[i]? = some (some v)) : ∃ M', PInv K B F0 (some S :: ρ.set i none) F (some v :: σ) H M' := by
  obtain ⟨w, e, q⟩ := x.ok.at_ i S hi
  rw [hv] at e; cases e
  have y : PInv K B F0 (ρ.set i none) F σ H (upM M i []) := by
    refine ⟨⟨by rw [List.length_set]; exact x.ok.len, x.ok.sub, fun j T h => ?_, fun j a o h => ?_, fun j k a o o' h h' => ?_⟩, x.base, x.f0, x.nb, fun j a o h => ?_⟩
    · by_cases hj : j = i
      · subst hj
        have hl : j < ρ.length := (List.getElem?_eq_some_iff.mp hi).1
        rw [List.getElem?_set_self hl] at h
        cases h
      · rw [List.getElem?_set_ne (Ne.symm hj)] at h
        rw [upM_ne hj]; exact x.ok.at_ j T h
    · by_cases hj : j = i
      · subst hj; rw [upM_same] at h; cases h
      · rw [upM_ne hj] at h; exact x.ok.own j a o h
    · by_cases hj : j = i
      · subst hj; rw [upM_same] at h; cases h
      · by_cases hk : k = i
        · subst hk; rw [upM_same] at h'; cases h'
        · rw [upM_ne hj] at h; rw [upM_ne hk] at h'
          exact x.ok.apart j k a o o' h h'
    · by_cases hj : j = i
      · subst hj; rw [upM_same] at h; cases h
      · rw [upM_ne hj] at h; exact x.mb j a o h
  refine ⟨_, y.push q fun a o h => ⟨(x.ok.own i a o h).1, (x.ok.own i a o h).2, x.mb i a o h, fun j o' h' => ?_⟩⟩
  by_cases hj : j = i
  · subst hj; rw [upM_same] at h'; cases h'
  · rw [upM_ne hj] at h'; exact hj (x.ok.apart j i a o' o h' h)
end

inductive Out where
  | next (ρ : Env) | ret (S : Slot) (ρ : Env) | brk (ρ : Env) | cont (ρ : Env) | raise (c : Ec) (ρ : Env)
def EndOk (K : PySem.W.Frag) (W : Wc) (B F0 : Hp) (D : Ends) : Out → Prop
  | .next ρ => ∀ F σ H M, PInv K B F0 ρ F σ H M → D.nx σ H
  | .ret S ρ => ∀ v F σ H M, PInv K B F0 (some S :: ρ) F (some v :: σ) H M → D.rt v H
  | .brk ρ => ∀ F σ H M, PInv K B F0 ρ F σ H M → D.bk σ H
  | .cont ρ => ∀ F σ H M, PInv K B F0 ρ F σ H M → D.ct σ H
  | .raise c ρ => ∀ F σ H M, PInv K B F0 ρ F σ H M → W c σ H
/-- a block ends as Φ tells -/
def Sxs (X : Cx) (W : Wc) (sts : List Stmt) (ρ : Env) (Φ : Out → Prop) : Prop :=
  ∀ (pins : List (Addr × Obj)) (s : Shared) (σ : St) (F H : Hp) (M : Nat → Mini) (B F0 : Hp) (D : Ends), Inv X pins σ H s → PInv X.K B F0 ρ F σ H M → (∀ o, Φ o → EndOk X.K W B F0 D o) →
    wpAny (model X.prog X.w) X.A (execs sts X.env) (SP X pins D) X.xe s
def tSxs (X : Cx) (W : Wc) (sts : List Stmt) : TS := fun D σ H => ∃ ρ Φ F M B F0, Sxs X W sts ρ Φ ∧ PInv X.K B F0 ρ F σ H M ∧ (∀ o, Φ o → EndOk X.K W B F0 D o)
theorem pss_Sxs (X : Cx) (W : Wc) (sts : List Stmt) : PSs X sts (tSxs X W sts) := ⟨fun pins s σ H D I ⟨ρ, Φ, F, M, B, F0, h, ok, q⟩ => h pins s σ F H M B F0 D I ok q⟩
/-- what a block is to reach so that rest follows -/
def thenS (X : Cx) (W : Wc) (rest : List Stmt) (Φ : Out → Prop) : Out → Prop
  | .next ρ => Sxs X W rest ρ Φ
  | o => Φ o
section
variable {X : Cx} {W : Wc} {ρ : Env} {st : Stmt} {rest : List Stmt} {Φ : Out → Prop} {e : Expr} {pos : Pos}
theorem sxs_nil (h : Φ (.next ρ)) : Sxs X W [] ρ Φ := fun pins s σ F H M B F0 D I ok q => wpAny_execs_nil ⟨σ, H, I, q _ h F σ H M ok⟩
theorem sxs_of {t : TS} (h1 : PS X st t)
    (k : ∀ (σ : St) (F H : Hp) (M : Nat → Mini) (B F0 : Hp) (D : Ends), PInv X.K B F0 ρ F σ H M → (∀ o, Φ o → EndOk X.K W B F0 D o) → t { D with nx := tSxs X W rest D } σ H) : Sxs X W (st :: rest) ρ Φ :=
  fun pins s σ F H M B F0 D I ok q => (pss_cons h1 (pss_Sxs X W rest)).run pins s σ H D I (k σ F H M B F0 D ok q)
theorem thenS_ok {D : Ends} {B F0 : Hp} (q : ∀ o, Φ o → EndOk X.K W B F0 D o) : ∀ o, thenS X W rest Φ o → EndOk X.K W B F0 { D with nx := tSxs X W rest D } o
  | .next ρ', h => fun F σ H M ok => ⟨ρ', Φ, F, M, B, F0, h, ok, q⟩
  | .ret S ρ', h => q (.ret S ρ') h
  | .brk ρ', h => q (.brk ρ') h
  | .cont ρ', h => q (.cont ρ') h
  | .raise c ρ', h => q (.raise c ρ') h
theorem sxs_weak {sts : List Stmt} {ρ' : Env} (w : Wk ρ ρ') (h : Sxs X W sts ρ' Φ) : Sxs X W sts ρ Φ := fun pins s σ F H M B F0 D I ok q => h pins s σ F H M B F0 D I (ok.weak w) q
theorem sxs_mono {sts : List Stmt} {Φ' : Out → Prop} (h : Sxs X W sts ρ Φ) (m : ∀ o, Φ o → Φ' o) : Sxs X W sts ρ Φ' := fun pins s σ F H M B F0 D I ok q => h pins s σ F H M B F0 D I ok fun o z => q o (m o z)
theorem sxs_freeze {sts : List Stmt} (i : Nat) {p : Option Addr} {ds : List PyData} (hi : ρ[i]? = some (some (ow p ds))) (h : Sxs X W sts (ρ.set i (some (fz (.list ds)))) Φ) : Sxs X W sts ρ Φ := fun pins s σ F H M B F0 D I ok q => by
  obtain ⟨F', M', ok'⟩ := ok.freeze hi
  exact h pins s σ F' H M' B F0 D I ok' q
/-- the reading of a frozen value within a statement -/
theorem rdR {r : Except Ec PyData} {σ : St} {F H B F0 : Hp} {M : Nat → Mini} {D : Ends} {Q : VK} (ok : PInv X.K B F0 ρ F σ H M) (q : ∀ o, Φ o → EndOk X.K W B F0 D o)
    (h : ∀ d, r = .ok d → ∀ v F' H', PInv X.K B F0 ρ F' σ H' M → Dq X.K F' v d → Q v H') (hr : ∀ c, r = .error c → Φ (.raise c ρ)) : tR X W ρ r σ H Q :=
  ⟨F, M, ok.ok, fun d hd v F' H' x dv => h d hd v F' H' (ok.ext x) dv, fun c hc F' H' x => q _ (hr c hc) F' σ H' M (ok.ext x)⟩
/-- x = e -/
theorem sxs_setR (i : Nat) {x : Str} {pos' : Pos} {r : Except Ec PyData} (he : EvR X W ρ e r) (k : ∀ d, r = .ok d → Sxs X W rest (ρ.set i (some (fz d))) Φ) (kr : ∀ c, r = .error c → Φ (.raise c ρ))
    (hN : X.N.Nodup) (hi : X.N[i]? = some x) (hx : Loc X.env.scope x) (hs : swapsWith e (some (.Name x pos')) pos.line X.env = pure false) (hf : X.fn x = true ∨ X.env.scope.names.lookup x = some .local) :
    Sxs X W (.Assign [.Name x pos'] e pos :: rest) ρ Φ :=
  sxs_of (ps_set hN hi hx he.pe hs hf) fun σ F H M B F0 D ok q => rdR ok q (fun d hd v F' H' ok' dv => ⟨_, Φ, F', _, B, F0, k d hd, ok'.setF dv, q⟩) kr
theorem sxs_set (i : Nat) {x : Str} {pos' : Pos} {d : PyData} (he : Ev X W ρ e d) (k : Sxs X W rest (ρ.set i (some (fz d))) Φ) (hN : X.N.Nodup)
    (hi : X.N[i]? = some x := by rfl) (hx : Loc X.env.scope x := by first | exact Or.inl rfl | exact Or.inr rfl) (hs : swapsWith e (some (.Name x pos')) pos.line X.env = pure false := by rfl)
    (hf : X.fn x = true ∨ X.env.scope.names.lookup x = some .local := by first | exact .inl rfl | exact .inr rfl) :
    Sxs X W (.Assign [.Name x pos'] e pos :: rest) ρ Φ := sxs_setR i he (fun d' hd => by cases hd; exact k) (fun c hc => nomatch hc) hN hi hx hs hf
def tFr (X : Cx) (ρ : Env) (ds : List PyData) : TE := fun σ H Q => ∃ F M, EOk X.K ρ F σ H M ∧ (∀ a vs F' H', Ext F H F' H' → H a = none → F' a = none → H' a = some (.lst vs) → DqAll X.K F' vs ds → Q (.ref a) H')
theorem Fr.pe {ds : List PyData} (h : Fr X W ρ e ds) : PE X e (tFr X ρ ds) := ⟨fun pins s σ H Q I ⟨F, M, ok, h1⟩ => h pins s σ F H M Q I ok h1⟩
/-- x = a new list, owned from then on -/
theorem sxs_setF (i : Nat) {x : Str} {pos' : Pos} {ds : List PyData} (he : Fr X W ρ e ds) (k : Sxs X W rest (ρ.set i (some (ow none ds))) Φ) (hN : X.N.Nodup)
    (hi : X.N[i]? = some x := by rfl) (hx : Loc X.env.scope x := by first | exact Or.inl rfl | exact Or.inr rfl) (hs : swapsWith e (some (.Name x pos')) pos.line X.env = pure false := by rfl)
    (hf : X.fn x = true ∨ X.env.scope.names.lookup x = some .local := by first | exact .inl rfl | exact .inr rfl) :
    Sxs X W (.Assign [.Name x pos'] e pos :: rest) ρ Φ :=
  sxs_of (ps_set hN hi hx he.pe hs hf) fun σ F H M B F0 D ok q => ⟨F, M, ok.ok, fun a vs F' H' x n n' ha dv => ⟨_, Φ, F', _, B, F0, k, ok.setO x n n' ha dv, q⟩⟩
/-- e; its value dropped -/
theorem sxs_exprR {r : Except Ec PyData} (he : EvR X W ρ e r) (k : ∀ d, r = .ok d → Sxs X W rest ρ Φ) (kr : ∀ c, r = .error c → Φ (.raise c ρ)) (hs : swapsWith e none pos.line X.env = pure false := by rfl) : Sxs X W (.Expr e pos :: rest) ρ Φ :=
  sxs_of (ps_expr he.pe hs) fun σ F H M B F0 D ok q => rdR ok q (fun d hd v F' H' ok' dv => ⟨_, Φ, F', _, B, F0, k d hd, ok', q⟩) kr
/-- return e -/
theorem sxs_retR {r : Except Ec PyData} (he : EvR X W ρ e r) (k : ∀ d, r = .ok d → Φ (.ret (fz d) ρ)) (kr : ∀ c, r = .error c → Φ (.raise c ρ)) : Sxs X W (.Return (some e) pos :: rest) ρ Φ :=
  sxs_of (ps_ret he.pe) fun σ F H M B F0 D ok q => rdR ok q (fun d hd v F' H' ok' dv => q _ (k d hd) v F' σ H' _ (ok'.pushF dv)) kr
theorem sxs_ret {d : PyData} (he : Ev X W ρ e d) (k : Φ (.ret (fz d) ρ)) : Sxs X W (.Return (some e) pos :: rest) ρ Φ := sxs_retR he (fun d' hd => by cases hd; exact k) fun c hc => nomatch hc
theorem sxs_retN (k : Φ (.ret (fz .none) ρ)) : Sxs X W (.Return none pos :: rest) ρ Φ :=
  sxs_of ps_retN fun σ F H M B F0 D ok q => q _ k .non F σ H _ (ok.pushF .non)
/-- return of a new list; of an owned one -/
theorem sxs_retF {ds : List PyData} (he : Fr X W ρ e ds) (k : Φ (.ret (ow none ds) ρ)) : Sxs X W (.Return (some e) pos :: rest) ρ Φ :=
  sxs_of (ps_ret he.pe) fun σ F H M B F0 D ok q => ⟨F, M, ok.ok, fun a vs F' H' x n n' ha dv => q _ k (.ref a) F' σ H' _ ((ok.ext x).push ⟨a, vs, rfl, rfl, (fun q h => nomatch h), dv⟩ fun b o hb => by
    have hb' : (b, o) = (a, HO.lst vs) := by simpa using hb
    cases hb'
    refine ⟨ha, n', ok.base.free n, fun j o' hm => ?_⟩
    have z := (ok.ok.own j _ o' hm).1
    rw [n] at z; cases z)⟩
theorem sxs_retO (i : Nat) {x : Str} {pos' : Pos} {S : Slot} (hd : ρ[i]? = some (some S)) (k : Φ (.ret S (ρ.set i none))) (hN : X.N[i]? = some x := by rfl) (hv : Vis X.env.scope x := by first | exact Or.inl rfl | exact Or.inr (Or.inl rfl) | exact Or.inr (Or.inr rfl))
    (h1 : (x == ("__debug__" : Str)) = false := by decide) (h2 : (x == ("__classdict__" : Str)) = false := by decide) : Sxs X W (.Return (some (.Name x pos')) pos :: rest) ρ Φ :=
  sxs_of (ps_ret (pe_var hN hv h1 h2)) fun σ F H M B F0 D ok q => by
    obtain ⟨v, e, _⟩ := ok.ok.at_ i _ hd
    obtain ⟨M', ok'⟩ := ok.pull hd e
    exact ⟨v, e, q _ k v F σ H M' ok'⟩
theorem sxs_pass (k : Sxs X W rest ρ Φ) : Sxs X W (.Pass pos :: rest) ρ Φ := sxs_of ps_pass fun σ F H M B F0 D ok q => ⟨ρ, Φ, F, M, B, F0, k, ok, q⟩
theorem sxs_break (k : Φ (.brk ρ)) : Sxs X W (.Break pos :: rest) ρ Φ := sxs_of ps_break fun σ F H M B F0 D ok q => q _ k F σ H M ok
theorem sxs_continue (k : Φ (.cont ρ)) : Sxs X W (.Continue pos :: rest) ρ Φ := sxs_of ps_continue fun σ F H M B F0 D ok q => q _ k F σ H M ok
theorem sxs_doc {x j pos'} (k : Sxs X W rest ρ Φ) : Sxs X W (.Expr (.Constant (.str x) j pos) pos' :: rest) ρ Φ := sxs_of ps_doc fun σ F H M B F0 D ok q => ⟨ρ, Φ, F, M, B, F0, k, ok, q⟩
/-- if c: a else: b -/
theorem sxs_if {c : Expr} {a b : List Stmt} {t : Bool} (hc : Tst X W ρ c t) (ha : t = true → Sxs X W a ρ (thenS X W rest Φ)) (hb : t = false → Sxs X W b ρ (thenS X W rest Φ)) : Sxs X W (.If c a b pos :: rest) ρ Φ :=
  sxs_of (ps_if hc.pt (pss_Sxs X W a) (pss_Sxs X W b)) fun σ F H M B F0 D ok q => ⟨F, M, ok.ok, fun F' H' x => by
    cases t with
    | true => exact iteT ⟨ρ, _, F', M, B, F0, ha rfl, ok.ext x, thenS_ok q⟩
    | false => exact iteF ⟨ρ, _, F', M, B, F0, hb rfl, ok.ext x, thenS_ok q⟩⟩
/-- .. both ways lead to one environment -/
def joinS (ρ' : Env) (Φ : Out → Prop) : Out → Prop
  | .next ρ => Wk ρ ρ'
  | o => Φ o
theorem sxs_ifJ (ρ' : Env) {c : Expr} {a b : List Stmt} {t : Bool} (hc : Tst X W ρ c t) (ha : t = true → Sxs X W a ρ (joinS ρ' Φ)) (hb : t = false → Sxs X W b ρ (joinS ρ' Φ)) (k : Sxs X W rest ρ' Φ) : Sxs X W (.If c a b pos :: rest) ρ Φ := by
  have m : ∀ o, joinS ρ' Φ o → thenS X W rest Φ o := fun o h => by
    cases o with
    | next ρ1 => exact sxs_weak h k
    | _ => exact h
  exact sxs_if hc (fun h => sxs_mono (ha h) m) fun h => sxs_mono (hb h) m
theorem Wk.refl (ρ : Env) : Wk ρ ρ := ⟨rfl, fun _ _ h => h⟩
end
end PV

/-! The pure-value layer: expressions. -/
namespace PV
open PySem PySem.Spec PyProof.Rows L2

/-- what every body brings along: C where the classes of errors stand, k the room for calls -/
structure Ctx (X : Cx) (C : Ec → Addr) (W : Wc) (k : Nat) : Prop where
  calm : X.calm = true
  room : Room k X.A
  nd : X.N.Nodup
  po : PassesOwn (model X.prog X.w) X.A X.env X.xe
  tk : Takes X (fun cls d σ H => ∃ c, cls = .ref (C c) ∧ d = none ∧ W c σ H)
theorem Ctx.mono {X : Cx} {C : Ec → Addr} {W : Wc} {j k : Nat} (c : Ctx X C W k) (h : j ≤ k) : Ctx X C W j := ⟨c.calm, c.room.mono h, c.nd, c.po, c.tk⟩
/-- the built-ins that no name of the module hides -/
structure Blt (mg : Str → Option Value) : Prop where
  len : mg "len" = none
  range : mg "range" = none
  max : mg "max" = none
  min : mg "min" = none
  enumerate : mg "enumerate" = none
  zip : mg "zip" = none
  isinstance : mg "isinstance" = none
  list : mg "list" = none
  dict : mg "dict" = none
  int : mg "int" = none
  str : mg "str" = none
  bool : mg "bool" = none
  tuple : mg "tuple" = none
  sum : mg "sum" = none
  any : mg "any" = none
  all : mg "all" = none
  sorted : mg "sorted" = none

theorem dq_lst {K : PySem.W.Frag} {F : Hp} {v : V} {ds : List PyData} (h : Dq K F v (.list ds)) : ∃ a vs, v = .ref a ∧ Rd F a (.lst vs) ∧ DqAll K F vs ds := by
  cases h with
  | lst h1 h2 => exact ⟨_, _, rfl, h1, h2⟩
theorem dq_tup {K : PySem.W.Frag} {F : Hp} {v : V} {ds : List PyData} (h : Dq K F v (.tuple ds)) : ∃ a vs, v = .ref a ∧ SqT K F a vs ∧ DqAll K F vs ds := by
  cases h with
  | tup h1 h2 => exact ⟨_, _, rfl, h1, h2⟩
section
variable {X : Cx} {W : Wc} {ρ : Env} {e a b : Expr} {es : List Expr} {pos : Pos} {C : Ec → Addr} {k : Nat}
theorem Ev.bv {ds : List PyData} (h : Ev X W ρ e (.list ds)) : Bv X W ρ e ds := fun pins s σ F H M Q I ok q => h pins s σ F H M Q I ok (fun d hd v F' H' x dv => by
  cases hd
  obtain ⟨p, vs, rfl, h1, h2⟩ := dq_lst dv
  exact q _ F' H' x ⟨p, vs, rfl, same_rd x.sub h1, h2⟩) fun c hc => nomatch hc
theorem Fr.bv {ds : List PyData} (h : Fr X W ρ e ds) : Bv X W ρ e ds := fun pins s σ F H M Q I ok q => h pins s σ F H M Q I ok fun p vs F' H' x n n' hp dv => q _ F' H' x ⟨p, vs, rfl, .of hp, dv⟩
theorem Fr.ev {ds : List PyData} (h : Fr X W ρ e ds) : Ev X W ρ e (.list ds) := fun pins s σ F H M Q I ok q _ => h pins s σ F H M Q I ok fun p vs F' H' x n n' hp dv => by
  have x' := x.freeze n n' hp
  refine q _ rfl _ _ H' x' (.lst (.of upd_same) (dqAll_mono (fun b u e => ?_) _ _ dv))
  rw [upd_ne (ne_of_none e n')]; exact e
/-- readable in the heap as it is -/
def Rv (X : Cx) (W : Wc) (ρ : Env) (e : Expr) (d : PyData) : Prop :=
  ∀ (pins : List (Addr × Obj)) (s : Shared) (σ : St) (F H : Hp) (M : Nat → Mini) (Q : VK), Inv X pins σ H s → EOk X.K ρ F σ H M →
    (∀ v F' H', Ext F H F' H' → Dq X.K H' v d → Q v H') →
    wpAny (model X.prog X.w) X.A (eval e X.env) (EP X pins σ Q) X.xe s
theorem Ev.rv {d : PyData} (h : Ev X W ρ e d) : Rv X W ρ e d := fun pins s σ F H M Q I ok q => h pins s σ F H M Q I ok (fun d' hd v F' H' x dv => by
  cases hd
  exact q v F' H' x (dq_mono x.sub _ _ dv)) fun c hc => nomatch hc
theorem Bv.rv {ds : List PyData} (h : Bv X W ρ e ds) : Rv X W ρ e (.list ds) := fun pins s σ F H M Q I ok q => h pins s σ F H M Q I ok fun v F' H' x ⟨p, vs, e1, h1, h2⟩ => by
  subst e1
  exact q _ F' H' x (.lst h1 (dqAll_mono x.sub _ _ h2))
def tRv (X : Cx) (ρ : Env) (d : PyData) : TE := fun σ H Q => ∃ F M, EOk X.K ρ F σ H M ∧ (∀ v F' H', Ext F H F' H' → Dq X.K H' v d → Q v H')
theorem Rv.pe {d : PyData} (h : Rv X W ρ e d) : PE X e (tRv X ρ d) := ⟨fun pins s σ H Q I ⟨F, M, ok, h1⟩ => h pins s σ F H M Q I ok h1⟩

/-! ### arguments, displays -/
theorem eva_nil : EvA X W ρ [] (.ok []) := fun pos pins s σ F H M Q I ok h _ => pa_nil.run pos pins s σ H Q I (h _ rfl _ F H (.refl ok.sub) .nil)
theorem eva_cons {d : PyData} {ds : List PyData} (ha : Ev X W ρ e d) (hr : EvA X W ρ es (.ok ds)) (hs : starEach (e :: es) X.env = (false, eval e X.env) :: starEach es X.env := by rfl) : EvA X W ρ (e :: es) (.ok (d :: ds)) :=
  fun pos pins s σ F H M Q I ok h _ => (pa_cons ha.pe hr.pa hs).run pos pins s σ H Q I (rd ok fun v F1 H1 x1 dv => ⟨F1, M, ok.ext x1, fun ds' hd vs F2 H2 x2 dvs => by
    cases hd
    exact h _ rfl _ F2 H2 (x1.trans x2) (.cons (dq_mono x2.f _ _ dv) dvs), fun c hc => nomatch hc⟩)
/-- .. where one may raise -/
theorem eva_consR {r : Except Ec PyData} {g : PyData → Except Ec (List PyData)} (ha : EvR X W ρ e r) (hr : ∀ d, r = .ok d → EvA X W ρ es (g d)) (hs : starEach (e :: es) X.env = (false, eval e X.env) :: starEach es X.env := by rfl) :
    EvA X W ρ (e :: es) (r.bind fun d => (g d).map (d :: ·)) := by
  intro pos pins s σ F H M Q I ok h hE
  cases r with
  | ok d =>
    exact (pa_cons ha.pe (hr d rfl).pa hs).run pos pins s σ H Q I (rd ok fun v F1 H1 x1 dv => ⟨F1, M, ok.ext x1, fun ds hd vs F2 H2 x2 dvs => by
      refine h (d :: ds) ?_ _ F2 H2 (x1.trans x2) (.cons (dq_mono x2.f _ _ dv) dvs)
      show (g d).map (d :: ·) = _
      rw [hd]; rfl, fun c hc F2 H2 x2 => by
      refine hE c ?_ F2 H2 (x1.trans x2)
      show (g d).map (d :: ·) = _
      rw [hc]; rfl⟩)
  | error c =>
    have hp : PE X e (fun σ H Q => ∃ F M, EOk X.K ρ F σ H M ∧ ∀ F' H', Ext F H F' H' → W c σ H') := ⟨fun pins s σ H Q I ⟨F, M, ok, z⟩ => ha pins s σ F H M Q I ok (fun d hd => nomatch hd) fun c' hc => by cases hc; exact z⟩
    exact (pa_cons hp (t := fun _ _ _ => False) ⟨fun _ _ _ _ _ _ _ z => z.elim⟩ hs).run pos pins s σ H Q I ⟨F, M, ok, fun F' H' x => hE c rfl F' H' x⟩
/-- arguments of which nothing is kept: readable ones -/
def RvA (X : Cx) (W : Wc) (ρ : Env) (es : List Expr) (ds : List PyData) : Prop :=
  ∀ (pos : Pos) (pins : List (Addr × Obj)) (s : Shared) (σ : St) (F H : Hp) (M : Nat → Mini) (Q : List V → Hp → Prop), Inv X pins σ H s → EOk X.K ρ F σ H M →
    (∀ vs F' H', Ext F H F' H' → DqAll X.K H' vs ds → Q vs H') → wpAny (model X.prog X.w) X.A (spliced (backTo pos (starEach es X.env))) (AP X pins σ Q) X.xe s
def tRvA (X : Cx) (ρ : Env) (ds : List PyData) : TA := fun σ H Q => ∃ F M, EOk X.K ρ F σ H M ∧ (∀ vs F' H', Ext F H F' H' → DqAll X.K H' vs ds → Q vs H')
theorem RvA.pa {ds : List PyData} (h : RvA X W ρ es ds) : PA X es (tRvA X ρ ds) := ⟨fun pos pins s σ H Q I ⟨F, M, ok, h1⟩ => h pos pins s σ F H M Q I ok h1⟩
theorem rva_nil : RvA X W ρ [] [] := fun pos pins s σ F H M Q I ok h => pa_nil.run pos pins s σ H Q I (h _ F H (.refl ok.sub) .nil)
theorem rva_cons {d : PyData} {ds : List PyData} (ha : Rv X W ρ e d) (hr : RvA X W ρ es ds) (hs : starEach (e :: es) X.env = (false, eval e X.env) :: starEach es X.env := by rfl) : RvA X W ρ (e :: es) (d :: ds) :=
  fun pos pins s σ F H M Q I ok h => (pa_cons ha.pe hr.pa hs).run pos pins s σ H Q I ⟨F, M, ok, fun v F1 H1 x1 dv => ⟨F1, M, ok.ext x1, fun vs F2 H2 x2 dvs => h _ F2 H2 (x1.trans x2) (.cons (dq_mono x2.h _ _ dv) dvs)⟩⟩
theorem sz_of {K : PySem.W.Frag} {H : Hp} {vs : List V} {ds : List PyData} (h : DqAll K H vs ds) (c : ds.length ≤ sizeLine) : vs.length ≤ sizeLine := by rw [DqAll_len h]; exact c
theorem small {n : Nat} (h : n ≤ 1000) : n ≤ sizeLine := Nat.le_trans h (by decide)
theorem ev_tup {kk : Nat} {ds : List PyData} (ha : EvA X W ρ es (.ok ds)) (c : ds.length ≤ sizeLine := by exact PV.small (by simp)) : Ev X W ρ (.Tuple es kk pos) (.tuple ds) :=
  ev1_of (pe_tup ha.pa) fun σ F H M Q ok h => ⟨F, M, ok, fun ds' hd vs F' H' x dvs => by
    cases hd
    refine ⟨sz_of dvs c, fun p hp => ?_⟩
    have y := Ext.laid (o := .tup vs) x.sub hp
    exact h _ _ _ (x.trans y) (.tup (.of upd_same) (dqAll_mono y.f _ _ dvs)), fun c hc => nomatch hc⟩
theorem fr_lst {ds : List PyData} (ha : EvA X W ρ es (.ok ds)) (c : ds.length ≤ sizeLine := by exact PV.small (by simp)) : Fr X W ρ (.List es pos) ds :=
  fun pins s σ F H M Q I ok h => (pe_lst ha.pa).run pins s σ H Q I ⟨F, M, ok, fun ds' hd vs F' H' x dvs => by
    cases hd
    refine ⟨sz_of dvs c, fun p hp => ?_⟩
    exact h p vs F' _ (x.trans (.beside x.sub hp)) (x.h.free hp) (x.sub.free hp) upd_same dvs, fun c hc => nomatch hc⟩

/-! ### subscripts -/
theorem atI_dq {K : PySem.W.Frag} {H : Hp} {vs : List V} {ds : List PyData} {i : Int} {d : PyData} (h : DqAll K H vs ds) (e : atI ds i = some d) : ∃ v, atI vs i = some v ∧ Dq K H v d := by
  unfold atI at e ⊢
  rw [DqAll_len h]
  cases q : ixN ds.length i with
  | none => rw [q] at e; cases e
  | some j =>
    rw [q] at e
    obtain ⟨v, h1, h2⟩ := DqAll_get h (show ds[j]? = some d from e)
    exact ⟨v, h1, h2⟩
theorem ev_ixT {ds : List PyData} {i : Int} {d : PyData} (ha : Ev X W ρ a (.tuple ds)) (hb : Ev X W ρ b (.int i)) (e : atI ds i = some d) (hs : PlainIx b := by exact fun _ _ => rfl) : Ev X W ρ (.Subscript a b pos) d :=
  ev1_of (pe_ix ix_tup ha.pe hb.pe hs) fun σ F H M Q ok h => rd ok fun x F1 H1 e1 dx => rd (ok.ext e1) fun y F2 H2 e2 dy => by
    obtain ⟨p, vs, rfl, h1, h2⟩ := dq_tup dx
    obtain ⟨v, h3, h4⟩ := atI_dq h2 e
    exact ⟨p, vs, i, v, rfl, dq_int dy, same_seqT (e2.f.trans e2.sub) h1, h3, h v F2 H2 (e1.trans e2) (dq_mono e2.f _ _ h4)⟩
theorem ev_ixL {ds : List PyData} {i : Int} {d : PyData} (ha : Bw X W ρ a ds) (hb : Ev X W ρ b (.int i)) (e : atI ds i = some d) (hs : PlainIx b := by exact fun _ _ => rfl) : Ev X W ρ (.Subscript a b pos) d :=
  ev1_of (pe_ix ix_list ha.pe hb.pe hs) fun σ F H M Q ok h => ⟨F, M, ok, fun x F1 H1 e1 ⟨p, vs, ex, h1, h2⟩ => rd (ok.ext e1) fun y F2 H2 e2 dy => by
    subst ex
    obtain ⟨v, h3, h4⟩ := atI_dq h2 e
    exact ⟨p, vs, i, v, rfl, dq_int dy, e2.h.seq h1, h3, h v F2 H2 (e1.trans e2) (dq_mono e2.f _ _ h4)⟩⟩
theorem ev_ixS {z : Str} {i : Int} {c : Nat} (ha : Ev X W ρ a (.str z)) (hb : Ev X W ρ b (.int i)) (hz : z.length ≤ sizeLine) (e : atI z.cps.toList i = some c) (hs : PlainIx b := by exact fun _ _ => rfl) : Ev X W ρ (.Subscript a b pos) (.str ⟨#[c]⟩) :=
  ev1_of (pe_ix ix_str ha.pe hb.pe hs) fun σ F H M Q ok h => rd ok fun x F1 H1 e1 dx => rd (ok.ext e1) fun y F2 H2 e2 dy =>
    ⟨z, i, c, dq_str dx, dq_int dy, hz, e, h _ F2 H2 (e1.trans e2) (.str _)⟩
/-- the parts of a slice -/
def EvO (X : Cx) (W : Wc) (ρ : Env) (e : Option Expr) (o : Option Int) : Prop := match e, o with
  | none, none => True
  | some e, some i => Ev X W ρ e (.int i)
  | _, _ => False
def tEvO (X : Cx) (ρ : Env) (o : Option Int) : TO := fun σ H Q => ∃ F M, EOk X.K ρ F σ H M ∧ ∀ F' H', Ext F H F' H' → Q o H'
theorem EvO.po {e : Option Expr} {o : Option Int} (h : EvO X W ρ e o) : PO X e (tEvO X ρ o) := by
  cases e with
  | none =>
    cases o with
    | none => exact ⟨fun pins s σ H Q I ⟨F, M, ok, z⟩ => po_none.run pins s σ H Q I (z F H (.refl ok.sub))⟩
    | some i => exact h.elim
  | some e =>
    cases o with
    | none => exact h.elim
    | some i =>
      have h' : Ev X W ρ e (.int i) := h
      exact ⟨fun pins s σ H Q I ⟨F, M, ok, z⟩ => (po_some h'.pe).run pins s σ H Q I (rd ok fun v F' H' x dv => ⟨i, dq_int dv, z F' H' x⟩)⟩
def cutD (xs : List PyData) (lo hi : Option Int) : List PyData := (xs.drop (HT.sIx xs.length 0 lo)).take (HT.sIx xs.length xs.length hi - HT.sIx xs.length 0 lo)
theorem fr_slice {ds : List PyData} {lo hi : Option Expr} {l u : Option Int} {p2 : Pos} (ha : Bw X W ρ a ds) (hl : EvO X W ρ lo l) (hu : EvO X W ρ hi u) : Fr X W ρ (.Subscript a (.Slice lo hi none p2) pos) (cutD ds l u) :=
  fun pins s σ F H M Q I ok h => (pe_slice sl_list ha.pe hl.po hu.po).run pins s σ H Q I ⟨F, M, ok, fun x F1 H1 e1 ⟨p, vs, ex, h1, h2⟩ => ⟨F1, M, ok.ext e1, fun F2 H2 e2 => ⟨F2, M, (ok.ext e1).ext e2, fun F3 H3 e3 => by
    subst ex
    refine ⟨p, vs, rfl, (e2.h.trans e3.h).seq h1, fun q hq => ?_⟩
    have x := (e1.trans e2).trans e3
    have e : DqAll X.K F3 (cutV vs l u) (cutD ds l u) := by
      unfold cutV cutD
      rw [DqAll_len h2]
      exact DqAll_take _ (DqAll_drop _ (dqAll_mono (e2.f.trans e3.f) _ _ h2))
    exact h q _ F3 _ (x.trans (.beside x.sub hq)) (x.h.free hq) (x.sub.free hq) upd_same e⟩⟩⟩
theorem ev_sliceS {z : Str} {lo hi : Option Expr} {l u : Option Int} {p2 : Pos} (ha : Ev X W ρ a (.str z)) (hl : EvO X W ρ lo l) (hu : EvO X W ρ hi u) (c : z.length ≤ sizeLine) : Ev X W ρ (.Subscript a (.Slice lo hi none p2) pos) (.str (cutS z l u)) :=
  ev1_of (pe_slice sl_str ha.pe hl.po hu.po) fun σ F H M Q ok h => rd ok fun x F1 H1 e1 dx => ⟨F1, M, ok.ext e1, fun F2 H2 e2 => ⟨F2, M, (ok.ext e1).ext e2, fun F3 H3 e3 =>
    ⟨z, dq_str dx, c, h _ F3 H3 ((e1.trans e2).trans e3) (.str _)⟩⟩⟩

/-! ### lists put together -/
def rCatR : R2 := fun x y H Q => ∃ l b xs zs, x = .ref l ∧ y = .ref b ∧ Rd H l (.lst xs) ∧ Rd H b (.lst zs) ∧ xs.length + zs.length ≤ sizeLine ∧ ∀ p, H p = none → Q (.ref p) (upd H p (.lst (xs ++ zs)))
theorem rd_obj {pins : List (Addr × Obj)} {σ : St} {H : Hp} {s : Shared} {a : Addr} {xs : List V} (I : Inv X pins σ H s) (h : Rd H a (.lst xs)) : ∃ (its : List Value) (n : Nat), Vals xs its ∧ xs.length = its.length ∧ s.heap.get? a = some { cls := .type "list", data := .seq its.toArray n } ∧ xs.length ≤ sizeLine := by
  obtain ⟨z, its, n, r, e⟩ : ObjOk X.prog X.w H s.heap a (.lst xs) := h.ok I.hok
  exact ⟨its, n, r, r.length, e, z⟩
theorem op_catR : OpR X (binaryOp .Add) rCatR := by
  intro pins s σ H x y v u Q I rx ry h
  obtain ⟨l, b, xs, zs, rfl, rfl, hH, hB, hz, q⟩ := h
  cases rx
  cases ry
  obtain ⟨its, n, r, hl, e, z⟩ := rd_obj I hH
  obtain ⟨its2, n2, r2, hl2, e2, z2⟩ := rd_obj I hB
  refine PySem.P.add_list e e2 ?_ (by rw [List.size_toArray, List.size_toArray]; omega)
  have ea : its.toArray ++ its2.toArray = (its ++ its2).toArray := by simp
  rw [ea]
  exact ⟨.ref _, _, I.lnew (t' := s.toks) (r.append r2) (by rw [List.length_append]; omega), rfl, q _ I.fresh⟩
theorem fr_cat {ds es : List PyData} (ha : Bv X W ρ a ds) (hb : Bv X W ρ b es) (c : ds.length + es.length ≤ sizeLine) : Fr X W ρ (.BinOp a .Add b pos) (ds ++ es) :=
  fun pins s σ F H M Q I ok h => (pe_op op_catR ha.pe hb.pe).run pins s σ H Q I ⟨F, M, ok, fun x F1 H1 e1 ⟨p, vs, ex, h1, h2⟩ => ⟨F1, M, ok.ext e1, fun y F2 H2 e2 ⟨q, ws, ey, h3, h4⟩ => by
    subst ex ey
    have x := e1.trans e2
    refine ⟨p, q, vs, ws, rfl, rfl, same_rd e2.h h1, h3, by rw [DqAll_len h2, DqAll_len h4]; exact c, fun l hl => ?_⟩
    exact h l _ F2 _ (x.trans (.beside x.sub hl)) (x.h.free hl) (x.sub.free hl) upd_same (DqAll_app (dqAll_mono e2.f _ _ h2) h4)⟩⟩
/-- list(x) -/
theorem fr_list {p : Pos} {ds : List PyData} (B : Blt X.mg) (ha : Bw X W ρ a ds) (hg : Gl X "list" := by rfl) (he : starEach (a :: []) X.env = (false, eval a X.env) :: starEach [] X.env := by rfl) : Fr X W ρ (.Call (.Name "list" p) [a] [] pos) ds :=
  fun pins s σ F H M Q I ok h => (pe_callTy call_list_of hg B.list (by decide +kernel) (pa_cons ha.pe pa_nil he) (he := he)).run pins s σ H Q I ⟨F, M, ok, fun x F1 H1 e1 ⟨p, vs, ex, h1, h2⟩ => by
    subst ex
    exact ⟨p, vs, rfl, .inl h1, fun l hl => h l _ F1 _ (e1.trans (.beside e1.sub hl)) (e1.h.free hl) (e1.sub.free hl) upd_same h2⟩⟩
/-- len(x) -/
theorem ev_len {p : Pos} {ds : List PyData} (B : Blt X.mg) (ha : Bw X W ρ a ds) (hg : Gl X "len" := by rfl) (he : starEach (a :: []) X.env = (false, eval a X.env) :: starEach [] X.env := by rfl) : Ev X W ρ (.Call (.Name "len" p) [a] [] pos) (.int ds.length) :=
  ev1_of (pe_callB call_len_seq hg B.len PySem.boot_len (pa_cons ha.pe pa_nil he) (he := he)) fun σ F H M Q ok h => ⟨F, M, ok, fun x F1 H1 e1 ⟨p, vs, ex, h1, h2⟩ => by
    subst ex
    refine ⟨p, vs, rfl, .inl h1, ?_⟩
    rw [DqAll_len h2]
    exact h _ F1 H1 e1 (.int _)⟩
theorem ev_lenS {p : Pos} {z : Str} (B : Blt X.mg) (ha : Ev X W ρ a (.str z)) (c : z.length ≤ sizeLine) (hg : Gl X "len" := by rfl) (he : starEach (a :: []) X.env = (false, eval a X.env) :: starEach [] X.env := by rfl) : Ev X W ρ (.Call (.Name "len" p) [a] [] pos) (.int z.length) :=
  ev1_of (pe_callB call_len_str hg B.len PySem.boot_len (pa_cons ha.pe pa_nil he) (he := he)) fun σ F H M Q ok h => rd ok fun x F1 H1 e1 dx => ⟨z, by rw [dq_str dx], c, h _ F1 H1 e1 (.int _)⟩
theorem ev_lenT {p : Pos} {ds : List PyData} (B : Blt X.mg) (ha : Ev X W ρ a (.tuple ds)) (hg : Gl X "len" := by rfl) (he : starEach (a :: []) X.env = (false, eval a X.env) :: starEach [] X.env := by rfl) : Ev X W ρ (.Call (.Name "len" p) [a] [] pos) (.int ds.length) :=
  ev1_of (pe_callB call_len_seq hg B.len PySem.boot_len (pa_cons ha.pe pa_nil he) (he := he)) fun σ F H M Q ok h => rd ok fun x F1 H1 e1 dx => by
    obtain ⟨p, vs, rfl, h1, h2⟩ := dq_tup dx
    refine ⟨p, vs, rfl, .inr (same_seqT e1.sub h1), ?_⟩
    rw [DqAll_len h2]
    exact h _ F1 H1 e1 (.int _)
/-- max(a, b), min(a, b) -/
theorem ev_max {p : Pos} {i j : Int} (c : Ctx X C W k) (B : Blt X.mg) (ha : Ev X W ρ a (.int i)) (hb : Ev X W ρ b (.int j)) (hg : Gl X "max" := by rfl) (he : starEach (a :: [b]) X.env = (false, eval a X.env) :: starEach [b] X.env := by rfl)
    (he2 : starEach (b :: []) X.env = (false, eval b X.env) :: starEach [] X.env := by rfl) (hpl : (backTo pos (starEach [b] X.env)).any (·.1) = false := by rfl) : Ev X W ρ (.Call (.Name "max" p) [a, b] [] pos) (.int (max i j)) :=
  ev1_of (pe_callB (call_max2 c.calm) hg B.max (by decide +kernel) (pa_cons ha.pe (pa_cons hb.pe pa_nil he2) he) (he := he) (hpl := hpl)) fun σ F H M Q ok h => rd ok fun x F1 H1 e1 dx => rd (ok.ext e1) fun y F2 H2 e2 dy => by
    refine ⟨i, j, by rw [dq_int dx, dq_int dy], ?_⟩
    have e : (if j > i then j else i) = max i j := by rw [Int.max_def]; split <;> split <;> omega
    rw [e]
    exact h _ F2 H2 (e1.trans e2) (.int _)
theorem ev_min {p : Pos} {i j : Int} (c : Ctx X C W k) (B : Blt X.mg) (ha : Ev X W ρ a (.int i)) (hb : Ev X W ρ b (.int j)) (hg : Gl X "min" := by rfl) (he : starEach (a :: [b]) X.env = (false, eval a X.env) :: starEach [b] X.env := by rfl)
    (he2 : starEach (b :: []) X.env = (false, eval b X.env) :: starEach [] X.env := by rfl) (hpl : (backTo pos (starEach [b] X.env)).any (·.1) = false := by rfl) : Ev X W ρ (.Call (.Name "min" p) [a, b] [] pos) (.int (min i j)) :=
  ev1_of (pe_callB (call_min2 c.calm) hg B.min (by decide +kernel) (pa_cons ha.pe (pa_cons hb.pe pa_nil he2) he) (he := he) (hpl := hpl)) fun σ F H M Q ok h => rd ok fun x F1 H1 e1 dx => rd (ok.ext e1) fun y F2 H2 e2 dy => by
    refine ⟨i, j, by rw [dq_int dx, dq_int dy], ?_⟩
    have e : (if j < i then j else i) = min i j := by rw [Int.min_def]; split <;> split <;> omega
    rw [e]
    exact h _ F2 H2 (e1.trans e2) (.int _)
/-- str(n) of a number that is not too long -/
theorem ev_strI {p : Pos} {i : Int} (B : Blt X.mg) (ha : Ev X W ρ a (.int i)) (c : i.natAbs.log2 < 1920) (hg : Gl X "str" := by rfl) (he : starEach (a :: []) X.env = (false, eval a X.env) :: starEach [] X.env := by rfl) : Ev X W ρ (.Call (.Name "str" p) [a] [] pos) (.str (toString i)) :=
  ev1_of (pe_callTy call_str_int hg B.str (by decide +kernel) (pa_cons ha.pe pa_nil he) (he := he)) fun σ F H M Q ok h => rd ok fun x F1 H1 e1 dx => ⟨i, by rw [dq_int dx], c, h _ F1 H1 e1 (.str _)⟩
/-- int(b), int(text) -/
theorem ev_intB {p : Pos} {t : Bool} (B : Blt X.mg) (ha : Ev X W ρ a (.bool t)) (hg : Gl X "int" := by rfl) (he : starEach (a :: []) X.env = (false, eval a X.env) :: starEach [] X.env := by rfl) : Ev X W ρ (.Call (.Name "int" p) [a] [] pos) (.int (if t then 1 else 0)) :=
  ev1_of (pe_callTy call_int1 hg B.int (by decide +kernel) (pa_cons ha.pe pa_nil he) (he := he)) fun σ F H M Q ok h => rd ok fun x F1 H1 e1 dx => .inr ⟨t, by rw [dq_bl dx], h _ F1 H1 e1 (.int _)⟩
theorem ev_intS {p : Pos} {z : Str} {n : Int} (B : Blt X.mg) (ha : Ev X W ρ a (.str z)) (c : PySem.intText? z = some n) (c2 : z.length ≤ 640) (hg : Gl X "int" := by rfl) (he : starEach (a :: []) X.env = (false, eval a X.env) :: starEach [] X.env := by rfl) : Ev X W ρ (.Call (.Name "int" p) [a] [] pos) (.int n) :=
  ev1_of (pe_callTy call_int_str hg B.int (by decide +kernel) (pa_cons ha.pe pa_nil he) (he := he)) fun σ F H M Q ok h => rd ok fun x F1 H1 e1 dx => ⟨z, n, by rw [dq_str dx], c, c2, h _ F1 H1 e1 (.int _)⟩

/-! ### comparisons: of two parts, what comes of them -/
def Cm (X : Cx) (W : Wc) (ρ : Env) (op : CmpOp) (a b : Expr) (y : Bool) : Prop :=
  ∀ (pins : List (Addr × Obj)) (s : Shared) (σ : St) (F H : Hp) (M : Nat → Mini) (Q : VK), Inv X pins σ H s → EOk X.K ρ F σ H M → (∀ F' H', Ext F H F' H' → Q (.bl y) H') →
    wpAny (model X.prog X.w) X.A (eval a X.env) (fun v s₁ => wpAny (model X.prog X.w) X.A (eval b X.env) (fun u s₂ => wpAny (model X.prog X.w) X.A (compareOp op v u) (EP X pins σ Q) X.xe s₂) X.xe s₁) X.xe s
def tCm (X : Cx) (ρ : Env) (y : Bool) : TE := fun σ H Q => ∃ F M, EOk X.K ρ F σ H M ∧ ∀ F' H', Ext F H F' H' → Q (.bl y) H'
theorem Cm.pc {op : CmpOp} {y : Bool} (h : Cm X W ρ op a b y) : PC X op a b (tCm X ρ y) := ⟨fun pins s σ H Q I ⟨F, M, ok, q⟩ => h pins s σ F H M Q I ok q⟩
/-- as a value, as a test -/
theorem ev_cm {op : CmpOp} {y : Bool} (h : Cm X W ρ op a b y) (h1 : behindInMarks op b = false := by first | exact nobehind _ (by decide) (by decide) | rfl) : Ev X W ρ (.Compare a [op] [b] pos) (.bool y) :=
  ev1_of (pe_cmp h.pc h1) fun σ F H M Q ok q => ⟨F, M, ok, fun F' H' x => q _ F' H' x (.bl _)⟩
theorem tst_cm {op : CmpOp} {y : Bool} (h : Cm X W ρ op a b y) (h1 : behindInMarks op b = false := by first | exact nobehind _ (by decide) (by decide) | rfl) : Tst X W ρ (.Compare a [op] [b] pos) y :=
  tst_of (pt_cmp h.pc h1) fun σ F H M Q ok q => ⟨F, M, ok, fun F' H' x => ⟨y, rfl, q F' H' x⟩⟩
theorem cm_of {op : CmpOp} {r : R2} {da db : PyData} {y : Bool} (ho : OpR X (compareOp op) r) (ha : Rv X W ρ a da) (hb : Rv X W ρ b db)
    (q : ∀ (x z : V) (H : Hp) (Q : VK), Dq X.K H x da → Dq X.K H z db → Q (.bl y) H → r x z H Q) : Cm X W ρ op a b y := fun pins s σ F H M Q I ok h =>
  binT ha.pe hb.pe I (R := fun x z H2 => r x z H2 Q) ⟨F, M, ok, fun x F1 H1 e1 dx => ⟨F1, M, ok.ext e1, fun z F2 H2 e2 dz => q x z H2 Q (dq_mono e2.h _ _ dx) dz (h F2 H2 (e1.trans e2))⟩⟩
    fun v u s2 x y H2 I2 rx ry q => ho pins s2 σ H2 x y v u Q I2 rx ry q
variable {i j : Int} {x y : Str}
theorem cm_lt (ha : Ev X W ρ a (.int i)) (hb : Ev X W ρ b (.int j)) : Cm X W ρ .Lt a b (decide (i < j)) := cm_of op_lt ha.rv hb.rv fun x y H Q dx dy h => ⟨i, j, dq_int dx, dq_int dy, h⟩
theorem cm_le (ha : Ev X W ρ a (.int i)) (hb : Ev X W ρ b (.int j)) : Cm X W ρ .LtE a b (decide (i ≤ j)) := cm_of op_le ha.rv hb.rv fun x y H Q dx dy h => ⟨i, j, dq_int dx, dq_int dy, h⟩
theorem cm_gt (ha : Ev X W ρ a (.int i)) (hb : Ev X W ρ b (.int j)) : Cm X W ρ .Gt a b (decide (j < i)) := cm_of op_gt ha.rv hb.rv fun x y H Q dx dy h => ⟨i, j, dq_int dx, dq_int dy, h⟩
theorem cm_ge (ha : Ev X W ρ a (.int i)) (hb : Ev X W ρ b (.int j)) : Cm X W ρ .GtE a b (decide (j ≤ i)) := cm_of op_ge ha.rv hb.rv fun x y H Q dx dy h => ⟨i, j, dq_int dx, dq_int dy, h⟩
theorem dec_I : decide (V.int i = V.int j) = decide (i = j) := by rw [Bool.eq_iff_iff]; simp
theorem dec_S : decide (V.str x = V.str y) = decide (x = y) := by rw [Bool.eq_iff_iff]; simp
theorem cm_eq (ha : Ev X W ρ a (.int i)) (hb : Ev X W ρ b (.int j)) : Cm X W ρ .Eq a b (decide (i = j)) := cm_of op_eq ha.rv hb.rv fun x y H Q dx dy h => by
  rw [dq_int dx, dq_int dy]
  exact ⟨rfl, by rw [dec_I]; exact h⟩
theorem cm_ne (ha : Ev X W ρ a (.int i)) (hb : Ev X W ρ b (.int j)) : Cm X W ρ .NotEq a b (!decide (i = j)) := cm_of op_ne ha.rv hb.rv fun x y H Q dx dy h => by
  rw [dq_int dx, dq_int dy]
  exact ⟨rfl, by rw [dec_I]; exact h⟩
theorem cm_eqS (ha : Ev X W ρ a (.str x)) (hb : Ev X W ρ b (.str y)) : Cm X W ρ .Eq a b (decide (x = y)) := cm_of op_eq ha.rv hb.rv fun x y H Q dx dy h => by
  rw [dq_str dx, dq_str dy]
  exact ⟨rfl, by rw [dec_S]; exact h⟩
theorem cm_neS (ha : Ev X W ρ a (.str x)) (hb : Ev X W ρ b (.str y)) : Cm X W ρ .NotEq a b (!decide (x = y)) := cm_of op_ne ha.rv hb.rv fun x y H Q dx dy h => by
  rw [dq_str dx, dq_str dy]
  exact ⟨rfl, by rw [dec_S]; exact h⟩
theorem cm_eqD {da db : PyData} (c : Ctx X C W k) (ha : Rv X W ρ a da) (hb : Rv X W ρ b db) (sa : SeqAt.shaped da = true) (sb : SeqAt.shaped db = true) : Cm X W ρ .Eq a b (PyData.eqv da db) :=
  cm_of (op_eqD c.room.units) ha hb fun x z H Q h1 h2 q => ⟨da, db, h1.dp _ _, h2.dp _ _, sa, sb, q⟩
theorem cm_neD {da db : PyData} (c : Ctx X C W k) (ha : Rv X W ρ a da) (hb : Rv X W ρ b db) (sa : SeqAt.shaped da = true) (sb : SeqAt.shaped db = true) : Cm X W ρ .NotEq a b (!PyData.eqv da db) :=
  cm_of (op_neD c.room.units) ha hb fun x z H Q h1 h2 q => ⟨da, db, h1.dp _ _, h2.dp _ _, sa, sb, q⟩
def isNone : PyData → Bool
  | .none => true
  | _ => false
theorem dq_none {K : PySem.W.Frag} {F : Hp} {v : V} {d : PyData} (h : Dq K F v d) : decide (v = .non) = isNone d := by cases h <;> simp [isNone]
theorem cm_isN {d : PyData} {j pos'} (ha : Ev X W ρ a d) : Cm X W ρ .Is a (.Constant .none j pos') (isNone d) := fun pins s σ F H M Q I ok h => (pc_isN ha.pe).run pins s σ H Q I (rd ok fun x F1 H1 e1 dx => by
  rw [dq_none dx]
  exact h F1 H1 e1)
theorem cm_notN {d : PyData} {j pos'} (ha : Ev X W ρ a d) : Cm X W ρ .IsNot a (.Constant .none j pos') (!isNone d) := fun pins s σ F H M Q I ok h => (pc_notN ha.pe).run pins s σ H Q I (rd ok fun x F1 H1 e1 dx => by
  rw [dq_none dx]
  exact h F1 H1 e1)
/-! in, not in -/
theorem cm_inS (ha : Ev X W ρ a (.str x)) (hb : Ev X W ρ b (.str y)) : Cm X W ρ .In a b (!(Builtin.Str.occurrences y x 0 y.length 1).isEmpty) := cm_of op_in_str ha.rv hb.rv fun u v H Q dx dy h => ⟨x, y, dq_str dx, dq_str dy, h⟩
theorem cm_ninS (ha : Ev X W ρ a (.str x)) (hb : Ev X W ρ b (.str y)) : Cm X W ρ .NotIn a b (!(!(Builtin.Str.occurrences y x 0 y.length 1).isEmpty)) := cm_of op_notin_str ha.rv hb.rv fun u v H Q dx dy h => ⟨x, y, dq_str dx, dq_str dy, h⟩
/-- a text of one sign in a text -/
theorem cm_in1 {c : Nat} (ha : Ev X W ρ a (.str ⟨#[c]⟩)) (hb : Ev X W ρ b (.str y)) : Cm X W ρ .In a b (decide (c ∈ y.cps.toList)) := cm_of op_in_sign ha.rv hb.rv fun u v H Q dx dy h => ⟨c, y, dq_str dx, dq_str dy, h⟩
theorem cm_nin1 {c : Nat} (ha : Ev X W ρ a (.str ⟨#[c]⟩)) (hb : Ev X W ρ b (.str y)) : Cm X W ρ .NotIn a b (!decide (c ∈ y.cps.toList)) := cm_of op_notIn_sign ha.rv hb.rv fun u v H Q dx dy h => ⟨c, y, dq_str dx, dq_str dy, h⟩
/-! a chain of two -/
theorem ev_chain {c : Expr} {op op' : CmpOp} {i j l : Int} {f g : Int → Int → Bool} (ho : OpR X (compareOp op) (rI0 fun i j => .bl (f i j))) (ho' : OpR X (compareOp op') (rI0 fun i j => .bl (g i j))) (ha : Ev X W ρ a (.int i)) (hb : Ev X W ρ b (.int j)) (hc : Ev X W ρ c (.int l))
    (hm : lastMarks [op, op'] [b, c] = false := by with_unfolding_all rfl) : Ev X W ρ (.Compare a [op, op'] [b, c] pos) (.bool (f i j && g j l)) :=
  ev1_of (pe_chain ho ho' ha.pe hb.pe hc.pe hm) fun σ F H M Q ok h => rd ok fun x F1 H1 e1 dx => rd (ok.ext e1) fun y F2 H2 e2 dy => ⟨i, j, dq_int dx, dq_int dy, _, rfl, by
    cases q : f i j with
    | false => exact iteF (by rw [q] at h; exact h _ F2 H2 (e1.trans e2) (.bl _))
    | true => exact iteT (rd ((ok.ext e1).ext e2) fun z F3 H3 e3 dz => ⟨j, l, dq_int dy, dq_int dz, by rw [q] at h; exact h _ F3 H3 ((e1.trans e2).trans e3) (.bl _)⟩)⟩
theorem tst_chain {c : Expr} {op op' : CmpOp} {i j l : Int} {f g : Int → Int → Bool} (ho : OpR X (compareOp op) (rI0 fun i j => .bl (f i j))) (ho' : OpR X (compareOp op') (rI0 fun i j => .bl (g i j))) (ha : Ev X W ρ a (.int i)) (hb : Ev X W ρ b (.int j)) (hc : Ev X W ρ c (.int l))
    (hm : lastMarks [op, op'] [b, c] = false := by with_unfolding_all rfl) : Tst X W ρ (.Compare a [op, op'] [b, c] pos) (f i j && g j l) :=
  tst_of (pt_chain ho ho' ha.pe hb.pe hc.pe hm) fun σ F H M Q ok h => rd ok fun x F1 H1 e1 dx => rd (ok.ext e1) fun y F2 H2 e2 dy => ⟨i, j, dq_int dx, dq_int dy, _, rfl, by
    cases q : f i j with
    | false => exact iteF ⟨_, rfl, by rw [q] at h; exact h F2 H2 (e1.trans e2)⟩
    | true => exact iteT (rd ((ok.ext e1).ext e2) fun z F3 H3 e3 dz => ⟨j, l, dq_int dy, dq_int dz, _, rfl, by rw [q] at h; exact h F3 H3 ((e1.trans e2).trans e3)⟩)⟩

/-! ### tests, and, or, not -/
theorem tst_val {b : Bool} (h : Ev X W ρ e (.bool b)) (he : ∀ whole, isTrue e X.env whole = (do let v ← whole; standAt e.pos; holding [v] (truthy v)) := by intro _; rfl) : Tst X W ρ e b :=
  tst_of (pt_val h.pe he) fun σ F H M Q ok q => rd ok fun v F1 H1 e1 dv => ⟨b, dq_bl dv, q F1 H1 e1⟩
def Tws (X : Cx) (W : Wc) (ρ : Env) (e : Expr) (b : Bool) : Prop :=
  ∀ (whole : Sem Value) (pins : List (Addr × Obj)) (s : Shared) (σ : St) (F H : Hp) (M : Nat → Mini) (Q : Bool → Hp → Prop), Inv X pins σ H s → EOk X.K ρ F σ H M → (∀ F' H', Ext F H F' H' → Q b H') → wpAny (model X.prog X.w) X.A (isTrue e X.env whole) (TP X pins σ Q) X.xe s
theorem Tws.pw {b : Bool} (h : Tws X W ρ e b) : PW X e (tTst X ρ b) := ⟨fun wh pins s σ H Q I ⟨F, M, ok, q⟩ => h wh pins s σ F H M Q I ok q⟩
theorem Tws.tst {b : Bool} (h : Tws X W ρ e b) : Tst X W ρ e b := h _
variable {p q : Bool} {rest : List Expr}
theorem tw_and1 (h : Tst X W ρ a p) : Tws X W ρ (.BoolOp .And [a] pos) p := fun wh pins s σ F H M Q I ok z => (pw_and1 h.pt).run wh pins s σ H Q I ⟨F, M, ok, z⟩
theorem tw_or1 (h : Tst X W ρ a p) : Tws X W ρ (.BoolOp .Or [a] pos) p := fun wh pins s σ F H M Q I ok z => (pw_or1 h.pt).run wh pins s σ H Q I ⟨F, M, ok, z⟩
theorem pw_none {b : Expr} {rest : List Expr} {op : BoolOp} : PW X (.BoolOp op (b :: rest) pos) (fun _ _ _ => False) := ⟨fun _ _ _ _ _ _ _ z => z.elim⟩
theorem tw_and (h : Tst X W ρ a p) (h2 : p = true → Tws X W ρ (.BoolOp .And (b :: rest) pos) q) : Tws X W ρ (.BoolOp .And (a :: b :: rest) pos) (p && q) := fun wh pins s σ F H M Q I ok z => by
  cases p with
  | false => exact (pw_and h.pt pw_none).run wh pins s σ H Q I ⟨F, M, ok, fun F' H' x => iteF (z F' H' x)⟩
  | true => exact (pw_and h.pt (h2 rfl).pw).run wh pins s σ H Q I ⟨F, M, ok, fun F' H' x => iteT ⟨F', M, ok.ext x, fun F2 H2 x2 => z F2 H2 (x.trans x2)⟩⟩
theorem tw_or (h : Tst X W ρ a p) (h2 : p = false → Tws X W ρ (.BoolOp .Or (b :: rest) pos) q) : Tws X W ρ (.BoolOp .Or (a :: b :: rest) pos) (p || q) := fun wh pins s σ F H M Q I ok z => by
  cases p with
  | true => exact (pw_or h.pt pw_none).run wh pins s σ H Q I ⟨F, M, ok, fun F' H' x => iteT (z F' H' x)⟩
  | false => exact (pw_or h.pt (h2 rfl).pw).run wh pins s σ H Q I ⟨F, M, ok, fun F' H' x => iteF ⟨F', M, ok.ext x, fun F2 H2 x2 => z F2 H2 (x.trans x2)⟩⟩
theorem tst_not (h : Tst X W ρ a p) : Tst X W ρ (.UnaryOp .Not a pos) (!p) := tst_of (pt_not h.pt) fun σ F H M Q ok z => ⟨F, M, ok, z⟩
/-! .. as values -/
theorem ev_bo1 {op : BoolOp} {d : PyData} (h : Ev X W ρ a d) : Ev X W ρ (.BoolOp op [a] pos) d := ev1_of (pe_one h.pe) fun σ F H M Q ok z => rd ok z
theorem pe_none {b : Expr} {rest : List Expr} {op : BoolOp} : PE X (.BoolOp op (b :: rest) pos) (fun _ _ _ => False) := ⟨fun _ _ _ _ _ _ z => z.elim⟩
theorem ev_and (h : Ev X W ρ a (.bool p)) (h2 : p = true → Ev X W ρ (.BoolOp .And (b :: rest) pos) (.bool q)) : Ev X W ρ (.BoolOp .And (a :: b :: rest) pos) (.bool (p && q)) := by
  cases p with
  | false => exact ev1_of (pe_and h.pe pe_none) fun σ F H M Q ok z => rd ok fun v F1 H1 e1 dv => ⟨false, dq_bl dv, iteF (z _ F1 H1 e1 (.bl _))⟩
  | true => exact ev1_of (pe_and h.pe (h2 rfl).pe) fun σ F H M Q ok z => rd ok fun v F1 H1 e1 dv => ⟨true, dq_bl dv, iteT (rd (ok.ext e1) fun w F2 H2 e2 dw => z _ F2 H2 (e1.trans e2) dw)⟩
theorem ev_or (h : Ev X W ρ a (.bool p)) (h2 : p = false → Ev X W ρ (.BoolOp .Or (b :: rest) pos) (.bool q)) : Ev X W ρ (.BoolOp .Or (a :: b :: rest) pos) (.bool (p || q)) := by
  cases p with
  | true => exact ev1_of (pe_or h.pe pe_none) fun σ F H M Q ok z => rd ok fun v F1 H1 e1 dv => ⟨true, dq_bl dv, iteT (z _ F1 H1 e1 (.bl _))⟩
  | false => exact ev1_of (pe_or h.pe (h2 rfl).pe) fun σ F H M Q ok z => rd ok fun v F1 H1 e1 dv => ⟨false, dq_bl dv, iteF (rd (ok.ext e1) fun w F2 H2 e2 dw => z _ F2 H2 (e1.trans e2) dw)⟩
theorem ev_not (h : Ev X W ρ a (.bool p)) : Ev X W ρ (.UnaryOp .Not a pos) (.bool (!p)) := ev1_of (pe_not h.pe) fun σ F H M Q ok z => rd ok fun v F1 H1 e1 dv => ⟨p, dq_bl dv, z _ F1 H1 e1 (.bl _)⟩
/-- a if t else b -/
theorem ev_if {t : Expr} {d : PyData} (h : Tst X W ρ t p) (ha : p = true → Ev X W ρ a d) (hb : p = false → Ev X W ρ b d) : Ev X W ρ (.IfExp t a b pos) d := by
  cases p with
  | true => exact ev1_of (pe_ifExp (tb := fun _ _ _ => False) h.pt (ha rfl).pe ⟨fun _ _ _ _ _ _ z => z.elim⟩) fun σ F H M Q ok z => ⟨F, M, ok, fun F' H' x => iteT (rd (ok.ext x) fun v F1 H1 e1 dv => z v F1 H1 (x.trans e1) dv)⟩
  | false => exact ev1_of (pe_ifExp (ta := fun _ _ _ => False) h.pt ⟨fun _ _ _ _ _ _ z => z.elim⟩ (hb rfl).pe) fun σ F H M Q ok z => ⟨F, M, ok, fun F' H' x => iteF (rd (ok.ext x) fun v F1 H1 e1 dv => z v F1 H1 (x.trans e1) dv)⟩
end
end PV

/-! The pure-value layer: targets, loops, comprehensions, calls. -/
namespace PV
open PySem PySem.Spec PyProof.Rows L2

/-! ### targets -/
/-- the names with these numbers get these data -/
def setAll : Env → List Nat → List PyData → Env
  | ρ, i :: is, d :: ds => setAll (ρ.set i (some (fz d))) is ds
  | ρ, _, _ => ρ
def setAllV : St → List Nat → List V → St
  | σ, i :: is, v :: vs => setAllV (σ.set i (some v)) is vs
  | σ, _, _ => σ
/-- what a target takes of an item: itself, or the items of the tuple that it is -/
def tgItems : Bool → PyData → List PyData
  | false, d => [d]
  | true, .tuple ds => ds
  | true, _ => []
def tgFit (t : Bool) (is : List Nat) (d : PyData) : Prop := (t = true → ∃ ds, d = .tuple ds) ∧ (tgItems t d).length = is.length
/-- a target of the names with the numbers is -/
def gNames : List Nat → TGs
  | [] => gNil
  | i :: is => gCons (gName i) (gNames is)
def gOf (K : PySem.W.Frag) : Bool → List Nat → TG
  | true, is => gTup K is.length (gNames is)
  | false, i :: _ => gName i
  | false, [] => fun _ _ _ _ => False
def TgOk (X : Cx) (tg : Expr) (t : Bool) (is : List Nat) : Prop := PG X tg (gOf X.K t is)
def TgsOk (X : Cx) (ts : List Expr) (is : List Nat) : Prop := PGs X ts (gNames is)
theorem gNames_ok : ∀ (is : List Nat) (vs : List V) (σ : St) (H : Hp) (Q : St → Hp → Prop), vs.length = is.length → Q (setAllV σ is vs) H → gNames is vs σ H Q
  | [], [], σ, H, Q, _, q => ⟨rfl, q⟩
  | i :: is, v :: vs, σ, H, Q, hl, q => ⟨v, vs, rfl, gNames_ok is vs _ H Q (by simpa using hl) q⟩
theorem gOf_ok {K : PySem.W.Frag} {t : Bool} {is : List Nat} {v : V} {d : PyData} {σ : St} {F H : Hp} {Q : St → Hp → Prop} (s : Same F H) (h : Dq K F v d) (f : tgFit t is d) (z : ∀ vs, DqAll K F vs (tgItems t d) → Q (setAllV σ is vs) H) : gOf K t is v σ H Q := by
  obtain ⟨f1, f2⟩ := f
  cases t with
  | true =>
    obtain ⟨ds, rfl⟩ := f1 rfl
    obtain ⟨p, vs, rfl, h1, h2⟩ := dq_tup h
    have hl : vs.length = is.length := (DqAll_len h2).trans f2
    exact ⟨p, vs, rfl, same_seqT s h1, hl, gNames_ok is vs σ H Q hl (z vs h2)⟩
  | false =>
    match is, f2 with
    | [i], _ => exact z [v] (.cons h .nil)
section
variable {K : PySem.W.Frag} {B F0 F F' H H' : Hp} {M : Nat → Mini}
theorem PInv.setAll : ∀ {is : List Nat} {ds : List PyData} {vs : List V} {ρ : Env} {σ : St} {M : Nat → Mini}, PInv K B F0 ρ F σ H M → DqAll K F vs ds → ∃ M', PInv K B F0 (PV.setAll ρ is ds) F (setAllV σ is vs) H M'
  | [], _, _, _, _, M, x, _ => ⟨M, by
    cases ‹DqAll K F _ _› <;> exact x⟩
  | i :: is, [], _, _, _, M, x, .nil => ⟨M, x⟩
  | i :: is, d :: ds, v :: vs, _, _, M, x, .cons h t => by
    have y := PInv.setAll (is := is) (PInv.setF (i := i) x h) t
    exact y
theorem EOk.setF {i : Nat} {d : PyData} {v : V} {ρ : Env} {σ : St} (x : EOk K ρ F σ H M) (hd : Dq K F v d) : EOk K (ρ.set i (some (fz d))) F (σ.set i (some v)) H (upM M i []) :=
  (PInv.setF (K := K) (B := fun _ => none) (F0 := fun _ => none) ⟨x, (fun _ _ h => nomatch h), (fun _ _ h => nomatch h), (fun _ _ _ _ => rfl), (fun _ _ _ _ => rfl)⟩ hd).ok
theorem EOk.setAll {is : List Nat} {ds : List PyData} {vs : List V} {ρ : Env} {σ : St} (x : EOk K ρ F σ H M) (hd : DqAll K F vs ds) : ∃ M', EOk K (PV.setAll ρ is ds) F (setAllV σ is vs) H M' := by
  obtain ⟨M', y⟩ := PInv.setAll (K := K) (B := fun _ => none) (F0 := fun _ => none) (is := is) ⟨x, (fun _ _ h => nomatch h), (fun _ _ h => nomatch h), (fun _ _ _ _ => rfl), (fun _ _ _ _ => rfl)⟩ hd
  exact ⟨M', y.ok⟩
end
section
variable {X : Cx} {pos : Pos}
theorem tg_name (i : Nat) {x : Str} (nd : X.N.Nodup) (hi : X.N[i]? = some x := by rfl) (hx : Loc X.env.scope x := by first | exact Or.inl rfl | exact Or.inr rfl) (hf : X.fn x = true ∨ X.env.scope.names.lookup x = some .local := by first | exact .inl rfl | exact .inr rfl) : TgOk X (.Name x pos) false [i] :=
  pg_name nd hi hx hf
theorem tgs_nil : TgsOk X [] [] := pgs_nil
theorem tgs_cons (i : Nat) {x : Str} {ts : List Expr} {is : List Nat} (nd : X.N.Nodup) (ht : TgsOk X ts is) (hi : X.N[i]? = some x := by rfl) (hx : Loc X.env.scope x := by first | exact Or.inl rfl | exact Or.inr rfl) (hf : X.fn x = true ∨ X.env.scope.names.lookup x = some .local := by first | exact .inl rfl | exact .inr rfl)
    (hs : (assignEach (.Name x pos :: ts) X.env).map (·.2) = assign (.Name x pos) X.env :: (assignEach ts X.env).map (·.2) := by rfl) : TgsOk X (.Name x pos :: ts) (i :: is) := pgs_cons (pg_name nd hi hx hf) ht hs
theorem tg_tup {ts : List Expr} {is : List Nat} {kk : Nat} (hc : X.calm = true) (ht : TgsOk X ts is) (hn : (assignEach ts X.env).length = is.length := by rfl) (hst : (assignEach ts X.env).findIdx? (·.1) = none := by rfl) : TgOk X (.Tuple ts kk pos) true is := pg_tup hc ht hn hst
end

/-! ### what is walked -/
/-- the walk J gives the data ds, one by one, whatever is frozen besides -/
structure Walks (K : PySem.W.Frag) (J : It) (F : Hp) (ds : List PyData) : Prop where
  go : ∀ (i : Nat) (F1 H1 : Hp), Same F F1 → Same F1 H1 → i < ds.length → J.go i H1
  yld : ∀ (i : Nat) (F1 H1 : Hp) (x : V) (H2 : Hp), Same F F1 → Same F1 H1 → i < ds.length → J.yld i H1 x H2 → ∃ F2 d, Ext F1 H1 F2 H2 ∧ ds[i]? = some d ∧ Dq K F2 x d
  stop : ∀ (F1 H1 : Hp), Same F F1 → Same F1 H1 → J.stop ds.length H1
/-- iter walks ds -/
def Iv (X : Cx) (W : Wc) (ρ : Env) (tg iter : Expr) (ds : List PyData) : Prop :=
  ∃ wi : TI, PI X tg iter wi ∧ ∀ (σ : St) (F H : Hp) (M : Nat → Mini) (R : It → Hp → Prop), EOk X.K ρ F σ H M → (∀ J F' H', Ext F H F' H' → Walks X.K J F' ds → R J H') → wi σ H R
section
variable {X : Cx} {W : Wc} {ρ : Env} {tg a b : Expr} {pos p : Pos}
theorem walks_list {K : PySem.W.Frag} {F : Hp} {a : Addr} {vs : List V} {ds : List PyData} (h : SqL K F a vs) (q : DqAll K F vs ds) : Walks K (Itl K a) F ds where
  go := fun i F1 H1 s1 s2 hi => by
    obtain ⟨v, hv, _⟩ := DqAll_get q (List.getElem?_eq_getElem hi)
    exact ⟨vs, v, s2.seq (s1.seq h), hv⟩
  yld := fun i F1 H1 x H2 s1 s2 hi y => by
    obtain ⟨rfl, y⟩ := y
    obtain ⟨d, h1, h2⟩ := DqAll_getV q (y vs (s2.seq (s1.seq h)))
    exact ⟨F1, d, .refl s2, h1, dq_mono s1 _ _ h2⟩
  stop := fun F1 H1 s1 s2 => ⟨vs, s2.seq (s1.seq h), Nat.le_of_eq (DqAll_len q)⟩
/-- a list that stands frozen -/
theorem iv_list {ds : List PyData} (ha : Ev X W ρ a (.list ds)) : Iv X W ρ tg a ds := ⟨_, pi_list ha.pe, fun σ F H M R ok h => rd ok fun v F1 H1 e1 dv => by
  obtain ⟨p, vs, rfl, h1, h2⟩ := dq_lst dv
  exact ⟨p, rfl, ⟨vs, .inl (same_rd e1.sub h1)⟩, h _ F1 H1 e1 (walks_list (.inl h1) h2)⟩⟩
/-- a name that is known -/
theorem iv_kn (i : Nat) {x : Str} {ds : List PyData} (hd : ρ[i]? = some (some (kn ds))) (hN : X.N[i]? = some x := by rfl) (hv : Vis X.env.scope x := by first | exact Or.inl rfl | exact Or.inr (Or.inl rfl) | exact Or.inr (Or.inr rfl))
    (h1 : (x == ("__debug__" : Str)) = false := by decide) (h2 : (x == ("__classdict__" : Str)) = false := by decide) : Iv X W ρ tg (.Name x pos) ds :=
  ⟨_, pi_list (pe_var hN hv h1 h2), fun σ F H M R ok h => by
    obtain ⟨v, e, _, a, vs, rfl, q1, q2⟩ := ok.at_ i _ hd
    exact ⟨_, e, a, rfl, ⟨vs, ok.sub.seq q1⟩, h _ F H (.refl ok.sub) (walks_list q1 q2)⟩⟩
theorem iv_tup {ds : List PyData} (ha : Ev X W ρ a (.tuple ds)) : Iv X W ρ tg a ds := ⟨_, pi_tup ha.pe, fun σ F H M R ok h => rd ok fun v F1 H1 e1 dv => by
  obtain ⟨p, vs, rfl, h1, h2⟩ := dq_tup dv
  refine ⟨p, rfl, ⟨vs, same_seqT e1.sub h1⟩, h _ F1 H1 e1 ⟨fun i F2 H2 s1 s2 hi => ?_, fun i F2 H2 x H3 s1 s2 hi y => ?_, fun F2 H2 s1 s2 => ?_⟩⟩
  · obtain ⟨v, hv, _⟩ := DqAll_get h2 (List.getElem?_eq_getElem hi)
    exact ⟨vs, v, same_seqT (s1.trans s2) h1, hv⟩
  · obtain ⟨rfl, y⟩ := y
    obtain ⟨d, q1, q2⟩ := DqAll_getV h2 (y vs (same_seqT (s1.trans s2) h1))
    exact ⟨F2, d, .refl s2, q1, dq_mono s1 _ _ q2⟩
  · exact ⟨vs, same_seqT (s1.trans s2) h1, Nat.le_of_eq (DqAll_len h2)⟩⟩
/-- the numbers from lo on, n of them -/
def nums (lo : Int) : Nat → List PyData
  | 0 => []
  | n + 1 => .int lo :: nums (lo + 1) n
theorem nums_length : ∀ (n : Nat) (lo : Int), (nums lo n).length = n
  | 0, _ => rfl
  | n + 1, lo => congrArg (· + 1) (nums_length n (lo + 1))
theorem nums_get : ∀ (n : Nat) (lo : Int) (i : Nat), i < n → (nums lo n)[i]? = some (.int (lo + i))
  | 0, _, _, h => by omega
  | n + 1, lo, 0, _ => by simp [nums]
  | n + 1, lo, i + 1, h => by
    show (nums (lo + 1) n)[i]? = _
    rw [nums_get n (lo + 1) i (by omega)]
    congr 2
    push_cast
    omega
theorem nums_eq : ∀ (n : Nat) (lo : Int), nums lo n = (List.range n).map fun (i : Nat) => PyData.int (lo + i) := by
  intro n lo
  apply List.ext_getElem?
  intro i
  by_cases h : i < n
  · rw [nums_get n lo i h]; simp [h]
  · rw [List.getElem?_eq_none (by rw [nums_length]; omega), List.getElem?_eq_none (by simp; omega)]
theorem walks_range {K : PySem.W.Frag} {F : Hp} {lo : Int} {n : Nat} : Walks K (Itr lo n) F (nums lo n) where
  go := fun i F1 H1 s1 s2 hi => by rw [nums_length] at hi; exact hi
  yld := fun i F1 H1 x H2 s1 s2 hi y => by
    rw [nums_length] at hi
    obtain ⟨rfl, rfl⟩ := y
    exact ⟨F1, _, .refl s2, nums_get n lo i hi, .int _⟩
  stop := fun F1 H1 s1 s2 => Nat.le_of_eq (nums_length n lo).symm
theorem iv_range1 {j : Int} (B : Blt X.mg) (ha : Ev X W ρ a (.int j)) (h1 : -(2 ^ 62) ≤ j) (h2 : j < 2 ^ 62) (hg : Gl X "range" := by rfl) (hs : starEach [a] X.env = [(false, eval a X.env)] := by rfl) : Iv X W ρ tg (.Call (.Name "range" p) [a] [] pos) (nums 0 j.toNat) :=
  ⟨_, pi_range1 hg B.range (pa_cons ha.pe pa_nil hs) hs, fun σ F H M R ok h => rd ok fun v F1 H1 e1 dv => ⟨j, by rw [dq_int dv], h1, h2, h _ F1 H1 e1 walks_range⟩⟩
theorem iv_range2 {i j : Int} (B : Blt X.mg) (ha : Ev X W ρ a (.int i)) (hb : Ev X W ρ b (.int j)) (h1 : -(2 ^ 62) ≤ i ∧ i < 2 ^ 62 ∧ -(2 ^ 62) ≤ j ∧ j < 2 ^ 62) (hg : Gl X "range" := by rfl)
    (hs : starEach [a, b] X.env = [(false, eval a X.env), (false, eval b X.env)] := by rfl) (hs2 : starEach [b] X.env = [(false, eval b X.env)] := by rfl) (hs3 : starEach [a, b] X.env = (false, eval a X.env) :: starEach [b] X.env := by rfl) : Iv X W ρ tg (.Call (.Name "range" p) [a, b] [] pos) (nums i (j - i).toNat) :=
  ⟨_, pi_range2 hg B.range (pa_cons ha.pe (pa_cons hb.pe pa_nil hs2) hs3) hs hs2, fun σ F H M R ok h => rd ok fun v F1 H1 e1 dv => rd (ok.ext e1) fun w F2 H2 e2 dw => ⟨i, j, by rw [dq_int dv, dq_int dw], h1, h _ F2 H2 (e1.trans e2) walks_range⟩⟩
/-- (0, x), (1, y), .. -/
def enums : Int → List PyData → List PyData
  | _, [] => []
  | i, d :: ds => .tuple [.int i, d] :: enums (i + 1) ds
theorem enums_length : ∀ (ds : List PyData) (i : Int), (enums i ds).length = ds.length
  | [], _ => rfl
  | d :: ds, i => congrArg (· + 1) (enums_length ds (i + 1))
theorem enums_get : ∀ (ds : List PyData) (i : Int) (j : Nat) (d : PyData), ds[j]? = some d → (enums i ds)[j]? = some (.tuple [.int (i + j), d])
  | [], _, _, _, h => by simp at h
  | d :: ds, i, 0, e, h => by simp at h; subst h; simp [enums]
  | d :: ds, i, j + 1, e, h => by
    show (enums (i + 1) ds)[j]? = _
    rw [enums_get ds (i + 1) j e (by simpa using h)]
    congr 4
    push_cast
    omega
theorem iv_enum {elts : List Expr} {kk : Nat} {tpos : Pos} {ds : List PyData} (B : Blt X.mg) (ha : Ev X W ρ a (.list ds)) (hg : Gl X "enumerate" := by rfl) (hs : starEach [a] X.env = [(false, eval a X.env)] := by rfl) : Iv X W ρ (.Tuple elts kk tpos) (.Call (.Name "enumerate" p) [a] [] pos) (enums 0 ds) :=
  ⟨_, pi_enum hg B.enumerate (pa_cons ha.pe pa_nil hs) hs, fun σ F H M R ok h => rd ok fun v F1 H1 e1 dv => by
    obtain ⟨p, vs, rfl, h1, h2⟩ := dq_lst dv
    refine ⟨p, vs, rfl, .inl (same_rd e1.sub h1), h _ F1 H1 e1 ⟨fun i F2 H2 s1 s2 hi => ?_, fun i F2 H2 x H3 s1 s2 hi y => ?_, fun F2 H2 s1 s2 => ?_⟩⟩
    · rw [enums_length] at hi
      obtain ⟨v, hv, _⟩ := DqAll_get h2 (List.getElem?_eq_getElem hi)
      exact ⟨vs, v, .inl (same_rd (s1.trans s2) h1), hv⟩
    · obtain ⟨T, y1, rfl, hT, rfl, hy⟩ := y
      obtain ⟨d, q1, q2⟩ := DqAll_getV h2 (hy vs (.inl (same_rd (s1.trans s2) h1)))
      have x := Ext.laid (o := .tup [.int (i : Nat), y1]) s2 hT
      refine ⟨_, _, x, enums_get ds 0 i d q1, .tup (.of upd_same) (.cons ?_ (.cons (dq_mono (s1.trans x.f) _ _ q2) .nil))⟩
      rw [Int.zero_add]
      exact .int _
    · exact ⟨vs, .inl (same_rd (s1.trans s2) h1), by rw [enums_length]; exact Nat.le_of_eq (DqAll_len h2)⟩⟩
/-- (x, y) of two lists -/
def zips : List PyData → List PyData → List PyData
  | d :: ds, e :: es => .tuple [d, e] :: zips ds es
  | _, _ => []
theorem zips_length : ∀ (ds es : List PyData), (zips ds es).length = min ds.length es.length
  | [], es => by simp [zips]
  | d :: ds, [] => by simp [zips]
  | d :: ds, e :: es => by simp [zips, zips_length ds es, Nat.succ_min_succ]
theorem zips_get : ∀ (ds es : List PyData) (j : Nat) (d e : PyData), ds[j]? = some d → es[j]? = some e → (zips ds es)[j]? = some (.tuple [d, e])
  | [], _, _, _, _, h, _ => by simp at h
  | d :: ds, [], _, _, _, _, h => by simp at h
  | d :: ds, e :: es, 0, x, y, h, h' => by simp at h h'; subst h h'; simp [zips]
  | d :: ds, e :: es, j + 1, x, y, h, h' => by
    show (zips ds es)[j]? = _
    exact zips_get ds es j x y (by simpa using h) (by simpa using h')
theorem iv_zip {elts : List Expr} {kk : Nat} {tpos : Pos} {ds es : List PyData} (B : Blt X.mg) (ha : Ev X W ρ a (.list ds)) (hb : Ev X W ρ b (.list es)) (hg : Gl X "zip" := by rfl) (hs : starEach [a, b] X.env = (false, eval a X.env) :: starEach [b] X.env := by rfl)
    (hs2 : starEach [b] X.env = (false, eval b X.env) :: starEach [] X.env := by rfl) (hpl : (backTo pos (starEach [b] X.env)).any (·.1) = false := by rfl) : Iv X W ρ (.Tuple elts kk tpos) (.Call (.Name "zip" p) [a, b] [] pos) (zips ds es) :=
  ⟨_, pi_zip hg B.zip (pa_cons ha.pe (pa_cons hb.pe pa_nil hs2) hs) hs hpl, fun σ F H M R ok h => rd ok fun v F1 H1 e1 dv => rd (ok.ext e1) fun w F2 H2 e2 dw => by
    obtain ⟨p, vs, rfl, h1, h2⟩ := dq_lst dv
    obtain ⟨q, ws, rfl, h3, h4⟩ := dq_lst dw
    have h1' := same_rd e2.f h1
    have h2' := dqAll_mono e2.f _ _ h2
    refine ⟨p, q, vs, ws, rfl, .inl (same_rd e2.sub h1'), .inl (same_rd e2.sub h3), h _ F2 H2 (e1.trans e2) ⟨fun i F3 H3 s1 s2 hi => ?_, fun i F3 H3 x H4 s1 s2 hi y => ?_, fun F3 H3 s1 s2 => ?_⟩⟩
    · rw [zips_length] at hi
      obtain ⟨v, hv, _⟩ := DqAll_get h2' (List.getElem?_eq_getElem (show i < ds.length by omega))
      obtain ⟨w, hw, _⟩ := DqAll_get h4 (List.getElem?_eq_getElem (show i < es.length by omega))
      exact ⟨vs, ws, v, w, .inl (same_rd (s1.trans s2) h1'), .inl (same_rd (s1.trans s2) h3), hv, hw⟩
    · obtain ⟨T, y1, y2, rfl, hT, rfl, hy1, hy2⟩ := y
      obtain ⟨d, q1, q2⟩ := DqAll_getV h2' (hy1 vs (.inl (same_rd (s1.trans s2) h1')))
      obtain ⟨e, q3, q4⟩ := DqAll_getV h4 (hy2 ws (.inl (same_rd (s1.trans s2) h3)))
      have x := Ext.laid (o := .tup [y1, y2]) s2 hT
      exact ⟨_, _, x, zips_get ds es i d e q1 q3, .tup (.of upd_same) (.cons (dq_mono (s1.trans x.f) _ _ q2) (.cons (dq_mono (s1.trans x.f) _ _ q4) .nil))⟩
    · refine ⟨vs, ws, .inl (same_rd (s1.trans s2) h1'), .inl (same_rd (s1.trans s2) h3), ?_⟩
      rw [zips_length, DqAll_len h2', DqAll_len h4]
      omega⟩
/-- the signs of a text -/
theorem iv_str {z : Str} (ha : Ev X W ρ a (.str z)) : Iv X W ρ tg a (z.cps.toList.map fun c => .str ⟨#[c]⟩) := ⟨_, pi_str ha.pe, fun σ F H M R ok h => rd ok fun v F1 H1 e1 dv =>
  ⟨z, dq_str dv, h _ F1 H1 e1 ⟨fun i F2 H2 s1 s2 hi => (by simpa using hi : i < z.cps.size), fun i F2 H2 x H3 s1 s2 hi y => by
    obtain ⟨rfl, c, hc, rfl⟩ := y
    refine ⟨F2, .str ⟨#[c]⟩, .refl s2, ?_, .str _⟩
    rw [List.getElem?_map, Array.getElem?_toList, hc]
    rfl, fun F2 H2 s1 s2 => by
    show z.cps.size ≤ _
    simp⟩⟩⟩

theorem PInv.based {K : PySem.W.Frag} {B F0 F H : Hp} {ρ : Env} {σ : St} {M : Nat → Mini} (x : PInv K B F0 ρ F σ H M) : PInv K B F ρ F σ H M :=
  ⟨x.ok, x.base, .refl _, (fun a o h1 h2 => by rw [h1] at h2; cases h2), x.mb⟩
theorem PInv.rebase {K : PySem.W.Frag} {B F0 F H F' H' : Hp} {ρ ρ' : Env} {σ σ' : St} {M M' : Nat → Mini} (x : PInv K B F0 ρ F σ H M) (y : PInv K B F ρ' F' σ' H' M') : PInv K B F0 ρ' F' σ' H' M' :=
  .mk (mb := y.mb) y.ok y.base (x.f0.trans y.f0) fun a o h1 h2 => by
    cases e : F a with
    | none => exact y.nb a o h1 e
    | some u => exact x.nb a u e h2

/-! ### for -/
/-- what a turn is to reach -/
def turnS (P : Env → Prop) (X : Cx) (W : Wc) (rest : List Stmt) (Φ : Out → Prop) : Out → Prop
  | .next ρ => ∃ ρ', Wk ρ ρ' ∧ P ρ'
  | .cont ρ => ∃ ρ', Wk ρ ρ' ∧ P ρ'
  | .brk ρ => Sxs X W rest ρ Φ
  | o => Φ o
theorem sxs_for {C : Ec → Addr} {k : Nat} {t : Bool} {is : List Nat} {ds : List PyData} {body rest : List Stmt} {Φ : Out → Prop} (c : Ctx X C W k) (P : Nat → Env → Prop) (hi : Iv X W ρ tg a ds) (hg : TgOk X tg t is) (h0 : P 0 ρ)
    (step : ∀ i d ρ, ds[i]? = some d → P i ρ → tgFit t is d ∧ Sxs X W body (setAll ρ is (tgItems t d)) (turnS (P (i + 1)) X W rest Φ))
    (done : ∀ ρ, P ds.length ρ → Sxs X W rest ρ Φ) (hs : ∀ x, foldedSetIterable a X.env x = pure x := by intro _; rfl) : Sxs X W (.For tg a body [] pos :: rest) ρ Φ := by
  obtain ⟨wi, hwi, qi⟩ := hi
  refine sxs_of (ps_for c.po c.calm hwi hg (pss_Sxs X W body) hs) fun σ F H M B F0 D ok q => ?_
  refine qi σ F H M _ ok.ok fun J F1 H1 x1 wk => ?_
  refine ⟨fun i m σ H => m = ds.length - i ∧ i ≤ ds.length ∧ ∃ ρ F M, P i ρ ∧ PInv X.K B F0 ρ F σ H M ∧ Same F1 F, ⟨_, rfl, Nat.zero_le _, ρ, F1, M, h0, ok.ext x1, .refl _⟩, ?_⟩
  rintro i m σ2 H2 ⟨rfl, hle, ρ2, F2, M2, p2, ok2, s2⟩
  by_cases hlt : i < ds.length
  · refine .inr ⟨wk.go i F2 H2 s2 ok2.ok.sub hlt, fun σ' H' => i + 1 ≤ ds.length ∧ ∃ ρ F M, P (i + 1) ρ ∧ PInv X.K B F0 ρ F σ' H' M ∧ Same F1 F, fun σ' H' ⟨a1, a2⟩ => ⟨ds.length - (i + 1), by omega, rfl, a1, a2⟩, fun x H3 y => ?_⟩
    obtain ⟨F3, d, x3, hd, dv⟩ := wk.yld i F2 H2 x H3 s2 ok2.ok.sub hlt y
    obtain ⟨fit, body⟩ := step i d ρ2 hd p2
    refine gOf_ok x3.sub dv fit fun vs dvs => ?_
    obtain ⟨M4, ok4⟩ := PInv.setAll (is := is) (ok2.ext x3) dvs
    refine ⟨_, _, F3, M4, B, F3, body, ok4.based, fun o ho => ?_⟩
    have again : ∀ ρ', (∃ ρ'', Wk ρ' ρ'' ∧ P (i + 1) ρ'') → ∀ F σ H M, PInv X.K B F3 ρ' F σ H M → i + 1 ≤ ds.length ∧ ∃ ρ F M, P (i + 1) ρ ∧ PInv X.K B F0 ρ F σ H M ∧ Same F1 F := fun ρ' ⟨ρ'', w, p⟩ F σ H M ok5 =>
      ⟨hlt, ρ'', F, M, p, (ok4.rebase ok5).weak w, (s2.trans x3.f).trans ok5.f0⟩
    cases o with
    | next ρ' => exact again ρ' ho
    | cont ρ' => exact again ρ' ho
    | brk ρ' => exact fun F σ H M ok5 => ⟨ρ', Φ, F, M, B, F0, ho, ok4.rebase ok5, q⟩
    | ret S ρ' => exact fun v F σ H M ok5 => q _ ho v F σ H M (ok4.rebase ok5)
    | raise c ρ' => exact fun F σ H M ok5 => q _ ho F σ H M (ok4.rebase ok5)
  · have e : i = ds.length := by omega
    subst e
    exact .inl ⟨wk.stop F2 H2 s2 ok2.ok.sub, ⟨ρ2, Φ, F2, M2, B, F0, done ρ2 p2, ok2, q⟩⟩
end
end PV

/-! The pure-value layer: while, lists that change, comprehensions, defs and their calls. -/
namespace PV
open PySem PySem.Spec PyProof.Rows L2
section
variable {X : Cx} {W : Wc} {ρ : Env} {e a b : Expr} {es : List Expr} {pos p : Pos} {C : Ec → Addr} {k : Nat} {rest : List Stmt} {Φ : Out → Prop}

/-! ### while -/
def tTsts (X : Cx) (W : Wc) (e : Expr) : TT := fun σ H Q => ∃ ρ b F M, Tst X W ρ e b ∧ EOk X.K ρ F σ H M ∧ (∀ F' H', Ext F H F' H' → Q b H')
theorem pt_tsts : PT X e (tTsts X W e) := ⟨fun pins s σ H Q I ⟨ρ, b, F, M, h, ok, q⟩ => h pins s σ F H M Q I ok q⟩
theorem sxs_while {body : List Stmt} (c : Ctx X C W k) (P : Nat → Env → Prop) {m0 : Nat} (h0 : P m0 ρ)
    (step : ∀ m ρ, P m ρ → ∃ b, Tst X W ρ e b ∧ (b = true → Sxs X W body ρ (turnS (fun ρ' => ∃ m', m' < m ∧ P m' ρ') X W rest Φ)) ∧ (b = false → Sxs X W rest ρ Φ)) : Sxs X W (.While e body [] pos :: rest) ρ Φ := by
  refine sxs_of (ps_while c.po (pt_tsts (W := W)) (pss_Sxs X W body)) fun σ F H M B F0 D ok q => ?_
  refine ⟨fun m σ H => ∃ ρ F M, P m ρ ∧ PInv X.K B F0 ρ F σ H M, ⟨m0, ρ, F, M, h0, ok⟩, ?_⟩
  rintro m σ2 H2 ⟨ρ2, F2, M2, p2, ok2⟩
  obtain ⟨b, hb, h1, h2⟩ := step m ρ2 p2
  refine ⟨ρ2, b, F2, M2, hb, ok2.ok, fun F' H' x => ?_⟩
  have ok3 := ok2.ext x
  cases b with
  | false => exact iteF ⟨ρ2, Φ, F', M2, B, F0, h2 rfl, ok3, q⟩
  | true =>
    refine iteT ⟨fun σ' H' => ∃ m', m' < m ∧ ∃ ρ F M, P m' ρ ∧ PInv X.K B F0 ρ F σ' H' M, fun σ' H' h => h, ρ2, _, F', M2, B, F0, h1 rfl, ok3, fun o ho => ?_⟩
    have again : ∀ ρ', (∃ ρ'', Wk ρ' ρ'' ∧ ∃ m', m' < m ∧ P m' ρ'') → ∀ F σ H M, PInv X.K B F0 ρ' F σ H M → ∃ m', m' < m ∧ ∃ ρ F M, P m' ρ ∧ PInv X.K B F0 ρ F σ H M := fun ρ' ⟨ρ'', w, m', hm, p⟩ F σ H M ok5 => ⟨m', hm, ρ'', F, M, p, ok5.weak w⟩
    cases o with
    | next ρ' => exact again ρ' ho
    | cont ρ' => exact again ρ' ho
    | brk ρ' => exact fun F σ H M ok5 => ⟨ρ', Φ, F, M, B, F0, ho, ok5, q⟩
    | ret S ρ' => exact q _ ho
    | raise c ρ' => exact q _ ho

/-! ### lists that change -/
theorem ty_lst {K : PySem.W.Frag} {H : Hp} {l : Addr} {xs : List V} (h : H l = some (.lst xs)) : tyV K "list" (.ref l) H := .inl ⟨rfl, _, SqL.of h⟩
/-- x.append(e), x a name that owns its list -/
theorem sxs_append (i : Nat) {x : Str} {px pa : Pos} {pq : Option Addr} {ds : List PyData} {d : PyData} (hd : ρ[i]? = some (some (ow pq ds))) (he : Ev X W ρ e d) (c : ds.length < sizeLine) (k : Sxs X W rest (ρ.set i (some (ow pq (ds ++ [d])))) Φ)
    (hp : ∀ t, PE X e t → PE X (.Call (.Attribute (.Name x px) "append" pa) [e] [] p) (tBM X.K "list" rAppend (tVar i) (tCons t tNil)) := by exact fun t h => pe_bm PySem.F.plainAttrs_list PySem.F.slot_list_append PySem.F.type_list_append mt_append (pv _) (pa_cons h pa_nil))
    (hs : swapsWith (.Call (.Attribute (.Name x px) "append" pa) [e] [] p) none pos.line X.env = pure false := by rfl) : Sxs X W (.Expr (.Call (.Attribute (.Name x px) "append" pa) [e] [] p) pos :: rest) ρ Φ :=
  sxs_of (ps_expr (hp _ he.pe) hs) fun σ F H M B F0 D ok q => by
    obtain ⟨v, hσ, a, vs, rfl, hM, hpq, dvs⟩ := ok.ok.at_ i _ hd
    have hH : H a = some (.lst vs) := (ok.ok.own i a _ (by rw [hM]; exact List.mem_cons_self)).1
    refine ⟨.ref a, hσ, ty_lst hH, rd ok.ok fun w F1 H1 e1 dw => ?_⟩
    have ok1 := ok.ext e1
    exact ⟨a, vs, w, rfl, rfl, e1.h a _ hH, by rw [DqAll_len dvs]; exact c, _, Φ, F1, _, B, F0, k, ok1.mut hd hσ hpq hM (DqAll_app (dqAll_mono e1.f _ _ dvs) (.cons dw .nil)), q⟩
/-- x[j] = e -/
theorem sxs_setItem (i : Nat) {x : Str} {px pb : Pos} {pq : Option Addr} {ds : List PyData} {d : PyData} {j : Int} {n : Nat} (hd : ρ[i]? = some (some (ow pq ds))) (he : Ev X W ρ e d) (hb : Ev X W ρ b (.int j)) (hj : ixN ds.length j = some n) (k : Sxs X W rest (ρ.set i (some (ow pq (ds.set n d)))) Φ)
    (hp : ∀ t u, PE X e t → PE X b u → PS X (.Assign [.Subscript (.Name x px) b pb] e pos) (tAsg t (gSub (tVar i) u rSetL)) := by exact fun t u h h' => ps_asg h (pg_sub (pv _) h' set_list)) :
    Sxs X W (.Assign [.Subscript (.Name x px) b pb] e pos :: rest) ρ Φ :=
  sxs_of (hp _ _ he.pe hb.pe) fun σ F H M B F0 D ok q => by
    obtain ⟨v, hσ, a, vs, rfl, hM, hpq, dvs⟩ := ok.ok.at_ i _ hd
    have hH : H a = some (.lst vs) := (ok.ok.own i a _ (by rw [hM]; exact List.mem_cons_self)).1
    refine rd ok.ok fun w F1 H1 e1 dw => ⟨.ref a, hσ, rd (ok.ok.ext e1) fun y F2 H2 e2 dy => ?_⟩
    have ok2 := ok.ext (e1.trans e2)
    exact ⟨a, vs, j, n, rfl, dq_int dy, (e1.trans e2).h a _ hH, by rw [DqAll_len dvs]; exact hj, _, Φ, F2, _, B, F0, k, ok2.mut hd hσ hpq hM (DqAll_set n (dqAll_mono (e1.trans e2).f _ _ dvs) (dq_mono e2.f _ _ dw)), q⟩
/-- x.clear() -/
theorem sxs_clear (i : Nat) {x : Str} {px pa : Pos} {pq : Option Addr} {ds : List PyData} (hd : ρ[i]? = some (some (ow pq ds))) (k : Sxs X W rest (ρ.set i (some (ow pq []))) Φ)
    (hp : PE X (.Call (.Attribute (.Name x px) "clear" pa) [] [] p) (tBM0 X.K "list" rClear (tVar i)) := by exact pe_bm0 PySem.F.plainAttrs_list PySem.F.slot_list_clear PySem.F.type_list_clear mt_clear (pv _))
    (hs : swapsWith (.Call (.Attribute (.Name x px) "clear" pa) [] [] p) none pos.line X.env = pure false := by rfl) : Sxs X W (.Expr (.Call (.Attribute (.Name x px) "clear" pa) [] [] p) pos :: rest) ρ Φ :=
  sxs_of (ps_expr hp hs) fun σ F H M B F0 D ok q => by
    obtain ⟨v, hσ, a, vs, rfl, hM, hpq, dvs⟩ := ok.ok.at_ i _ hd
    have hH : H a = some (.lst vs) := (ok.ok.own i a _ (by rw [hM]; exact List.mem_cons_self)).1
    exact ⟨.ref a, hσ, ty_lst hH, a, vs, rfl, rfl, hH, _, Φ, F, _, B, F0, k, ok.mut hd hσ hpq hM .nil, q⟩

/-! ### built-ins over a list -/
theorem dqAll_ints {K : PySem.W.Frag} {F : Hp} : ∀ {ns : List Int} {vs : List V}, DqAll K F vs (ns.map PyData.int) → vs = ns.map V.int
  | [], _, h => by cases h; rfl
  | n :: ns, _, h => by
    cases h with
    | cons h t => rw [dq_int h, dqAll_ints t]; rfl
theorem dqAll_bls {K : PySem.W.Frag} {F : Hp} : ∀ {ns : List Bool} {vs : List V}, DqAll K F vs (ns.map PyData.bool) → vs = ns.map V.bl
  | [], _, h => by cases h; rfl
  | n :: ns, _, h => by
    cases h with
    | cons h t => rw [dq_bl h, dqAll_bls t]; rfl
theorem dqAll_strs {K : PySem.W.Frag} {F : Hp} : ∀ {ns : List Str} {vs : List V}, DqAll K F vs (ns.map PyData.str) → vs = ns.map V.str
  | [], _, h => by cases h; rfl
  | n :: ns, _, h => by
    cases h with
    | cons h t => rw [dq_str h, dqAll_strs t]; rfl
theorem strs_dqAll {K : PySem.W.Frag} {F : Hp} : ∀ (ns : List Str), DqAll K F (ns.map V.str) (ns.map PyData.str)
  | [] => .nil
  | n :: ns => .cons (.str n) (strs_dqAll ns)
theorem ints_dqAll {K : PySem.W.Frag} {F : Hp} : ∀ (ns : List Int), DqAll K F (ns.map V.int) (ns.map PyData.int)
  | [] => .nil
  | n :: ns => .cons (.int n) (ints_dqAll ns)
section
variable (c : Ctx X C W k) (B : Blt X.mg)
include c B
theorem ev_sum {ns : List Int} (ha : Bw X W ρ a (ns.map PyData.int)) (hg : Gl X "sum" := by rfl) (he : starEach (a :: []) X.env = (false, eval a X.env) :: starEach [] X.env := by rfl) : Ev X W ρ (.Call (.Name "sum" p) [a] [] pos) (.int ns.sum) :=
  ev1_of (pe_callB (cr_sum c.calm) hg B.sum (by decide +kernel) (pa_cons ha.pe pa_nil he) (he := he)) fun σ F H M Q ok h => ⟨F, M, ok, fun x F1 H1 e1 ⟨p, vs, ex, h1, h2⟩ => by
    subst ex
    rw [dqAll_ints h2] at h1
    exact ⟨p, ns, rfl, h1, h _ F1 H1 e1 (.int _)⟩⟩
theorem ev_any {ns : List Bool} (ha : Bw X W ρ a (ns.map PyData.bool)) (hg : Gl X "any" := by rfl) (he : starEach (a :: []) X.env = (false, eval a X.env) :: starEach [] X.env := by rfl) : Ev X W ρ (.Call (.Name "any" p) [a] [] pos) (.bool (ns.any id)) :=
  ev1_of (pe_callB (cr_any c.calm) hg B.any (by decide +kernel) (pa_cons ha.pe pa_nil he) (he := he)) fun σ F H M Q ok h => ⟨F, M, ok, fun x F1 H1 e1 ⟨p, vs, ex, h1, h2⟩ => by
    subst ex
    rw [dqAll_bls h2] at h1
    exact ⟨p, ns, rfl, h1, h _ F1 H1 e1 (.bl _)⟩⟩
theorem ev_all {ns : List Bool} (ha : Bw X W ρ a (ns.map PyData.bool)) (hg : Gl X "all" := by rfl) (he : starEach (a :: []) X.env = (false, eval a X.env) :: starEach [] X.env := by rfl) : Ev X W ρ (.Call (.Name "all" p) [a] [] pos) (.bool (ns.all id)) :=
  ev1_of (pe_callB (cr_all c.calm) hg B.all (by decide +kernel) (pa_cons ha.pe pa_nil he) (he := he)) fun σ F H M Q ok h => ⟨F, M, ok, fun x F1 H1 e1 ⟨p, vs, ex, h1, h2⟩ => by
    subst ex
    rw [dqAll_bls h2] at h1
    exact ⟨p, ns, rfl, h1, h _ F1 H1 e1 (.bl _)⟩⟩
/-- the greatest of a list -/
theorem ev_maxL {ns : List Int} {m : Int} (ha : Bw X W ρ a (ns.map PyData.int)) (h0 : 0 < ns.length) (hm : ∀ m', m' ∈ ns → (∀ y, y ∈ ns → y ≤ m') → m' = m) (hg : Gl X "max" := by rfl) (he : starEach (a :: []) X.env = (false, eval a X.env) :: starEach [] X.env := by rfl) : Ev X W ρ (.Call (.Name "max" p) [a] [] pos) (.int m) :=
  ev1_of (pe_callB (cr_max c.calm) hg B.max (by decide +kernel) (pa_cons ha.pe pa_nil he) (he := he)) fun σ F H M Q ok h => ⟨F, M, ok, fun x F1 H1 e1 ⟨p, vs, ex, h1, h2⟩ => by
    subst ex
    rw [dqAll_ints h2] at h1
    exact ⟨p, ns, rfl, h1, h0, fun m' i1 i2 => by rw [hm m' i1 i2]; exact h _ F1 H1 e1 (.int _)⟩⟩
end

/-! ### isinstance of a built-in class -/
/-- the name of a datum's class -/
def clsOf : PyData → String
  | .none => "NoneType"
  | .bool _ => "bool"
  | .int _ => "int"
  | .str _ => "str"
  | .list _ => "list"
  | .tuple _ => "tuple"
  | .dict _ => "dict"
theorem tyx_of {K : PySem.W.Frag} {H : Hp} {v : V} {d : PyData} (h : Dq K H v d) (hn : d ≠ .none) : TyX K H v (.type (clsOf d)) := by
  cases h with
  | non => exact absurd rfl hn
  | bl b => exact .base (.bl b)
  | int i => exact .base (.int i)
  | str x => exact .base (.str x)
  | lst h1 _ =>
    rcases h1 with h1 | ⟨o, h1⟩
    · exact .base (.lst h1)
    · exact .base (.frz h1)
  | tup h1 _ =>
    rcases h1 with (h1 | ⟨o, h1⟩) | ⟨o, its, n, e, c, _⟩
    · exact .base (.tup h1)
    · exact .fTuple h1
    · exact .kTuple e c
theorem tyx_non {K : PySem.W.Frag} {H : Hp} : TyX K H .non (.type "NoneType") := .base .non
theorem ev_isi {T : Str} {T0 : String} {p2 : Pos} {d : PyData} {r : Bool} (B : Blt X.mg) (ha : Ev X W ρ a d) (hT : bootBuiltins T = some (.type T0)) (hmT : X.mg T = none) (hk : kitB (clsOf d) T0 = some r) (hgT : Gl X T := by rfl) (hg : Gl X "isinstance" := by rfl)
    (he : starEach (a :: [.Name T p2]) X.env = (false, eval a X.env) :: starEach [.Name T p2] X.env := by rfl) (he2 : starEach (.Name T p2 :: []) X.env = (false, eval (.Name T p2) X.env) :: starEach [] X.env := by rfl) (hpl : (backTo pos (starEach [.Name T p2] X.env)).any (·.1) = false := by rfl)
    (hn1 : T ≠ "__name__" := by decide) (hn2 : (T == ("__debug__" : Str)) = false := by decide) : Ev X W ρ (.Call (.Name "isinstance" p) [a, .Name T p2] [] pos) (.bool r) :=
  ev1_of (pe_callB call_isi hg B.isinstance (by decide +kernel) (pa_cons ha.pe (pa_cons (pe_bltn (v := .ty T0) hgT hmT hT rfl hn1 hn2) pa_nil he2) he) (he := he) (hpl := hpl)) fun σ F H M Q ok h => rd ok fun x F1 H1 e1 dx => by
    refine ⟨x, .ty T0, .type (clsOf d), .type T0, r, rfl, .ty T0, ?_, kit_ty hk, h _ F1 H1 e1 (.bl _)⟩
    by_cases hd : d = .none
    · subst hd
      rw [dq_non dx]
      exact tyx_non
    · exact tyx_of (dq_mono e1.sub _ _ dx) hd

/-! ### texts -/
theorem ev_join {pa : Pos} {z : Str} {ys : List Str} (ha : Ev X W ρ a (.str z)) (hb : Bw X W ρ b (ys.map PyData.str)) (c : (ys.map (·.length)).sum + ys.length * z.length ≤ 16777216) (hs : starEach [b] X.env = [(false, eval b X.env)] := by rfl) (hbase : attributeBase a "join" X.env (eval a X.env) = eval a X.env := by rfl)
    (hline : (pa.endLine == pos.line) = true := by rfl) : Ev X W ρ (.Call (.Attribute a "join" pa) [b] [] pos) (.str (Txt.join z ys)) :=
  ev1_of (pe_join ha.pe hb.pe hs hbase hline) fun σ F H M Q ok h => rd ok fun x F1 H1 e1 dx => ⟨⟨z, dq_str dx⟩, F1, M, ok.ext e1, fun y F2 H2 e2 ⟨p, vs, ey, h1, h2⟩ => by
    subst ey
    rw [dqAll_strs h2] at h1
    exact ⟨z, p, ys, dq_str dx, rfl, .inl h1, c, h _ F2 H2 (e1.trans e2) (.str _)⟩⟩
theorem fr_split {pa : Pos} {z y : Str} (ha : Ev X W ρ a (.str z)) (hb : Ev X W ρ b (.str y)) (c : (y.length == 0) = false) (c2 : z.length + 2 ≤ sizeLine) (hs : starEach [b] X.env = [(false, eval b X.env)] := by rfl) (hbase : attributeBase a "split" X.env (eval a X.env) = eval a X.env := by rfl)
    (hline : (pa.endLine == pos.line) = true := by rfl) : Fr X W ρ (.Call (.Attribute a "split" pa) [b] [] pos) ((Txt.split z y).map PyData.str) :=
  fun pins s σ F H M Q I ok h => (pe_split ha.pe hb.pe hs hbase hline).run pins s σ H Q I (rd ok fun x F1 H1 e1 dx => ⟨⟨z, dq_str dx⟩, rd (ok.ext e1) fun w F2 H2 e2 dw => by
    have x := e1.trans e2
    exact ⟨z, y, dq_str dx, by rw [dq_str dw], c, c2, fun l hl => h l _ F2 _ (x.trans (.beside x.sub hl)) (x.h.free hl) (x.sub.free hl) upd_same (strs_dqAll _)⟩⟩)
/-- a text n times -/
def repS (z : Str) (n : Int) : Str := ⟨((List.replicate n.toNat z.cps.toList).flatten).toArray⟩
theorem foldl_app (x : Array Nat) : ∀ (n : Nat) (acc : Array Nat), (List.replicate n x).foldl (· ++ ·) acc = acc ++ ((List.replicate n x.toList).flatten).toArray
  | 0, acc => by simp
  | n + 1, acc => by
    rw [List.replicate_succ, List.foldl_cons, foldl_app x n, List.replicate_succ, List.flatten_cons]
    apply Array.ext'
    simp
def rMulS : R2 := fun x y H Q => ∃ z n, x = .str z ∧ y = .int n ∧ -(2 ^ 63) ≤ n ∧ n < 2 ^ 62 ∧ z.length * n.toNat ≤ 16777216 ∧ Q (.str (repS z n)) H
end
end PV

/-! The pure-value layer: comprehensions, defs and their calls. -/
namespace PV
open PySem PySem.Spec PyProof.Rows L2
def wipeE (ρ : Env) : List Nat → Env
  | [] => ρ
  | v :: vs => (wipeE ρ vs).set v none
theorem wipeE_some {ρ : Env} {i : Nat} {S : Slot} : ∀ {vs : List Nat}, (wipeE ρ vs)[i]? = some (some S) → ρ[i]? = some (some S) ∧ i ∉ vs
  | [], h => ⟨h, by simp⟩
  | v :: vs, h => by
    have h : ((wipeE ρ vs).set v none)[i]? = some (some S) := h
    by_cases e : v = i
    · subst e
      by_cases hl : v < (wipeE ρ vs).length
      · rw [List.getElem?_set_self hl] at h; cases h
      · rw [List.getElem?_eq_none (by simpa using hl)] at h; cases h
    · rw [List.getElem?_set_ne e] at h
      obtain ⟨h1, h2⟩ := wipeE_some h
      exact ⟨h1, by simp [h2, Ne.symm e]⟩
theorem wipeE_length (ρ : Env) : ∀ vs : List Nat, (wipeE ρ vs).length = ρ.length
  | [] => rfl
  | v :: vs => by unfold wipeE; rw [List.length_set, wipeE_length ρ vs]
theorem EOk.wipe {K : PySem.W.Frag} {ρ : Env} {F H : Hp} {σ : St} {M : Nat → Mini} (x : EOk K ρ F σ H M) (vs : List Nat) : EOk K (wipeE ρ vs) F (L2.wipe σ vs) H M where
  len := by rw [wipe_length, wipeE_length]; exact x.len
  sub := x.sub
  at_ := fun i S h => by
    obtain ⟨h1, h2⟩ := wipeE_some h
    rw [wipe_out h2]
    exact x.at_ i S h1
  own := x.own
  apart := x.apart
theorem wipe_set_in {σ : St} {i : Nat} {v : Option V} : ∀ {vs : List Nat}, i ∈ vs → L2.wipe (σ.set i v) vs = L2.wipe σ vs
  | v' :: vs, h => by
    show (L2.wipe (σ.set i v) vs).set v' none = (L2.wipe σ vs).set v' none
    by_cases hv : i ∈ vs
    · rw [wipe_set_in hv]
    · have e : i = v' := by
        rcases List.mem_cons.mp h with e | e
        · exact e
        · exact absurd e hv
      subst e
      have key : ∀ (ws : List Nat) (σ : St), i ∉ ws → L2.wipe (σ.set i v) ws = (L2.wipe σ ws).set i v := by
        intro ws
        induction ws with
        | nil => intro σ _; rfl
        | cons w ws ih =>
          intro σ hn
          have hw : i ≠ w := fun e => hn (by simp [e])
          show (L2.wipe (σ.set i v) ws).set w none = ((L2.wipe σ ws).set w none).set i v
          rw [ih σ (fun z => hn (List.mem_cons_of_mem _ z)), List.set_comm _ _ hw]
      rw [key vs σ hv, List.set_set]
theorem wipe_setAllV : ∀ {is : List Nat} {xs : List V} {σ : St} {vs : List Nat}, (∀ i ∈ is, i ∈ vs) → L2.wipe (setAllV σ is xs) vs = L2.wipe σ vs
  | [], _, _, _, _ => by cases ‹List V› <;> rfl
  | i :: is, [], _, _, _ => rfl
  | i :: is, x :: xs, σ, vs, h => by
    show L2.wipe (setAllV (σ.set i (some x)) is xs) vs = _
    rw [wipe_setAllV fun j hj => h j (List.mem_cons_of_mem _ hj), wipe_set_in (h i List.mem_cons_self)]
theorem wipe_wipe {σ : St} {vs : List Nat} : L2.wipe (L2.wipe σ vs) vs = L2.wipe σ vs := by
  have key : ∀ (ws : List Nat), (∀ w ∈ ws, w ∈ vs) → ∀ σ : St, L2.wipe (L2.wipe σ ws) vs = L2.wipe σ vs := by
    intro ws
    induction ws with
    | nil => intro _ σ; rfl
    | cons w ws ih =>
      intro h σ
      show L2.wipe ((L2.wipe σ ws).set w none) vs = _
      rw [wipe_set_in (h w List.mem_cons_self), ih fun x hx => h x (List.mem_cons_of_mem _ hx)]
  exact key vs (fun _ h => h) σ

section
variable {X : Cx} {W : Wc} {ρ : Env} {e a b elt tg iter : Expr} {es : List Expr} {pos p : Pos} {C : Ec → Addr} {k : Nat} {rest : List Stmt} {Φ : Out → Prop} {scope : Scope}
/-- no error leaves -/
abbrev W0 : Wc := fun _ _ _ => False
abbrev bl (X : Cx) (scope : Scope) (s : Shared) (H : Hp) (Cc : Addr) (cl : List (Str × Addr)) (fp : List Addr) : Cx := X.blk s H scope (compEnvC scope cl Cc X.env) fp
theorem Ctx.blk (c : Ctx X C W k) (s : Shared) (H : Hp) (Cc : Addr) (cl : List (Str × Addr)) (fp : List Addr) : Ctx (bl X scope s H Cc cl fp) C W0 k :=
  ⟨c.calm, c.room, c.nd, PassesOwn.never, fun u s' ⟨_, _, _, _, _, _, _, _, _, _, _, _, _, _, _, _, z⟩ => by
    obtain ⟨_, _, _, z⟩ := z
    exact z.elim⟩
/-- within the block -/
def EvB (X : Cx) (scope : Scope) (ρ : Env) (e : Expr) (d : PyData) : Prop := ∀ (s : Shared) (H : Hp) (Cc : Addr) (cl : List (Str × Addr)) (fp : List Addr), Ev (bl X scope s H Cc cl fp) W0 ρ e d
def TstB (X : Cx) (scope : Scope) (ρ : Env) (e : Expr) (b : Bool) : Prop := ∀ (s : Shared) (H : Hp) (Cc : Addr) (cl : List (Str × Addr)) (fp : List Addr), Tst (bl X scope s H Cc cl fp) W0 ρ e b
def tEvB (X : Cx) (scope : Scope) (e : Expr) : TE := fun σ H Q => ∃ ρ d F M, EvB X scope ρ e d ∧ EOk X.K ρ F σ H M ∧ ∀ v F' H', Ext F H F' H' → Dq X.K F' v d → Q v H'
theorem pe_evB (s : Shared) (H : Hp) (Cc : Addr) (cl : List (Str × Addr)) (fp : List Addr) : PE (bl X scope s H Cc cl fp) e (tEvB X scope e) :=
  ⟨fun pins s1 σ H1 Q I ⟨ρ, d, F, M, h, ok, q⟩ => h s H Cc cl fp pins s1 σ F H1 M Q I ok (fun d' hd => by cases hd; exact q) fun c hc => nomatch hc⟩
def tTstB (X : Cx) (scope : Scope) (e : Expr) : TT := fun σ H Q => ∃ ρ b F M, TstB X scope ρ e b ∧ EOk X.K ρ F σ H M ∧ ∀ F' H', Ext F H F' H' → Q b H'
theorem pt_tstB (s : Shared) (H : Hp) (Cc : Addr) (cl : List (Str × Addr)) (fp : List Addr) : PT (bl X scope s H Cc cl fp) e (tTstB X scope e) :=
  ⟨fun pins s1 σ H1 Q I ⟨ρ, b, F, M, h, ok, q⟩ => h s H Cc cl fp pins s1 σ F H1 M Q I ok q⟩
/-- the tests of a clause: none, or one -/
def IfB (X : Cx) (scope : Scope) (ρ : Env) (ifs : List Expr) (b : Bool) : Prop := match ifs with
  | [] => b = true
  | [c] => TstB X scope ρ c b
  | _ => False
def tIfB (X : Cx) (scope : Scope) (ifs : List Expr) : TT := match ifs with
  | [] => tYes
  | [c] => tTstB X scope c
  | _ => fun _ _ _ => False
theorem pts_ifB {ifs : List Expr} (s : Shared) (H : Hp) (Cc : Addr) (cl : List (Str × Addr)) (fp : List Addr) : PTs (bl X scope s H Cc cl fp) ifs (tIfB X scope ifs) := by
  match ifs with
  | [] => exact pts_nil
  | [c] => exact pts_one (pt_tstB s H Cc cl fp)
  | _ :: _ :: _ => exact ⟨fun _ _ _ _ _ _ z => z.elim⟩
/-- the reading of a comprehension: ks tells of each item what comes of it -/
theorem lc_read {t : Bool} {is vs : List Nat} {ds : List PyData} {ks : List (Option PyData)} {ifs : List Expr} {wi : TI} {σ : St} {F H : Hp} {M : Nat → Mini} {Q : VK} (ok : EOk X.K ρ F σ H M)
    (qi : ∀ (σ : St) (F H : Hp) (M : Nat → Mini) (R : It → Hp → Prop), EOk X.K ρ F σ H M → (∀ J F' H', Ext F H F' H' → Walks X.K J F' ds → R J H') → wi σ H R) (hin : ∀ i ∈ is, i ∈ vs) (hz : ds.length ≤ sizeLine) (hk : ks.length = ds.length)
    (he : ∀ (i : Nat) (d : PyData) (r : Option PyData), ds[i]? = some d → ks[i]? = some r → tgFit t is d ∧ ∃ b, IfB X scope (setAll (wipeE ρ vs) is (tgItems t d)) ifs b ∧ (b = false → r = none) ∧ (b = true → ∃ x, r = some x ∧ EvB X scope (setAll (wipeE ρ vs) is (tgItems t d)) elt x))
    (h : ∀ a ws F' H', Ext F H F' H' → H a = none → F' a = none → H' a = some (.lst ws) → DqAll X.K F' ws (ks.filterMap id) → Q (.ref a) H') : tLc wi (gOf X.K t is) (tIfB X scope ifs) (tEvB X scope elt) vs σ H Q := by
  refine qi σ F H M _ ok fun J F1 H1 x1 wk => ?_
  intro D hD
  have nF1 : F1 D = none := x1.sub.free hD
  refine ⟨fun i m H' => m = ds.length - i ∧ i ≤ ds.length ∧ ∃ F' ws, Ext F1 H1 F' H' ∧ F' D = none ∧ H' D = some (.lst ws) ∧ ws.length ≤ i ∧ DqAll X.K F' ws ((ks.take i).filterMap id), ⟨_, rfl, Nat.zero_le _, F1, [], .beside x1.sub hD, nF1, upd_same, Nat.le_refl _, .nil⟩, ?_⟩
  rintro i m H2 ⟨rfl, hle, F2, ws, x2, n2, h2, hw, dws⟩
  by_cases hlt : i < ds.length
  · refine .inr ⟨wk.go i F2 H2 x2.f x2.sub hlt, fun H' => i + 1 ≤ ds.length ∧ ∃ F' ws, Ext F1 H1 F' H' ∧ F' D = none ∧ H' D = some (.lst ws) ∧ ws.length ≤ i + 1 ∧ DqAll X.K F' ws ((ks.take (i + 1)).filterMap id), fun H' ⟨a1, a2⟩ => ⟨ds.length - (i + 1), by omega, rfl, a1, a2⟩, fun x H3 y => ?_⟩
    obtain ⟨F3, d, x3, hd, dv⟩ := wk.yld i F2 H2 x H3 x2.f x2.sub hlt y
    obtain ⟨r, hr⟩ : ∃ r, ks[i]? = some r := ⟨ks[i], List.getElem?_eq_getElem (by omega)⟩
    obtain ⟨fit, b, hb, hf, ht⟩ := he i d r hd hr
    have n3 : F3 D = none := by
      cases q : F3 D with
      | none => rfl
      | some u =>
        have z := x3.new D u q n2
        rw [z] at h2; cases h2
    have tk : ks.take (i + 1) = ks.take i ++ [r] := by
      have hi : i < ks.length := by omega
      rw [List.take_add_one, hr]
      rfl
    refine gOf_ok x3.sub dv fit fun xs dxs => ⟨by rw [wipe_setAllV hin, wipe_wipe], ?_⟩
    obtain ⟨M4, ok4⟩ := EOk.setAll (is := is) ((((ok.ext x1).wipe vs).ext x2).ext x3) dxs
    have go : ∀ F4 H4, Ext F3 H3 F4 H4 → (if b = true then tEvB X scope elt (setAllV (L2.wipe σ vs) is xs) H4 fun y H5 => ∃ acc, H5 D = some (.lst acc) ∧ acc.length < sizeLine ∧ (i + 1 ≤ ds.length ∧ ∃ F' ws, Ext F1 H1 F' (upd H5 D (.lst (acc ++ [y]))) ∧ F' D = none ∧ (upd H5 D (.lst (acc ++ [y]))) D = some (.lst ws) ∧ ws.length ≤ i + 1 ∧ DqAll X.K F' ws ((ks.take (i + 1)).filterMap id))
        else (i + 1 ≤ ds.length ∧ ∃ F' ws, Ext F1 H1 F' H4 ∧ F' D = none ∧ H4 D = some (.lst ws) ∧ ws.length ≤ i + 1 ∧ DqAll X.K F' ws ((ks.take (i + 1)).filterMap id))) := fun F4 H4 x4 => by
      have h3 : H3 D = some (.lst ws) := x3.h _ _ h2
      have n4 : F4 D = none := by
        cases q : F4 D with
        | none => rfl
        | some u =>
          have z := x4.new D u q n3
          rw [z] at h3; cases h3
      cases b with
      | false =>
        refine iteF ⟨hlt, F4, ws, (x2.trans x3).trans x4, n4, x4.h _ _ h3, Nat.le_succ_of_le hw, ?_⟩
        rw [tk, hf rfl, List.filterMap_append]
        simpa using dqAll_mono (x3.f.trans x4.f) _ _ dws
      | true =>
        obtain ⟨z, rfl, hz'⟩ := ht rfl
        refine iteT ⟨_, z, F4, M4, hz', ok4.ext x4, fun v F5 H5 x5 dz => ?_⟩
        have h4 : H4 D = some (.lst ws) := x4.h _ _ h3
        have n5 : F5 D = none := by
          cases q : F5 D with
          | none => rfl
          | some u =>
            have z := x5.new D u q n4
            rw [z] at h4; cases h4
        have x6 := ((x2.trans x3).trans x4).trans x5
        refine ⟨ws, x5.h _ _ h4, by omega, hlt, F5, ws ++ [v], ⟨x6.f, fun b u e => ?_, fun b u e => ?_, x6.new⟩, n5, upd_same, by rw [List.length_append]; simpa using hw, ?_⟩
        · rw [upd_ne (ne_of_none e hD)]; exact x6.h b u e
        · rw [upd_ne (ne_of_none e n5)]; exact x6.sub b u e
        · rw [tk, List.filterMap_append]
          exact DqAll_app (dqAll_mono ((x3.f.trans x4.f).trans x5.f) _ _ dws) (by simpa using DqAll.cons dz .nil)
    match ifs, hb with
    | [], hb =>
      have hb' : b = true := hb
      subst hb'
      exact go F3 H3 (.refl x3.sub)
    | [c], hb => exact ⟨_, b, F3, M4, hb, ok4, fun F' H' x => go F' H' x⟩
  · have e : i = ds.length := by omega
    subst e
    refine .inl ⟨wk.stop F2 H2 x2.f x2.sub, h D ws F2 H2 (x1.trans x2) (x1.h.free hD) n2 h2 ?_⟩
    rw [← hk, List.take_length] at dws
    exact dws
/-- [elt for tg in iter if ..] -/
theorem fr_lc {t : Bool} {is : List Nat} {ds : List PyData} {ks : List (Option PyData)} {ifs : List Expr} (own : List (Str × Nat)) (c : Ctx X C W k) (hi : Iv X W ρ tg iter ds) (hg : ∀ s H Cc cl fp, TgOk (bl X scope s H Cc cl fp) tg t is) (hz : ds.length ≤ sizeLine) (hk : ks.length = ds.length)
    (he : ∀ (i : Nat) (d : PyData) (r : Option PyData), ds[i]? = some d → ks[i]? = some r → tgFit t is d ∧ ∃ b, IfB X scope (setAll (wipeE ρ (own.map (·.2))) is (tgItems t d)) ifs b ∧ (b = false → r = none) ∧ (b = true → ∃ x, r = some x ∧ EvB X scope (setAll (wipeE ρ (own.map (·.2))) is (tgItems t d)) elt x))
    (hin : ∀ i ∈ is, i ∈ own.map (·.2) := by decide) (ok : BlkOk X.N X.env.scope scope own := by exact blkOk_by (by rfl)) (hs : ∀ x, foldedSetIterable iter X.env x = pure x := by intro _; rfl) : Fr X W ρ (.ListComp elt [⟨tg, iter, ifs, 0⟩] scope pos) (ks.filterMap id) := by
  obtain ⟨wi, hwi, qi⟩ := hi
  exact fun pins s σ F H M Q I ok' h => (pe_lc (own := own) (g := gOf X.K t is) c.calm c.nd hwi ok hg (fun s H Cc cl fp => pts_ifB s H Cc cl fp) (fun s H Cc cl fp => pe_evB s H Cc cl fp) hs).run pins s σ H Q I (lc_read ok' qi hin hz hk he h)
/-- x = [elt for tg in iter if ..], owned; x a local that no block reads -/
theorem sxs_setLc (j : Nat) {x : Str} {pos' spos : Pos} {t : Bool} {is : List Nat} {ds : List PyData} {ks : List (Option PyData)} {ifs : List Expr} (own : List (Str × Nat)) (c : Ctx X C W k) (hi : Iv X W ρ tg iter ds) (hg : ∀ s H Cc cl fp, TgOk (bl X scope s H Cc cl fp) tg t is) (hz : ds.length ≤ sizeLine) (hk : ks.length = ds.length)
    (he : ∀ (i : Nat) (d : PyData) (r : Option PyData), ds[i]? = some d → ks[i]? = some r → tgFit t is d ∧ ∃ b, IfB X scope (setAll (wipeE ρ (own.map (·.2))) is (tgItems t d)) ifs b ∧ (b = false → r = none) ∧ (b = true → ∃ x, r = some x ∧ EvB X scope (setAll (wipeE ρ (own.map (·.2))) is (tgItems t d)) elt x))
    (kk : Sxs X W rest (ρ.set j (some (ow none (ks.filterMap id)))) Φ)
    (hin : ∀ i ∈ is, i ∈ own.map (·.2) := by decide) (ok : BlkOk X.N X.env.scope scope own := by exact blkOk_by (by rfl)) (hs : ∀ x, foldedSetIterable iter X.env x = pure x := by intro _; rfl)
    (hy : X.N[j]? = some x := by rfl) (hyl : X.env.scope.names.lookup x = some .local := by rfl) (hsw : swapsWith (.ListComp elt [⟨tg, iter, ifs, 0⟩] scope pos) (some (.Name x pos')) spos.line X.env = pure true := by exact sw_true rfl rfl rfl (by rfl)) :
    Sxs X W (.Assign [.Name x pos'] (.ListComp elt [⟨tg, iter, ifs, 0⟩] scope pos) spos :: rest) ρ Φ := by
  obtain ⟨wi, hwi, qi⟩ := hi
  exact sxs_of (ps_setLc (own := own) (g := gOf X.K t is) c.calm c.nd hy hyl hsw hwi ok hg (fun s H Cc cl fp => pts_ifB s H Cc cl fp) (fun s H Cc cl fp => pe_evB s H Cc cl fp) hs) fun σ F H M B F0 D ok' q =>
    lc_read ok'.ok qi hin hz hk he fun a ws F' H' x n n' ha dv => ⟨_, Φ, F', _, B, F0, kk, ok'.setO x n n' ha dv, q⟩
/-- every item gives one -/
theorem keep_all (es : List PyData) : (es.map some).filterMap id = es := by
  induction es with
  | nil => rfl
  | cons e es ih => simp

/-! ### defs -/
/-- an argument that is read only -/
def EvS (X : Cx) (W : Wc) (ρ : Env) (e : Expr) (S : Slot) : Prop :=
  ∀ (pins : List (Addr × Obj)) (s : Shared) (σ : St) (F H : Hp) (M : Nat → Mini) (Q : VK), Inv X pins σ H s → EOk X.K ρ F σ H M → (∀ v F' H', Ext F H F' H' → S.R X.K F' v [] → Q v H') →
    wpAny (model X.prog X.w) X.A (eval e X.env) (EP X pins σ Q) X.xe s
theorem Ev.s {d : PyData} (h : Ev X W ρ e d) : EvS X W ρ e (fz d) := fun pins s σ F H M Q I ok q => h pins s σ F H M Q I ok (fun d' hd v F' H' x dv => by cases hd; exact q v F' H' x ⟨rfl, dv⟩) fun c hc => nomatch hc
theorem evs_kn (i : Nat) {x : Str} {pos : Pos} {ds : List PyData} (hd : ρ[i]? = some (some (kn ds))) (hN : X.N[i]? = some x := by rfl) (hv : Vis X.env.scope x := by first | exact Or.inl rfl | exact Or.inr (Or.inl rfl) | exact Or.inr (Or.inr rfl))
    (h1 : (x == ("__debug__" : Str)) = false := by decide) (h2 : (x == ("__classdict__" : Str)) = false := by decide) : EvS X W ρ (.Name x pos) (kn ds) :=
  fun pins s σ F H M Q I ok h => (pe_var hN hv h1 h2).run pins s σ H Q I (by
    obtain ⟨v, e, _, q⟩ := ok.at_ i _ hd
    exact ⟨_, e, h _ F H (.refl ok.sub) ⟨rfl, q⟩⟩)
def SlotsR (K : PySem.W.Frag) (F : Hp) : List V → List Slot → Prop := Paired fun v S => S.R K F v []
theorem SlotsR.mono {K : PySem.W.Frag} {F F' : Hp} (e : Same F F') : ∀ {vs : List V} {Ss : List Slot}, SlotsR K F vs Ss → SlotsR K F' vs Ss
  | _, _, .nil => .nil
  | _, _, .cons (b := S) h t => .cons (S.mono K F F' _ _ e h) (SlotsR.mono e t)
def EvAS (X : Cx) (W : Wc) (ρ : Env) (es : List Expr) (Ss : List Slot) : Prop :=
  ∀ (pos : Pos) (pins : List (Addr × Obj)) (s : Shared) (σ : St) (F H : Hp) (M : Nat → Mini) (Q : List V → Hp → Prop), Inv X pins σ H s → EOk X.K ρ F σ H M →
    (∀ vs F' H', Ext F H F' H' → SlotsR X.K F' vs Ss → Q vs H') → wpAny (model X.prog X.w) X.A (spliced (backTo pos (starEach es X.env))) (AP X pins σ Q) X.xe s
def tEvS (X : Cx) (ρ : Env) (S : Slot) : TE := fun σ H Q => ∃ F M, EOk X.K ρ F σ H M ∧ (∀ v F' H', Ext F H F' H' → S.R X.K F' v [] → Q v H')
theorem EvS.pe {S : Slot} (h : EvS X W ρ e S) : PE X e (tEvS X ρ S) := ⟨fun pins s σ H Q I ⟨F, M, ok, h1⟩ => h pins s σ F H M Q I ok h1⟩
def tEvAS (X : Cx) (ρ : Env) (Ss : List Slot) : TA := fun σ H Q => ∃ F M, EOk X.K ρ F σ H M ∧ (∀ vs F' H', Ext F H F' H' → SlotsR X.K F' vs Ss → Q vs H')
theorem EvAS.pa {Ss : List Slot} (h : EvAS X W ρ es Ss) : PA X es (tEvAS X ρ Ss) := ⟨fun pos pins s σ H Q I ⟨F, M, ok, h1⟩ => h pos pins s σ F H M Q I ok h1⟩
theorem as_nil : EvAS X W ρ [] [] := fun pos pins s σ F H M Q I ok h => pa_nil.run pos pins s σ H Q I (h _ F H (.refl ok.sub) .nil)
theorem as_cons {S : Slot} {Ss : List Slot} (ha : EvS X W ρ e S) (hr : EvAS X W ρ es Ss) (hs : starEach (e :: es) X.env = (false, eval e X.env) :: starEach es X.env := by rfl) : EvAS X W ρ (e :: es) (S :: Ss) :=
  fun pos pins s σ F H M Q I ok h => (pa_cons ha.pe hr.pa hs).run pos pins s σ H Q I ⟨F, M, ok, fun v F1 H1 x1 dv => ⟨F1, M, ok.ext x1, fun vs F2 H2 x2 dvs => h _ F2 H2 (x1.trans x2) (.cons (S.mono _ _ _ _ _ x2.f dv) dvs)⟩⟩

/-- a def that changes nothing and hands back, or raises: ins the arguments, r what comes of them, by an index of any kind -/
def spP (K : PySem.W.Frag) (C : Ec → Addr) {ι : Type} (n : Nat) (ins : ι → List Slot) (pre : ι → Prop) (r : ι → Except Ec Slot → Prop) : Sp := fun vs H Q E =>
  ∃ (i : ι) (F : Hp), Same F H ∧ vs.length = n ∧ SlotsR K F vs (ins i) ∧ pre i ∧
    (∀ S, r i (.ok S) → ∀ v F' H' m, Ext F H F' H' → S.R K F' v m → (∀ a o, (a, o) ∈ m → H' a = some o ∧ F' a = none ∧ H a = none) → Q v H') ∧ (∀ c, r i (.error c) → ∀ F' H', Ext F H F' H' → E (.ref (C c)) none H')
/-- a def of the module, by its promise -/
def Callee (P : Program) (w : World) (K : PySem.W.Frag) (mg : Str → Option Value) (base : Heap) (k : Nat) (x : Str) (sp : Sp) : Prop :=
  ∃ f fd ps, FnOk P w K mg base (L2.CX P w) k f fd ps sp ∧ mg x = some (.ref f) ∧ PySem.W.keepIn K (.ref f) = true ∧ Binds K fd ps []
variable {ι : Type} {n : Nat} {ins : ι → List Slot} {pre : ι → Prop} {r : ι → Except Ec Slot → Prop} {x : Str} {j : Nat}
theorem call_any (c : Ctx X C W k) (G : Callee X.prog X.w X.K X.mg X.base j x (spP X.K C n ins pre r)) (hj : j ≤ k) (i : ι) (hp : pre i) (ha : EvAS X W ρ (e :: es) (ins i)) (hn : (ins i).length = n)
    (hg : Gl X x) (hdb : (x == ("__debug__" : Str)) = false) (he : starEach (e :: es) X.env = (false, eval e X.env) :: starEach es X.env) (hpl : (backTo pos (starEach es X.env)).any (·.1) = false)
    (pins : List (Addr × Obj)) (s : Shared) (σ : St) (F H : Hp) (M : Nat → Mini) (Q : VK) (I : Inv X pins σ H s) (ok : EOk X.K ρ F σ H M)
    (h1 : ∀ S, r i (.ok S) → ∀ v F' H' m, Ext F H F' H' → S.R X.K F' v m → (∀ a o, (a, o) ∈ m → H' a = some o ∧ F' a = none ∧ H a = none) → Q v H') (h2 : ∀ c, r i (.error c) → ∀ F' H', Ext F H F' H' → W c σ H') :
    wpAny (model X.prog X.w) X.A (eval (.Call (.Name x p) (e :: es) [] pos) X.env) (EP X pins σ Q) X.xe s := by
  obtain ⟨f, fd, ps, hF, hm, hk, hb⟩ := G
  refine (pe_callS (E := WE (fun cls d σ H => ∃ c, cls = .ref (C c) ∧ d = none ∧ W c σ H)) hF (c.room.mono hj) hg hm hk hb (fun σ => passAt c.tk σ) ha.pa hdb he hpl).run pins s σ H Q I ?_
  refine ⟨F, M, ok, fun vs F1 H1 x1 dvs => ⟨i, F1, x1.sub, (Paired.length dvs).trans hn, dvs, hp, fun S hS v F' H' m x2 hv hm => ?_, fun c hc F' H' x2 => ⟨c, rfl, rfl, h2 c hc F' H' (x1.trans x2)⟩⟩⟩
  exact h1 S hS v F' H' m (x1.trans x2) hv fun a o hmem => ⟨(hm a o hmem).1, (hm a o hmem).2.1, x1.h.free (hm a o hmem).2.2⟩
theorem evR_call {r' : Except Ec PyData} (c : Ctx X C W k) (G : Callee X.prog X.w X.K X.mg X.base j x (spP X.K C n ins pre r)) (i : ι) (hp : pre i) (hr : ∀ o, r i o → o = r'.map fz) (ha : EvAS X W ρ (e :: es) (ins i)) (hj : j ≤ k := by decide) (hn : (ins i).length = n := by rfl)
    (hg : Gl X x := by rfl) (hdb : (x == ("__debug__" : Str)) = false := by decide) (he : starEach (e :: es) X.env = (false, eval e X.env) :: starEach es X.env := by rfl) (hpl : (backTo pos (starEach es X.env)).any (·.1) = false := by rfl) : EvR X W ρ (.Call (.Name x p) (e :: es) [] pos) r' :=
  fun pins s σ F H M Q I ok h1 h2 => call_any c G hj i hp ha hn hg hdb he hpl pins s σ F H M Q I ok (fun S hS v F' H' m x2 hv hm => by
    have hS := hr _ hS
    cases r' with
    | error c => cases hS
    | ok d =>
      have e : S = fz d := Except.ok.inj hS
      subst e
      exact h1 d rfl v F' H' x2 hv.2) fun c hc F' H' x2 => by
    have hc := hr _ hc
    cases r' with
    | ok d => cases hc
    | error c' =>
      have e : c = c' := Except.error.inj hc
      subst e
      exact h2 _ rfl F' H' x2
theorem ev_call {d : PyData} (c : Ctx X C W k) (G : Callee X.prog X.w X.K X.mg X.base j x (spP X.K C n ins pre r)) (i : ι) (hp : pre i) (hr : ∀ o, r i o → o = .ok (fz d)) (ha : EvAS X W ρ (e :: es) (ins i)) (hj : j ≤ k := by decide) (hn : (ins i).length = n := by rfl)
    (hg : Gl X x := by rfl) (hdb : (x == ("__debug__" : Str)) = false := by decide) (he : starEach (e :: es) X.env = (false, eval e X.env) :: starEach es X.env := by rfl) (hpl : (backTo pos (starEach es X.env)).any (·.1) = false := by rfl) : Ev X W ρ (.Call (.Name x p) (e :: es) [] pos) d :=
  evR_call c G i hp hr ha hj hn hg hdb he hpl
/-- a def that hands back a new list -/
theorem fr_call {ds : List PyData} (c : Ctx X C W k) (G : Callee X.prog X.w X.K X.mg X.base j x (spP X.K C n ins pre r)) (i : ι) (hp : pre i) (hr : ∀ o, r i o → o = .ok (ow none ds)) (ha : EvAS X W ρ (e :: es) (ins i)) (hj : j ≤ k := by decide) (hn : (ins i).length = n := by rfl)
    (hg : Gl X x := by rfl) (hdb : (x == ("__debug__" : Str)) = false := by decide) (he : starEach (e :: es) X.env = (false, eval e X.env) :: starEach es X.env := by rfl) (hpl : (backTo pos (starEach es X.env)).any (·.1) = false := by rfl) : Fr X W ρ (.Call (.Name x p) (e :: es) [] pos) ds :=
  fun pins s σ F H M Q I ok h1 => call_any c G hj i hp ha hn hg hdb he hpl pins s σ F H M Q I ok (fun S hS v F' H' m x2 hv hm => by
    have e : S = ow none ds := Except.ok.inj (hr _ hS)
    subst e
    obtain ⟨a, vs, rfl, em, _, dv⟩ := hv
    obtain ⟨z1, z2, z3⟩ := hm a (.lst vs) (by rw [em]; exact List.mem_cons_self)
    exact h1 a vs F' H' x2 z3 z2 z1 dv) fun c hc F' H' x2 => nomatch hr _ hc
end

/-- a def as it stands behind the top -/
def Df (K : PySem.W.Frag) (mg : Str → Option Value) (x : Str) (st : Stmt) : Prop := ∃ f fd, Fun K x x st f fd ∧ mg x = some (.ref f)
/-- what the body is to reach -/
def bodyS (r : Except Ec Slot → Prop) : Out → Prop
  | .next _ => r (.ok (fz .none))
  | .ret S _ => r (.ok S)
  | .raise c _ => r (.error c)
  | _ => False
/-- .. with the names of its parameters -/
def CalleeP (P : Program) (w : World) (K : PySem.W.Frag) (mg : Str → Option Value) (base : Heap) (k : Nat) (x : Str) (ps : List Str) (sp : Sp) : Prop :=
  ∃ f fd, FnOk P w K mg base (L2.CX P w) k f fd ps sp ∧ mg x = some (.ref f) ∧ PySem.W.keepIn K (.ref f) = true ∧ Binds K fd ps [] ∧ (∀ (s : Shared) (us : List Value), us.length = ps.length → BindsTo s fd ⟨us, []⟩ (ps.zip us)) ∧ ∃ oc od osl, K.lookup f = some ⟨oc, od, .func fd, osl⟩
/-- the one outcome -/
abbrev is {α : Type} (a : α) : α → Prop := fun o => o = a
section
variable {P : Program} {w : World} {K : PySem.W.Frag} {mg : Str → Option Value} {base : Heap} {C : Ec → Addr} {k : Nat} {x : Str} {st : Stmt} {N ps : List Str} {ι : Type} {ins : ι → List Slot} {pre : ι → Prop} {r : ι → Except Ec Slot → Prop}
/-- the context of a def's body -/
abbrev cxD (P : Program) (w : World) (K : PySem.W.Frag) (mg : Str → Option Value) (base : Heap) (N : List Str) (x : Str) (st : Stmt) (f : Addr) (cdv : Value) (A : Around) (outer : List PySem.Env) (s : Shared) (H : Hp) (E : XK) : Cx := cxOf (L2.CX P w) P w K mg base N x (defScope st) f cdv A outer s H E
theorem EOk_args {F H : Hp} : ∀ {vs : List V} {Ss : List Slot} {m : Nat}, Same F H → SlotsR K F vs Ss → EOk K (Ss.map some ++ List.replicate m none) F (vs.map some ++ List.replicate m none) H (fun _ => []) := fun {vs Ss m} s h => by
  refine ⟨?_, s, fun i S hi => ?_, (fun _ _ _ z => nomatch z), (fun _ _ _ _ _ z => nomatch z)⟩
  · simp [Paired.length h]
  · have hl : i < Ss.length := by
      by_cases q : i < Ss.length
      · exact q
      · rw [List.getElem?_append_right (by simpa using q)] at hi
        rw [List.getElem?_replicate] at hi
        split at hi <;> cases hi
    rw [List.getElem?_append_left (by simpa using hl), List.getElem?_map] at hi
    have key : ∀ {vs : List V} {Ss : List Slot} (i : Nat), SlotsR K F vs Ss → Ss[i]? = some S → ∃ v, vs[i]? = some v ∧ S.R K F v [] := by
      intro vs Ss i h
      induction h generalizing i with
      | nil => intro e; simp at e
      | cons hh t ih =>
        intro e
        cases i with
        | zero => simp at e; subst e; exact ⟨_, by simp, hh⟩
        | succ i =>
          obtain ⟨v, h1, h2⟩ := ih i (by simpa using e)
          exact ⟨v, by simpa using h1, h2⟩
    obtain ⟨v, h1, h2⟩ := key i h (by
      cases q : Ss[i]? with
      | none => rw [q] at hi; cases hi
      | some T => rw [q] at hi; simpa using hi)
    refine ⟨v, ?_, h2⟩
    rw [List.getElem?_append_left (by rw [List.length_map, Paired.length h]; exact hl), List.getElem?_map, h1]
    rfl
theorem callee_ofP (D : Df K mg x st) (S : FnScope N ps (defScope st))
    (hb : ∀ (kV doc pm : Value) (an : Option Addr) (cdv ct : Value) (us : List Value), us.length = ps.length → bindArgs (PySem.W.fnOf x x (defArgs st) (defBody st) (defScope st) .none kV doc pm an cdv ct) ⟨us, []⟩ = pure (ps.zip us))
    (body : ∀ (f : Addr) (cdv : Value) (A : Around) (outer : List PySem.Env) (s : Shared) (H : Hp) (E : XK), Ctx (cxD P w K mg base N x st f cdv A outer s H E) C (fun c σ H => E (.ref (C c)) none H) k → ∀ i, pre i →
      Sxs (cxD P w K mg base N x st f cdv A outer s H E) (fun c σ H => E (.ref (C c)) none H) (defBody st) ((ins i).map some ++ List.replicate (N.length - (ins i).length) none) (bodyS (r i))) : CalleeP P w K mg base (k + 1) x ps (spP K C ps.length ins pre r) := by
  obtain ⟨f, fd, F, hm⟩ := D
  refine ⟨f, fd, F.okX S (fun vs H Q E ⟨i, F, _, h, _⟩ => h) (fun cdv A outer s H vs Q E hr h => ?_), hm, F.kp, F.binds hb, ?_⟩
  rotate_left
  · obtain ⟨oc, od, kV, doc, pm, an, cdv, ct, osl, rfl, lk, _⟩ := F.ex
    exact ⟨fun s us hl => .of_eq (hb kV doc pm an cdv ct us hl), _, _, _, lk⟩
  obtain ⟨i, F0, s0, hl, hv, hp, q1, q2⟩ := h
  have tk : Takes (cxD P w K mg base N x st f cdv A outer s H E) (fun cls d σ H => ∃ c, cls = .ref (C c) ∧ d = none ∧ E (.ref (C c)) none H) :=
    Takes.imp (takes_of rfl rfl rfl rfl) fun cls d σ H ⟨c, e1, e2, z⟩ => by subst e1 e2; exact z
  have cc : Ctx (cxD P w K mg base N x st f cdv A outer s H E) C (fun c σ H => E (.ref (C c)) none H) k := ⟨rfl, hr, S.nd, passes_of rfl, tk⟩
  have b := body f cdv A outer s H E cc i hp
  have el : N.length - (ins i).length = N.length - vs.length := by rw [Paired.length hv]
  have ok : EOk K ((ins i).map some ++ List.replicate (N.length - (ins i).length) none) F0 (start N vs) H (fun _ => []) := by
    rw [el]; exact EOk_args s0 hv
  have gr : ∀ {F' H' : Hp} {ρ : Env} {σ : St} {M : Nat → Mini}, PInv K H F0 ρ F' σ H' M → Ext F0 H F' H' := fun y => ⟨y.f0, y.base, y.ok.sub, y.nb⟩
  refine ⟨_, pss_Sxs _ _ _, _, _, F0, _, H, F0, b, ⟨ok, .refl _, .refl _, (fun a o h1 h2 => by rw [h1] at h2; cases h2), fun _ _ _ z => nomatch z⟩, fun o ho => ?_⟩
  cases o with
  | next ρ => exact fun F' σ H' M y => q1 _ ho .non F' H' [] (gr y) ⟨rfl, .non⟩ fun _ _ z => nomatch z
  | ret S ρ =>
    intro v F' σ H' M y
    obtain ⟨v', e, hv'⟩ := y.ok.at_ 0 S rfl
    have e' : v = v' := by simpa using e
    subst e'
    exact q1 S ho v F' H' (M 0) (gr y) hv' fun a o hm => ⟨(y.ok.own 0 a o hm).1, (y.ok.own 0 a o hm).2, y.mb 0 a o hm⟩
  | brk ρ => exact ho.elim
  | cont ρ => exact ho.elim
  | raise c ρ => exact fun F' σ H' M y => q2 c ho F' H' (gr y)
theorem callee_of (D : Df K mg x st) (S : FnScope N ps (defScope st))
    (hb : ∀ (kV doc pm : Value) (an : Option Addr) (cdv ct : Value) (us : List Value), us.length = ps.length → bindArgs (PySem.W.fnOf x x (defArgs st) (defBody st) (defScope st) .none kV doc pm an cdv ct) ⟨us, []⟩ = pure (ps.zip us))
    (body : ∀ (f : Addr) (cdv : Value) (A : Around) (outer : List PySem.Env) (s : Shared) (H : Hp) (E : XK), Ctx (cxD P w K mg base N x st f cdv A outer s H E) C (fun c σ H => E (.ref (C c)) none H) k → ∀ i, pre i →
      Sxs (cxD P w K mg base N x st f cdv A outer s H E) (fun c σ H => E (.ref (C c)) none H) (defBody st) ((ins i).map some ++ List.replicate (N.length - (ins i).length) none) (bodyS (r i))) : Callee P w K mg base (k + 1) x (spP K C ps.length ins pre r) := 
  let ⟨f, fd, h1, h2, h3, h4, _⟩ := callee_ofP D S hb body
  ⟨f, fd, ps, h1, h2, h3, h4⟩
end
end PV

/-! The pure-value layer: trees of owned lists and tuples. -/
namespace PV
open PySem PySem.Spec PyProof.Rows L2
/-- data, parts of which are owned (l: where it stands, if that is told) -/
inductive T where
  | fz (d : PyData)
  | lst (l : Option Addr) (ts : List T)
  | tup (l : Option Addr) (ts : List T)
mutual
def T.er : T → PyData
  | .fz d => d
  | .lst _ ts => .list (T.ers ts)
  | .tup _ ts => .tuple (T.ers ts)
def T.ers : List T → List PyData
  | [] => []
  | t :: ts => t.er :: T.ers ts
end
theorem ers_map : ∀ ts : List T, T.ers ts = ts.map T.er
  | [] => rfl
  | t :: ts => by rw [T.ers, List.map_cons, ers_map ts]
def Ap (m m' : Mini) : Prop := ∀ (a : Addr) (o o' : HO), (a, o) ∈ m → (a, o') ∉ m'
mutual
inductive OT (K : PySem.W.Frag) (F : Hp) : V → T → Mini → Prop
  | fz {v : V} {d : PyData} : Dq K F v d → OT K F v (.fz d) []
  | lst {a : Addr} {l : Option Addr} {vs : List V} {ts : List T} {m : Mini} : (∀ q, l = some q → a = q) → OTs K F vs ts m → (∀ o, (a, o) ∉ m) → OT K F (.ref a) (.lst l ts) ((a, .lst vs) :: m)
  | tup {a : Addr} {l : Option Addr} {vs : List V} {ts : List T} {m : Mini} : (∀ q, l = some q → a = q) → OTs K F vs ts m → (∀ o, (a, o) ∉ m) → OT K F (.ref a) (.tup l ts) ((a, .tup vs) :: m)
inductive OTs (K : PySem.W.Frag) (F : Hp) : List V → List T → Mini → Prop
  | nil : OTs K F [] [] []
  | cons {v : V} {t : T} {m : Mini} {vs : List V} {ts : List T} {m' : Mini} : OT K F v t m → OTs K F vs ts m' → Ap m m' → OTs K F (v :: vs) (t :: ts) (m ++ m')
end
section
variable {K : PySem.W.Frag} {F F' H : Hp}
mutual
theorem OT.mono (e : Same F F') : ∀ (t : T) (v : V) (m : Mini), OT K F v t m → OT K F' v t m
  | .fz d, _, _, h => by cases h with | fz h => exact .fz (dq_mono e _ _ h)
  | .lst l ts, _, _, h => by cases h with | lst h1 h2 h3 => exact .lst h1 (OTs.mono e ts _ _ h2) h3
  | .tup l ts, _, _, h => by cases h with | tup h1 h2 h3 => exact .tup h1 (OTs.mono e ts _ _ h2) h3
theorem OTs.mono (e : Same F F') : ∀ (ts : List T) (vs : List V) (m : Mini), OTs K F vs ts m → OTs K F' vs ts m
  | [], _, _, h => by cases h; exact .nil
  | t :: ts, _, _, h => by cases h with | cons h1 h2 h3 => exact .cons (OT.mono e t _ _ h1) (OTs.mono e ts _ _ h2) h3
end
mutual
theorem OT.dq (s : Same F H) : ∀ (t : T) (v : V) (m : Mini), OT K F v t m → (∀ a o, (a, o) ∈ m → H a = some o) → Dq K H v t.er
  | .fz d, _, _, h, q => by cases h with | fz h => exact dq_mono s _ _ h
  | .lst l ts, _, _, h, q => by
    cases h with
    | lst h1 h2 h3 =>
      have e : T.er (.lst l ts) = .list (T.ers ts) := by rw [T.er]
      rw [e]
      exact .lst (.inl (q _ _ List.mem_cons_self)) (OTs.dq s ts _ _ h2 fun a o h => q a o (List.mem_cons_of_mem _ h))
  | .tup l ts, _, _, h, q => by
    cases h with
    | tup h1 h2 h3 =>
      have e : T.er (.tup l ts) = .tuple (T.ers ts) := by rw [T.er]
      rw [e]
      exact .tup (.of (q _ _ List.mem_cons_self)) (OTs.dq s ts _ _ h2 fun a o h => q a o (List.mem_cons_of_mem _ h))
theorem OTs.dq (s : Same F H) : ∀ (ts : List T) (vs : List V) (m : Mini), OTs K F vs ts m → (∀ a o, (a, o) ∈ m → H a = some o) → DqAll K H vs (T.ers ts)
  | [], _, _, h, q => by cases h; rw [T.ers]; exact .nil
  | t :: ts, _, _, h, q => by
    cases h with
    | cons h1 h2 h3 =>
      rw [T.ers]
      exact .cons (OT.dq s t _ _ h1 fun a o h => q a o (List.mem_append_left _ h)) (OTs.dq s ts _ _ h2 fun a o h => q a o (List.mem_append_right _ h))
end
theorem OTs.len : ∀ {vs : List V} {ts : List T} {m : Mini}, OTs K F vs ts m → vs.length = ts.length
  | _, _, _, .nil => rfl
  | _, _, _, .cons _ t _ => congrArg (· + 1) (OTs.len t)
/-- frozen items as a tree's -/
theorem OTs.ofDq : ∀ {vs : List V} {ds : List PyData}, DqAll K F vs ds → OTs K F vs (ds.map T.fz) []
  | _, _, .nil => .nil
  | _, _, .cons h t => .cons (m := []) (.fz h) (OTs.ofDq t) fun _ _ _ h => nomatch h
theorem OTs.app : ∀ {vs ws : List V} {ts us : List T} {m m' : Mini}, OTs K F vs ts m → OTs K F ws us m' → Ap m m' → OTs K F (vs ++ ws) (ts ++ us) (m ++ m')
  | _, _, _, _, _, _, .nil, h, _ => h
  | _, _, _, _, _, _, .cons (m := m1) (m' := m2) h t a, h', a' => by
    rw [List.append_assoc]
    refine .cons h (OTs.app t h' fun b o o' hm => a' b o o' (List.mem_append_right _ hm)) fun b o o' hm hm' => ?_
    rcases List.mem_append.mp hm' with z | z
    · exact a b o o' hm z
    · exact a' b o o' (List.mem_append_left _ hm) z
theorem OTs.one {v : V} {t : T} {m : Mini} (h : OT K F v t m) : OTs K F [v] [t] m := by
  have z := OTs.cons h .nil (fun _ _ _ _ h => nomatch h)
  rw [List.append_nil] at z
  exact z
/-- one item: what stands there, and what comes of putting another thing there -/
theorem OTs.at : ∀ {vs : List V} {ts : List T} {m : Mini} {k : Nat} {u : T}, OTs K F vs ts m → ts[k]? = some u → ∃ v mu, vs[k]? = some v ∧ OT K F v u mu ∧ (∀ x, x ∈ mu → x ∈ m) ∧
    ∀ (w : V) (u' : T) (mu' : Mini), OT K F w u' mu' → (∀ b o, (b, o) ∈ mu' → (∃ o', (b, o') ∈ mu) ∨ ∀ o', (b, o') ∉ m) → ∃ m', OTs K F (vs.set k w) (ts.set k u') m' ∧ ∀ b o, (b, o) ∈ m' → ((b, o) ∈ m ∧ ∀ o', (b, o') ∉ mu) ∨ (b, o) ∈ mu'
  | _, _, _, _, _, .nil, e => by simp at e
  | _, _, _, 0, u, .cons (v := v) (m := m1) (m' := m2) (vs := vs) (ts := ts) h t a, e => by
    have e : _ = u := Option.some.inj e
    subst e
    refine ⟨v, m1, rfl, h, fun x hx => List.mem_append_left _ hx, fun w u' mu' hw hq => ⟨mu' ++ m2, .cons hw t fun b o o' h1 h2 => ?_, fun b o hm => ?_⟩⟩
    · rcases hq b o h1 with ⟨o2, z⟩ | z
      · exact a b o2 o' z h2
      · exact z o' (List.mem_append_right _ h2)
    · rcases List.mem_append.mp hm with z | z
      · exact .inr z
      · exact .inl ⟨List.mem_append_right _ z, fun o' hz => a b o' o hz z⟩
  | _, _, _, k + 1, u, .cons (v := v) (t := t0) (m := m1) (m' := m2) (vs := vs) (ts := ts) h t a, e => by
    obtain ⟨w, mu, h1, h2, h3, h4⟩ := OTs.at (k := k) (u := u) t (by simpa using e)
    refine ⟨w, mu, by simpa using h1, h2, fun x hx => List.mem_append_right _ (h3 x hx), fun w' u' mu' hw hq => ?_⟩
    obtain ⟨m', q1, q2⟩ := h4 w' u' mu' hw fun b o hm => by
      rcases hq b o hm with z | z
      · exact .inl z
      · exact .inr fun o' hz => z o' (List.mem_append_right _ hz)
    refine ⟨m1 ++ m', .cons h q1 fun b o o' z1 z2 => ?_, fun b o hm => ?_⟩
    · rcases q2 b o' z2 with ⟨z, _⟩ | z
      · exact a b o o' z1 z
      · rcases hq b o' z with ⟨o2, z3⟩ | z3
        · exact a b o o2 z1 (h3 _ z3)
        · exact z3 o (List.mem_append_left _ z1)
    · rcases List.mem_append.mp hm with z | z
      · exact .inl ⟨List.mem_append_left _ z, fun o' hz => a b o o' z (h3 _ hz)⟩
      · rcases q2 b o z with ⟨z1, z2⟩ | z1
        · exact .inl ⟨List.mem_append_right _ z1, z2⟩
        · exact .inr z1
/-- the first k items alone -/
theorem OTs.take : ∀ {vs : List V} {ts : List T} {m : Mini} (k : Nat), OTs K F vs ts m → ∃ m', OTs K F (vs.take k) (ts.take k) m' ∧ ∀ x, x ∈ m' → x ∈ m
  | _, _, _, 0, _ => ⟨[], .nil, fun _ h => nomatch h⟩
  | _, _, _, _ + 1, .nil => ⟨[], .nil, fun _ h => nomatch h⟩
  | _, _, _, k + 1, .cons (m := m1) h t a => by
    obtain ⟨m', q1, q2⟩ := OTs.take k t
    refine ⟨m1 ++ m', .cons h q1 fun b o o' z1 z2 => a b o o' z1 (q2 _ z2), fun x hx => ?_⟩
    rcases List.mem_append.mp hx with z | z
    · exact List.mem_append_left _ z
    · exact List.mem_append_right _ (q2 _ z)
end
/-! ### parts of a tree -/
def T.at? : T → List Nat → Option T
  | t, [] => some t
  | .lst _ ts, k :: π => match ts[k]? with
    | some t => t.at? π
    | none => none
  | .tup _ ts, k :: π => match ts[k]? with
    | some t => t.at? π
    | none => none
  | .fz _, _ :: _ => none
def T.put : T → List Nat → T → T
  | _, [], u => u
  | .lst l ts, k :: π, u => match ts[k]? with
    | some t => .lst l (ts.set k (t.put π u))
    | none => .lst l ts
  | .tup l ts, k :: π, u => match ts[k]? with
    | some t => .tup l (ts.set k (t.put π u))
    | none => .tup l ts
  | .fz d, _ :: _, _ => .fz d
/-- the value that stands there -/
def NodeV (H : Hp) : V → List Nat → V → Prop
  | v, [], w => v = w
  | v, k :: π, w => ∃ a vs u, v = .ref a ∧ (H a = some (.lst vs) ∨ H a = some (.tup vs)) ∧ vs[k]? = some u ∧ NodeV H u π w
theorem NodeV.same {H H' : Hp} (e : Same H H') : ∀ {π : List Nat} {v w : V}, NodeV H v π w → NodeV H' v π w
  | [], _, _, h => h
  | k :: π, _, _, ⟨a, vs, u, h1, h2, h3, h4⟩ => ⟨a, vs, u, h1, h2.imp (e _ _) (e _ _), h3, NodeV.same e h4⟩
theorem NodeV.inj {H : Hp} : ∀ {π : List Nat} {v w w' : V}, NodeV H v π w → NodeV H v π w' → w = w'
  | [], _, _, _, h, h' => h.symm.trans h'
  | k :: π, _, _, _, ⟨a, vs, u, h1, h2, h3, h4⟩, ⟨a', vs', u', h1', h2', h3', h4'⟩ => by
    have e : a = a' := V.ref.inj (h1.symm.trans h1')
    subst e
    have e : vs = vs' := by
      rcases h2 with h2 | h2 <;> rcases h2' with h2' | h2' <;> rw [h2] at h2' <;> cases h2' <;> rfl
    subst e
    rw [h3] at h3'; cases h3'
    exact NodeV.inj h4 h4'
theorem NodeV.snoc {H : Hp} : ∀ {π : List Nat} {v w : V} {a : Addr} {vs : List V} {k : Nat} {u : V}, NodeV H v π w → w = .ref a → (H a = some (.lst vs) ∨ H a = some (.tup vs)) → vs[k]? = some u → NodeV H v (π ++ [k]) u
  | [], _, _, a, vs, k, u, h, e, h2, h3 => by
    have h' : _ = _ := h
    subst h'
    exact ⟨a, vs, u, e, h2, h3, rfl⟩
  | j :: π, _, _, _, _, _, _, ⟨a, vs, u, h1, h2, h3, h4⟩, e, h5, h6 => ⟨a, vs, u, h1, h2, h3, NodeV.snoc h4 e h5 h6⟩
theorem at_snoc : ∀ {π : List Nat} {t u : T} {k : Nat} {w : T}, t.at? π = some u → u.at? [k] = some w → t.at? (π ++ [k]) = some w
  | [], t, u, k, w, h, h' => by
    have e : t = u := Option.some.inj (by simpa [T.at?] using h)
    subst e
    exact h'
  | j :: π, .fz d, u, k, w, h, _ => by simp [T.at?] at h
  | j :: π, .lst l ts, u, k, w, h, h' => by
    simp only [T.at?, List.cons_append] at h ⊢
    cases q : ts[j]? with
    | none => rw [q] at h; cases h
    | some t => rw [q] at h; exact at_snoc h h'
  | j :: π, .tup l ts, u, k, w, h, h' => by
    simp only [T.at?, List.cons_append] at h ⊢
    cases q : ts[j]? with
    | none => rw [q] at h; cases h
    | some t => rw [q] at h; exact at_snoc h h'
section
variable {K : PySem.W.Frag} {F H : Hp}
theorem OT.get : ∀ {π : List Nat} {t u : T} {v : V} {m : Mini}, OT K F v t m → (∀ a o, (a, o) ∈ m → H a = some o) → t.at? π = some u → ∃ w m1, NodeV H v π w ∧ OT K F w u m1 ∧ ∀ x, x ∈ m1 → x ∈ m
  | [], t, u, v, m, h, _, e => by
    have e : t = u := Option.some.inj (by simpa [T.at?] using e)
    subst e
    exact ⟨v, m, rfl, h, fun _ z => z⟩
  | k :: π, .fz d, u, v, m, h, _, e => by simp [T.at?] at e
  | k :: π, .lst l ts, u, v, m, h, q, e => by
    simp only [T.at?] at e
    cases z : ts[k]? with
    | none => rw [z] at e; cases e
    | some t =>
      rw [z] at e
      cases h with
      | @lst a l vs ts m1 h1 h2 h3 =>
        obtain ⟨w, mu, g1, g2, g3, _⟩ := h2.at z
        obtain ⟨x, m2, k1, k2, k3⟩ := OT.get g2 (fun a o hm => q a o (List.mem_cons_of_mem _ (g3 _ hm))) e
        exact ⟨x, m2, ⟨a, vs, w, rfl, .inl (q _ _ List.mem_cons_self), g1, k1⟩, k2, fun y hy => List.mem_cons_of_mem _ (g3 _ (k3 y hy))⟩
  | k :: π, .tup l ts, u, v, m, h, q, e => by
    simp only [T.at?] at e
    cases z : ts[k]? with
    | none => rw [z] at e; cases e
    | some t =>
      rw [z] at e
      cases h with
      | @tup a l vs ts m1 h1 h2 h3 =>
        obtain ⟨w, mu, g1, g2, g3, _⟩ := h2.at z
        obtain ⟨x, m2, k1, k2, k3⟩ := OT.get g2 (fun a o hm => q a o (List.mem_cons_of_mem _ (g3 _ hm))) e
        exact ⟨x, m2, ⟨a, vs, w, rfl, .inr (q _ _ List.mem_cons_self), g1, k1⟩, k2, fun y hy => List.mem_cons_of_mem _ (g3 _ (k3 y hy))⟩
/-- a list within a tree: what comes of other items there -/
theorem OT.mut : ∀ {π : List Nat} {t : T} {l : Option Addr} {ts : List T} {v : V} {m : Mini}, OT K F v t m → t.at? π = some (.lst l ts) → ∃ a vs m1, (a, HO.lst vs) ∈ m ∧ (∀ q, l = some q → a = q) ∧ OTs K F vs ts m1 ∧ (∀ x, x ∈ m1 → x ∈ m) ∧ (∀ o, (a, o) ∉ m1) ∧
    (∀ H : Hp, (∀ b o, (b, o) ∈ m → H b = some o) → NodeV H v π (.ref a)) ∧
    ∀ (l' : Option Addr) (vs' : List V) (ts' : List T) (m2 : Mini), (∀ q, l' = some q → a = q) → OTs K F vs' ts' m2 → (∀ b o, (b, o) ∈ m2 → b ≠ a ∧ ((b, o) ∈ m1 ∨ ∀ o', (b, o') ∉ m)) →
      ∃ m', OT K F v (t.put π (.lst l' ts')) m' ∧ ∀ b o, (b, o) ∈ m' → (b ≠ a ∧ (b, o) ∈ m) ∨ (b = a ∧ o = .lst vs') ∨ (b, o) ∈ m2
  | [], t, l, ts, v, m, h, e => by
    have e : t = .lst l ts := Option.some.inj (by simpa [T.at?] using e)
    subst e
    cases h with
    | @lst a l vs ts m1 h1 h2 h3 =>
      refine ⟨a, vs, m1, List.mem_cons_self, h1, h2, fun x hx => List.mem_cons_of_mem _ hx, h3, fun H _ => rfl, fun l' vs' ts' m2 hl' q1 q2 => ⟨(a, .lst vs') :: m2, by rw [T.put]; exact .lst hl' q1 fun o z => (q2 a o z).1 rfl, fun b o hm => ?_⟩⟩
      rcases List.mem_cons.mp hm with z | z
      · cases z; exact .inr (.inl ⟨rfl, rfl⟩)
      · exact .inr (.inr z)
  | k :: π, .fz d, l, ts, v, m, h, e => by simp [T.at?] at e
  | k :: π, .lst l0 us, l, ts, v, m, h, e => by
    simp only [T.at?] at e
    cases z : us[k]? with
    | none => rw [z] at e; cases e
    | some t =>
      rw [z] at e
      cases h with
      | @lst a0 _ vs0 _ mm h1 h2 h3 =>
        obtain ⟨w, mu, g1, g2, g3, g4⟩ := h2.at z
        obtain ⟨a, vs, m1, k1, k2, k3, k4, k5, k6, k7⟩ := OT.mut g2 e
        have na : a ≠ a0 := fun x => by subst x; exact h3 _ (g3 _ k1)
        refine ⟨a, vs, m1, List.mem_cons_of_mem _ (g3 _ k1), k2, k3, fun x hx => List.mem_cons_of_mem _ (g3 _ (k4 x hx)), k5, fun H q => ⟨a0, vs0, w, rfl, .inl (q _ _ List.mem_cons_self), g1, k6 H fun b o hm => q b o (List.mem_cons_of_mem _ (g3 _ hm))⟩, fun l' vs' ts' m2 hl' q1 q2 => ?_⟩
        obtain ⟨mu', r1, r2⟩ := k7 l' vs' ts' m2 hl' q1 fun b o hm => ⟨(q2 b o hm).1, (q2 b o hm).2.imp id fun hz o' hm' => hz o' (List.mem_cons_of_mem _ (g3 _ hm'))⟩
        have out : ∀ b o, (b, o) ∈ mu' → (∃ o', (b, o') ∈ mu) ∨ ∀ o', (b, o') ∉ mm := fun b o hm => by
          rcases r2 b o hm with ⟨_, y⟩ | ⟨rfl, _⟩ | y
          · exact .inl ⟨o, y⟩
          · exact .inl ⟨_, k1⟩
          · rcases (q2 b o y).2 with y' | y'
            · exact .inl ⟨o, k4 _ y'⟩
            · exact .inr fun o' hz => y' o' (List.mem_cons_of_mem _ hz)
        obtain ⟨m', s1, s2⟩ := g4 w _ mu' r1 out
        have es : vs0.set k w = vs0 := by
          apply List.ext_getElem?
          intro i
          by_cases hi : k = i
          · subst hi
            rw [List.getElem?_set_self (List.getElem?_eq_some_iff.mp g1).1, g1]
          · rw [List.getElem?_set_ne hi]
        rw [es] at s1
        refine ⟨(a0, .lst vs0) :: m', ?_, fun b o hm => ?_⟩
        · rw [T.put, z]
          refine .lst h1 s1 fun o hm => ?_
          rcases s2 a0 o hm with ⟨y, _⟩ | y
          · exact h3 o y
          · rcases r2 a0 o y with ⟨_, y'⟩ | ⟨y', _⟩ | y'
            · exact h3 o (g3 _ y')
            · exact na y'.symm
            · rcases (q2 a0 o y').2 with y2 | y2
              · exact h3 o (g3 _ (k4 _ y2))
              · exact y2 _ List.mem_cons_self
        · rcases List.mem_cons.mp hm with y | y
          · cases y
            exact .inl ⟨Ne.symm na, List.mem_cons_self⟩
          · rcases s2 b o y with ⟨y1, y2⟩ | y1
            · exact .inl ⟨fun x => by subst x; exact y2 _ k1, List.mem_cons_of_mem _ y1⟩
            · rcases r2 b o y1 with ⟨x1, x2⟩ | x | x
              · exact .inl ⟨x1, List.mem_cons_of_mem _ (g3 _ x2)⟩
              · exact .inr (.inl x)
              · exact .inr (.inr x)
  | k :: π, .tup l0 us, l, ts, v, m, h, e => by
    simp only [T.at?] at e
    cases z : us[k]? with
    | none => rw [z] at e; cases e
    | some t =>
      rw [z] at e
      cases h with
      | @tup a0 _ vs0 _ mm h1 h2 h3 =>
        obtain ⟨w, mu, g1, g2, g3, g4⟩ := h2.at z
        obtain ⟨a, vs, m1, k1, k2, k3, k4, k5, k6, k7⟩ := OT.mut g2 e
        have na : a ≠ a0 := fun x => by subst x; exact h3 _ (g3 _ k1)
        refine ⟨a, vs, m1, List.mem_cons_of_mem _ (g3 _ k1), k2, k3, fun x hx => List.mem_cons_of_mem _ (g3 _ (k4 x hx)), k5, fun H q => ⟨a0, vs0, w, rfl, .inr (q _ _ List.mem_cons_self), g1, k6 H fun b o hm => q b o (List.mem_cons_of_mem _ (g3 _ hm))⟩, fun l' vs' ts' m2 hl' q1 q2 => ?_⟩
        obtain ⟨mu', r1, r2⟩ := k7 l' vs' ts' m2 hl' q1 fun b o hm => ⟨(q2 b o hm).1, (q2 b o hm).2.imp id fun hz o' hm' => hz o' (List.mem_cons_of_mem _ (g3 _ hm'))⟩
        have out : ∀ b o, (b, o) ∈ mu' → (∃ o', (b, o') ∈ mu) ∨ ∀ o', (b, o') ∉ mm := fun b o hm => by
          rcases r2 b o hm with ⟨_, y⟩ | ⟨rfl, _⟩ | y
          · exact .inl ⟨o, y⟩
          · exact .inl ⟨_, k1⟩
          · rcases (q2 b o y).2 with y' | y'
            · exact .inl ⟨o, k4 _ y'⟩
            · exact .inr fun o' hz => y' o' (List.mem_cons_of_mem _ hz)
        obtain ⟨m', s1, s2⟩ := g4 w _ mu' r1 out
        have es : vs0.set k w = vs0 := by
          apply List.ext_getElem?
          intro i
          by_cases hi : k = i
          · subst hi
            rw [List.getElem?_set_self (List.getElem?_eq_some_iff.mp g1).1, g1]
          · rw [List.getElem?_set_ne hi]
        rw [es] at s1
        refine ⟨(a0, .tup vs0) :: m', ?_, fun b o hm => ?_⟩
        · rw [T.put, z]
          refine .tup h1 s1 fun o hm => ?_
          rcases s2 a0 o hm with ⟨y, _⟩ | y
          · exact h3 o y
          · rcases r2 a0 o y with ⟨_, y'⟩ | ⟨y', _⟩ | y'
            · exact h3 o (g3 _ y')
            · exact na y'.symm
            · rcases (q2 a0 o y').2 with y2 | y2
              · exact h3 o (g3 _ (k4 _ y2))
              · exact y2 _ List.mem_cons_self
        · rcases List.mem_cons.mp hm with y | y
          · cases y
            exact .inl ⟨Ne.symm na, List.mem_cons_self⟩
          · rcases s2 b o y with ⟨y1, y2⟩ | y1
            · exact .inl ⟨fun x => by subst x; exact y2 _ k1, List.mem_cons_of_mem _ y1⟩
            · rcases r2 b o y1 with ⟨x1, x2⟩ | x | x
              · exact .inl ⟨x1, List.mem_cons_of_mem _ (g3 _ x2)⟩
              · exact .inr (.inl x)
              · exact .inr (.inr x)
end
/-- a name that owns a tree -/
def tr (t : T) : Slot := ⟨fun K F v m => OT K F v t m, fun _ _ _ _ _ e h => OT.mono e _ _ _ h⟩
/-- a name that holds what stands at l -/
def adr (l : Addr) : Slot := ⟨fun _ _ v m => m = [] ∧ v = .ref l, fun _ _ _ _ _ _ h => h⟩
end PV

/-! The pure-value layer: rules for trees. -/
namespace PV
open PySem PySem.Spec PyProof.Rows L2
/-- the frozen part with the objects of m -/
noncomputable def addM (F : Hp) (H : Hp) (m : Mini) : Hp := fun a => open Classical in if (∃ o, (a, o) ∈ m) then H a else F a
section
variable {F H : Hp} {m : Mini}
theorem addM_in {a : Addr} {o : HO} (h : (a, o) ∈ m) : addM F H m a = H a := if_pos ⟨o, h⟩
theorem addM_out {a : Addr} (h : ∀ o, (a, o) ∉ m) : addM F H m a = F a := if_neg fun ⟨o, z⟩ => h o z
theorem addM_cases (a : Addr) : (∃ o, (a, o) ∈ m) ∨ ∀ o, (a, o) ∉ m := by
  by_cases h : ∃ o, (a, o) ∈ m
  · exact .inl h
  · exact .inr fun o z => h ⟨o, z⟩
theorem addM_sub (s : Same F H) : Same (addM F H m) H := fun a o e => by
  rcases addM_cases (m := m) a with ⟨u, z⟩ | z
  · rw [addM_in z] at e; exact e
  · rw [addM_out z] at e; exact s a o e
theorem addM_ge (n : ∀ a o, (a, o) ∈ m → F a = none) : Same F (addM F H m) := fun a o e => by
  rw [addM_out fun u z => ?_]
  · exact e
  · have := n a u z
    rw [this] at e; cases e
theorem addM_dq {K : PySem.W.Frag} (s : Same F H) (n : ∀ a o, (a, o) ∈ m → F a = none) (hm : ∀ a o, (a, o) ∈ m → H a = some o) {t : T} {v : V} (h : OT K F v t m) : Dq K (addM F H m) v t.er :=
  OT.dq (addM_ge n) t v m h fun a o z => by rw [addM_in z]; exact hm a o z
end
section
variable {K : PySem.W.Frag} {B F0 F F' H H' : Hp} {ρ : Env} {σ : St} {M : Nat → Mini}
/-- what a name owns is frozen -/
theorem PInv.freezeT {i : Nat} {t : T} (x : PInv K B F0 ρ F σ H M) (hi : ρ[i]? = some (some (tr t))) : ∃ F' M', PInv K B F0 (ρ.set i (some (fz t.er))) F' σ H M' := by
  obtain ⟨v, hσ, h⟩ := x.ok.at_ i _ hi
  have hH : ∀ a o, (a, o) ∈ M i → H a = some o := fun a o z => (x.ok.own i a o z).1
  have hF : ∀ a o, (a, o) ∈ M i → F a = none := fun a o z => (x.ok.own i a o z).2
  have sF := addM_ge (H := H) hF
  refine ⟨addM F H (M i), upM M i [], ⟨by rw [List.length_set]; exact x.ok.len, addM_sub x.ok.sub, fun j T h' => ?_, fun j b o h' => ?_, fun j k b o o' h1 h2 => ?_⟩, x.base, x.f0.trans sF, fun b u h1 h2 => ?_, fun j b o h' => ?_⟩
  · by_cases hj : j = i
    · subst hj
      have hl : j < ρ.length := (List.getElem?_eq_some_iff.mp hi).1
      rw [List.getElem?_set_self hl] at h'
      cases h'
      exact ⟨_, hσ, upM_same, addM_dq x.ok.sub hF hH h⟩
    · rw [List.getElem?_set_ne (Ne.symm hj)] at h'
      obtain ⟨u, h1, h2⟩ := x.ok.at_ j T h'
      exact ⟨u, h1, by rw [upM_ne hj]; exact T.mono K F _ u _ sF h2⟩
  · by_cases hj : j = i
    · subst hj; rw [upM_same] at h'; cases h'
    · rw [upM_ne hj] at h'
      have z := x.ok.own j b o h'
      refine ⟨z.1, ?_⟩
      rw [addM_out fun u hu => hj (x.ok.apart j i b o u h' hu)]
      exact z.2
  · by_cases hj : j = i
    · subst hj; rw [upM_same] at h1; cases h1
    · by_cases hk : k = i
      · subst hk; rw [upM_same] at h2; cases h2
      · rw [upM_ne hj] at h1; rw [upM_ne hk] at h2
        exact x.ok.apart j k b o o' h1 h2
  · rcases addM_cases (m := M i) b with ⟨u', z⟩ | z
    · exact x.mb i b u' z
    · rw [addM_out z] at h1; exact x.nb b u h1 h2
  · by_cases hj : j = i
    · subst hj; rw [upM_same] at h'; cases h'
    · rw [upM_ne hj] at h'; exact x.mb j b o h'
/-- one object changes, with it what a name owns -/
theorem PInv.change {i : Nat} {S S' : Slot} {v : V} {a : Addr} {o o' : HO} {m' : Mini} (x : PInv K B F0 ρ F σ H M) (hi : ρ[i]? = some (some S)) (hσ : σ[i]? = some (some v)) (ha : (a, o) ∈ M i) (hS : S'.R K F v m')
    (hm : ∀ b u, (b, u) ∈ m' → (upd H a o') b = some u ∧ F b = none ∧ B b = none ∧ ∀ (j : Nat) (u' : HO), j ≠ i → (b, u') ∉ M j) : PInv K B F0 (ρ.set i (some S')) F σ (upd H a o') (upM M i m') := by
  have hF : F a = none := (x.ok.own i a _ ha).2
  have hB : B a = none := x.mb i a _ ha
  refine ⟨⟨by rw [List.length_set]; exact x.ok.len, fun b u e => ?_, fun j T h => ?_, fun j b u h => ?_, fun j k b u u' h h' => ?_⟩, fun b u e => ?_, x.f0, x.nb, fun j b u h => ?_⟩
  · rw [upd_ne (ne_of_none e hF)]; exact x.ok.sub b u e
  · by_cases hj : j = i
    · subst hj
      have hl : j < ρ.length := (List.getElem?_eq_some_iff.mp hi).1
      rw [List.getElem?_set_self hl] at h
      cases h
      exact ⟨v, hσ, by rw [upM_same]; exact hS⟩
    · rw [List.getElem?_set_ne (Ne.symm hj)] at h
      obtain ⟨w, h1, h2⟩ := x.ok.at_ j T h
      exact ⟨w, h1, by rw [upM_ne hj]; exact h2⟩
  · by_cases hj : j = i
    · subst hj; rw [upM_same] at h; exact ⟨(hm b u h).1, (hm b u h).2.1⟩
    · rw [upM_ne hj] at h
      have hb : b ≠ a := fun z => by subst z; exact hj (x.ok.apart j i b _ _ h ha)
      rw [upd_ne hb]; exact x.ok.own j b u h
  · by_cases hj : j = i
    · by_cases hk : k = i
      · rw [hj, hk]
      · subst hj; rw [upM_same] at h; rw [upM_ne hk] at h'
        exact absurd h' ((hm b u h).2.2.2 k u' hk)
    · by_cases hk : k = i
      · subst hk; rw [upM_same] at h'; rw [upM_ne hj] at h
        exact absurd h ((hm b u' h').2.2.2 j u hj)
      · rw [upM_ne hj] at h; rw [upM_ne hk] at h'
        exact x.ok.apart j k b u u' h h'
  · rw [upd_ne (ne_of_none e hB)]; exact x.base b u e
  · by_cases hj : j = i
    · subst hj; rw [upM_same] at h; exact (hm b u h).2.2.1
    · rw [upM_ne hj] at h; exact x.mb j b u h
end

/-- an expression that makes a tree: what it owns is new -/
def FrT (X : Cx) (W : Wc) (ρ : Env) (e : Expr) (t : T) : Prop :=
  ∀ (pins : List (Addr × Obj)) (s : Shared) (σ : St) (F H : Hp) (M : Nat → Mini) (Q : VK), Inv X pins σ H s → EOk X.K ρ F σ H M →
    (∀ v F' H' m, Ext F H F' H' → OT X.K F' v t m → (∀ a o, (a, o) ∈ m → H' a = some o ∧ F' a = none ∧ H a = none) → Q v H') →
    wpAny (model X.prog X.w) X.A (eval e X.env) (EP X pins σ Q) X.xe s
def tFrT (X : Cx) (ρ : Env) (t : T) : TE := fun σ H Q => ∃ F M, EOk X.K ρ F σ H M ∧ (∀ v F' H' m, Ext F H F' H' → OT X.K F' v t m → (∀ a o, (a, o) ∈ m → H' a = some o ∧ F' a = none ∧ H a = none) → Q v H')
def FrTA (X : Cx) (W : Wc) (ρ : Env) (es : List Expr) (ts : List T) : Prop :=
  ∀ (pos : Pos) (pins : List (Addr × Obj)) (s : Shared) (σ : St) (F H : Hp) (M : Nat → Mini) (Q : List V → Hp → Prop), Inv X pins σ H s → EOk X.K ρ F σ H M →
    (∀ vs F' H' m, Ext F H F' H' → OTs X.K F' vs ts m → (∀ a o, (a, o) ∈ m → H' a = some o ∧ F' a = none ∧ H a = none) → Q vs H') →
    wpAny (model X.prog X.w) X.A (spliced (backTo pos (starEach es X.env))) (AP X pins σ Q) X.xe s
def tFrTA (X : Cx) (ρ : Env) (ts : List T) : TA := fun σ H Q => ∃ F M, EOk X.K ρ F σ H M ∧ (∀ vs F' H' m, Ext F H F' H' → OTs X.K F' vs ts m → (∀ a o, (a, o) ∈ m → H' a = some o ∧ F' a = none ∧ H a = none) → Q vs H')
section
variable {X : Cx} {W : Wc} {ρ : Env} {e a b : Expr} {es : List Expr} {pos p : Pos} {C : Ec → Addr} {k : Nat} {rest : List Stmt} {Φ : Out → Prop}
theorem FrT.pe {t : T} (h : FrT X W ρ e t) : PE X e (tFrT X ρ t) := ⟨fun pins s σ H Q I ⟨F, M, ok, h1⟩ => h pins s σ F H M Q I ok h1⟩
theorem FrTA.pa {ts : List T} (h : FrTA X W ρ es ts) : PA X es (tFrTA X ρ ts) := ⟨fun pos pins s σ H Q I ⟨F, M, ok, h1⟩ => h pos pins s σ F H M Q I ok h1⟩
theorem Ev.t {d : PyData} (h : Ev X W ρ e d) : FrT X W ρ e (.fz d) := fun pins s σ F H M Q I ok q => h pins s σ F H M Q I ok (fun d' hd v F' H' x dv => by cases hd; exact q v F' H' [] x (.fz dv) fun _ _ z => nomatch z) fun c hc => nomatch hc
theorem Fr.t {ds : List PyData} (h : Fr X W ρ e ds) : FrT X W ρ e (.lst none (ds.map T.fz)) := fun pins s σ F H M Q I ok q => h pins s σ F H M Q I ok fun a vs F' H' x n n' ha dv =>
  q _ F' H' [(a, .lst vs)] x (.lst (fun _ z => nomatch z) (OTs.ofDq dv) fun _ z => nomatch z) fun b o hm => by
    have z : (b, o) = (a, HO.lst vs) := by simpa using hm
    cases z
    exact ⟨ha, n', n⟩
theorem ta_nil : FrTA X W ρ [] [] := fun pos pins s σ F H M Q I ok h => pa_nil.run pos pins s σ H Q I (h _ F H [] (.refl ok.sub) .nil fun _ _ z => nomatch z)
theorem ta_cons {t : T} {ts : List T} (ha : FrT X W ρ e t) (hr : FrTA X W ρ es ts) (hs : starEach (e :: es) X.env = (false, eval e X.env) :: starEach es X.env := by rfl) : FrTA X W ρ (e :: es) (t :: ts) :=
  fun pos pins s σ F H M Q I ok h => (pa_cons ha.pe hr.pa hs).run pos pins s σ H Q I ⟨F, M, ok, fun v F1 H1 m1 x1 h1 q1 => ⟨F1, M, ok.ext x1, fun vs F2 H2 m2 x2 h2 q2 => by
    refine h (v :: vs) F2 H2 (m1 ++ m2) (x1.trans x2) (.cons (OT.mono x2.f _ _ _ h1) h2 fun b o o' z1 z2 => ?_) fun b o hm => ?_
    · have y := (q1 b o z1).1
      rw [(q2 b o' z2).2.2] at y; cases y
    · rcases List.mem_append.mp hm with z | z
      · obtain ⟨y1, y2, y3⟩ := q1 b o z
        refine ⟨x2.h _ _ y1, ?_, y3⟩
        cases q : F2 b with
        | none => rfl
        | some u =>
          have z := x2.new b u q y2
          rw [z] at y1; cases y1
      · obtain ⟨y1, y2, y3⟩ := q2 b o z
        exact ⟨y1, y2, x1.h.free y3⟩⟩⟩
theorem ot_keep {F F' H H' : Hp} {m : Mini} (x : Ext F H F' H') (q : ∀ a o, (a, o) ∈ m → H a = some o ∧ F a = none) : ∀ a o, (a, o) ∈ m → H' a = some o ∧ F' a = none := fun a o z => by
  obtain ⟨y1, y2⟩ := q a o z
  refine ⟨x.h _ _ y1, ?_⟩
  cases w : F' a with
  | none => rfl
  | some u =>
    have z := x.new a u w y2
    rw [z] at y1; cases y1
/-- a tuple, a list of trees -/
theorem t_tup {kk : Nat} {ts : List T} (ha : FrTA X W ρ es ts) (c : ts.length ≤ sizeLine := by exact PV.small (by simp)) : FrT X W ρ (.Tuple es kk pos) (.tup none ts) :=
  fun pins s σ F H M Q I ok h => (pe_tup ha.pa).run pins s σ H Q I ⟨F, M, ok, fun vs F1 H1 m x1 h1 q1 => ⟨by rw [h1.len]; exact c, fun l hl => by
    have x2 := Ext.beside (o := .tup vs) x1.sub hl
    refine h (.ref l) F1 _ ((l, .tup vs) :: m) (x1.trans x2) (.tup (fun _ z => nomatch z) h1 fun o z => ?_) fun b o hm => ?_
    · have y := (q1 l o z).1
      rw [hl] at y; cases y
    · rcases List.mem_cons.mp hm with z | z
      · cases z
        exact ⟨upd_same, x1.sub.free hl, x1.h.free hl⟩
      · obtain ⟨y1, y2, y3⟩ := q1 b o z
        exact ⟨x2.h _ _ y1, y2, y3⟩⟩⟩
theorem t_lst {ts : List T} (ha : FrTA X W ρ es ts) (c : ts.length ≤ sizeLine := by exact PV.small (by simp)) : FrT X W ρ (.List es pos) (.lst none ts) :=
  fun pins s σ F H M Q I ok h => (pe_lst ha.pa).run pins s σ H Q I ⟨F, M, ok, fun vs F1 H1 m x1 h1 q1 => ⟨by rw [h1.len]; exact c, fun l hl => by
    have x2 := Ext.beside (o := .lst vs) x1.sub hl
    refine h (.ref l) F1 _ ((l, .lst vs) :: m) (x1.trans x2) (.lst (fun _ z => nomatch z) h1 fun o z => ?_) fun b o hm => ?_
    · have y := (q1 l o z).1
      rw [hl] at y; cases y
    · rcases List.mem_cons.mp hm with z | z
      · cases z
        exact ⟨upd_same, x1.sub.free hl, x1.h.free hl⟩
      · obtain ⟨y1, y2, y3⟩ := q1 b o z
        exact ⟨x2.h _ _ y1, y2, y3⟩⟩⟩
/-- frozen at once -/
theorem FrT.ev {t : T} (h : FrT X W ρ e t) : Ev X W ρ e t.er := fun pins s σ F H M Q I ok q _ => h pins s σ F H M Q I ok fun v F' H' m x hv hm => by
  have n1 : ∀ a o, (a, o) ∈ m → F' a = none := fun a o z => (hm a o z).2.1
  have n2 : ∀ a o, (a, o) ∈ m → H' a = some o := fun a o z => (hm a o z).1
  refine q _ rfl v (addM F' H' m) H' ⟨x.f.trans (addM_ge n1), x.h, addM_sub x.sub, fun a o h1 h2 => ?_⟩ (addM_dq x.sub n1 n2 hv)
  rcases addM_cases (m := m) a with ⟨u, z⟩ | z
  · exact (hm a u z).2.2
  · rw [addM_out z] at h1; exact x.new a o h1 h2
/-- x = a tree -/
theorem sxs_setT (i : Nat) {x : Str} {pos' : Pos} {t : T} (he : FrT X W ρ e t) (k : Sxs X W rest (ρ.set i (some (tr t))) Φ) (hN : X.N.Nodup)
    (hi : X.N[i]? = some x := by rfl) (hx : Loc X.env.scope x := by first | exact Or.inl rfl | exact Or.inr rfl) (hs : swapsWith e (some (.Name x pos')) pos.line X.env = pure false := by rfl)
    (hf : X.fn x = true ∨ X.env.scope.names.lookup x = some .local := by first | exact .inl rfl | exact .inr rfl) :
    Sxs X W (.Assign [.Name x pos'] e pos :: rest) ρ Φ :=
  sxs_of (ps_set hN hi hx he.pe hs hf) fun σ F H M B F0 D ok q => ⟨F, M, ok.ok, fun v F' H' m x hv hm => by
    have y : PInv X.K B F0 (ρ.set i (some (tr t))) F' (σ.set i (some v)) H' (upM M i m) := (ok.ext x).set hv fun a o z => by
      obtain ⟨y1, y2, y3⟩ := hm a o z
      refine ⟨y1, y2, ok.base.free y3, fun j o' hj hm' => ?_⟩
      have w := (ok.ok.own j a o' hm').1
      rw [y3] at w; cases w
    exact ⟨_, Φ, F', _, B, F0, k, y, q⟩⟩
theorem sxs_freezeT {sts : List Stmt} (i : Nat) {t : T} (hi : ρ[i]? = some (some (tr t))) (h : Sxs X W sts (ρ.set i (some (fz t.er))) Φ) : Sxs X W sts ρ Φ := fun pins s σ F H M B F0 D I ok q => by
  obtain ⟨F', M', ok'⟩ := ok.freezeT hi
  exact h pins s σ F' H M' B F0 D I ok' q
/-- return of a tree -/
theorem sxs_retT {t : T} (he : FrT X W ρ e t) (k : Φ (.ret (tr t) ρ)) : Sxs X W (.Return (some e) pos :: rest) ρ Φ :=
  sxs_of (ps_ret he.pe) fun σ F H M B F0 D ok q => ⟨F, M, ok.ok, fun v F' H' m x hv hm => q _ k v F' σ H' _ ((ok.ext x).push hv fun a o z => by
    obtain ⟨y1, y2, y3⟩ := hm a o z
    refine ⟨y1, y2, ok.base.free y3, fun j o' hm' => ?_⟩
    have w := (ok.ok.own j a o' hm').1
    rw [y3] at w; cases w)⟩
/-- an owned list as a tree -/
theorem sxs_owT {sts : List Stmt} (i : Nat) {ds : List PyData} (hi : ρ[i]? = some (some (ow none ds))) (h : Sxs X W sts (ρ.set i (some (tr (.lst none (ds.map T.fz))))) Φ) : Sxs X W sts ρ Φ := fun pins s σ F H M B F0 D I ok q => by
  refine h pins s σ F H M B F0 D I ⟨⟨by rw [List.length_set]; exact ok.ok.len, ok.ok.sub, fun j T hj => ?_, ok.ok.own, ok.ok.apart⟩, ok.base, ok.f0, ok.nb, ok.mb⟩ q
  by_cases hji : j = i
  · subst hji
    have hl : j < ρ.length := (List.getElem?_eq_some_iff.mp hi).1
    rw [List.getElem?_set_self hl] at hj
    cases hj
    obtain ⟨v, hσ, a, vs, rfl, hM, _, dv⟩ := ok.ok.at_ j _ hi
    refine ⟨_, hσ, ?_⟩
    rw [hM]
    exact .lst (fun _ z => nomatch z) (OTs.ofDq dv) fun _ z => nomatch z
  · rw [List.getElem?_set_ne (Ne.symm hji)] at hj
    exact ok.ok.at_ j T hj
/-- a def that hands back a tree -/
theorem t_call {ι : Type} {n : Nat} {ins : ι → List Slot} {pre : ι → Prop} {r : ι → Except Ec Slot → Prop} {x : Str} {j : Nat} {t : T} (c : Ctx X C W k) (G : Callee X.prog X.w X.K X.mg X.base j x (spP X.K C n ins pre r)) (i : ι) (hp : pre i) (hr : ∀ o, r i o → o = .ok (tr t)) (ha : EvAS X W ρ (e :: es) (ins i)) (hj : j ≤ k := by decide) (hn : (ins i).length = n := by rfl)
    (hg : Gl X x := by rfl) (hdb : (x == ("__debug__" : Str)) = false := by decide) (he : starEach (e :: es) X.env = (false, eval e X.env) :: starEach es X.env := by rfl) (hpl : (backTo pos (starEach es X.env)).any (·.1) = false := by rfl) : FrT X W ρ (.Call (.Name x p) (e :: es) [] pos) t :=
  fun pins s σ F H M Q I ok h1 => call_any c G hj i hp ha hn hg hdb he hpl pins s σ F H M Q I ok (fun S hS v F' H' m x2 hv hm => by
    have e : S = tr t := Except.ok.inj (hr _ hS)
    subst e
    exact h1 v F' H' m x2 hv hm) fun c hc F' H' x2 => nomatch hr _ hc

/-! ### reading -/
/-- a name that owns a tree, read as it stands -/
theorem rv_tr (i : Nat) {x : Str} {pos : Pos} {t : T} (hd : ρ[i]? = some (some (tr t))) (hN : X.N[i]? = some x := by rfl) (hv : Vis X.env.scope x := by first | exact Or.inl rfl | exact Or.inr (Or.inl rfl) | exact Or.inr (Or.inr rfl))
    (h1 : (x == ("__debug__" : Str)) = false := by decide) (h2 : (x == ("__classdict__" : Str)) = false := by decide) : Rv X W ρ (.Name x pos) t.er :=
  fun pins s σ F H M Q I ok h => (pe_var hN hv h1 h2).run pins s σ H Q I (by
    obtain ⟨v, e, q⟩ := ok.at_ i _ hd
    exact ⟨v, e, h v F H (.refl ok.sub) (OT.dq ok.sub _ _ _ q fun a o z => (ok.own i a o z).1)⟩)
/-- a value without objects -/
def scalar : PyData → Bool
  | .none => true
  | .bool _ => true
  | .int _ => true
  | .str _ => true
  | _ => false
theorem dq_scalar {K : PySem.W.Frag} {H H' : Hp} {v : V} {d : PyData} (h : Dq K H v d) (s : scalar d = true) : Dq K H' v d := by
  cases h with
  | non => exact .non
  | bl b => exact .bl b
  | int i => exact .int i
  | str x => exact .str x
  | lst _ _ => cases s
  | tup _ _ => cases s
/-- what is read of an item that is no object -/
theorem ev_ixR {ds : List PyData} {i : Int} {d : PyData} (ha : Rv X W ρ a (.list ds)) (hb : Ev X W ρ b (.int i)) (e : atI ds i = some d) (sc : scalar d = true) (hs : PlainIx b := by exact fun _ _ => rfl) : Ev X W ρ (.Subscript a b pos) d :=
  ev1_of (pe_ix ix_list ha.pe hb.pe hs) fun σ F H M Q ok h => ⟨F, M, ok, fun x F1 H1 e1 dx => rd (ok.ext e1) fun y F2 H2 e2 dy => by
    obtain ⟨p, vs, rfl, h1, h2⟩ := dq_lst dx
    obtain ⟨v, h3, h4⟩ := atI_dq h2 e
    exact ⟨p, vs, i, v, rfl, dq_int dy, .inl (same_rd e2.h h1), h3, h v F2 H2 (e1.trans e2) (dq_scalar h4 sc)⟩⟩
theorem ev_ixRT {ds : List PyData} {i : Int} {d : PyData} (ha : Rv X W ρ a (.tuple ds)) (hb : Ev X W ρ b (.int i)) (e : atI ds i = some d) (sc : scalar d = true) (hs : PlainIx b := by exact fun _ _ => rfl) : Ev X W ρ (.Subscript a b pos) d :=
  ev1_of (pe_ix ix_tup ha.pe hb.pe hs) fun σ F H M Q ok h => ⟨F, M, ok, fun x F1 H1 e1 dx => rd (ok.ext e1) fun y F2 H2 e2 dy => by
    obtain ⟨p, vs, rfl, h1, h2⟩ := dq_tup dx
    obtain ⟨v, h3, h4⟩ := atI_dq h2 e
    exact ⟨p, vs, i, v, rfl, dq_int dy, same_seqT e2.h h1, h3, h v F2 H2 (e1.trans e2) (dq_scalar h4 sc)⟩⟩
/-- .. of one that is read on -/
theorem rv_ixL {ds : List PyData} {i : Int} {d : PyData} (ha : Rv X W ρ a (.list ds)) (hb : Ev X W ρ b (.int i)) (e : atI ds i = some d) (hs : PlainIx b := by exact fun _ _ => rfl) : Rv X W ρ (.Subscript a b pos) d :=
  fun pins s σ F H M Q I ok h => (pe_ix ix_list ha.pe hb.pe hs).run pins s σ H Q I ⟨F, M, ok, fun x F1 H1 e1 dx => rd (ok.ext e1) fun y F2 H2 e2 dy => by
    obtain ⟨p, vs, rfl, h1, h2⟩ := dq_lst dx
    obtain ⟨v, h3, h4⟩ := atI_dq h2 e
    exact ⟨p, vs, i, v, rfl, dq_int dy, .inl (same_rd e2.h h1), h3, h v F2 H2 (e1.trans e2) (dq_mono e2.h _ _ h4)⟩⟩
theorem rv_ixT {ds : List PyData} {i : Int} {d : PyData} (ha : Rv X W ρ a (.tuple ds)) (hb : Ev X W ρ b (.int i)) (e : atI ds i = some d) (hs : PlainIx b := by exact fun _ _ => rfl) : Rv X W ρ (.Subscript a b pos) d :=
  fun pins s σ F H M Q I ok h => (pe_ix ix_tup ha.pe hb.pe hs).run pins s σ H Q I ⟨F, M, ok, fun x F1 H1 e1 dx => rd (ok.ext e1) fun y F2 H2 e2 dy => by
    obtain ⟨p, vs, rfl, h1, h2⟩ := dq_tup dx
    obtain ⟨v, h3, h4⟩ := atI_dq h2 e
    exact ⟨p, vs, i, v, rfl, dq_int dy, same_seqT e2.h h1, h3, h v F2 H2 (e1.trans e2) (dq_mono e2.h _ _ h4)⟩⟩
theorem ev_lenR {ds : List PyData} (B : Blt X.mg) (ha : Rv X W ρ a (.list ds)) (hg : Gl X "len" := by rfl) (he : starEach (a :: []) X.env = (false, eval a X.env) :: starEach [] X.env := by rfl) : Ev X W ρ (.Call (.Name "len" p) [a] [] pos) (.int ds.length) :=
  ev1_of (pe_callB call_len_seq hg B.len PySem.boot_len (pa_cons ha.pe pa_nil he) (he := he)) fun σ F H M Q ok h => ⟨F, M, ok, fun x F1 H1 e1 dx => by
    obtain ⟨p, vs, rfl, h1, h2⟩ := dq_lst dx
    refine ⟨p, vs, rfl, .inl (.inl h1), ?_⟩
    rw [DqAll_len h2]
    exact h _ F1 H1 e1 (.int _)⟩
/-- a slice that is only read -/
theorem rv_slice {ds : List PyData} {lo hi : Option Expr} {l u : Option Int} {p2 : Pos} (ha : Rv X W ρ a (.list ds)) (hl : EvO X W ρ lo l) (hu : EvO X W ρ hi u) : Rv X W ρ (.Subscript a (.Slice lo hi none p2) pos) (.list (cutD ds l u)) :=
  fun pins s σ F H M Q I ok h => (pe_slice sl_list ha.pe hl.po hu.po).run pins s σ H Q I ⟨F, M, ok, fun x F1 H1 e1 dx => ⟨F1, M, ok.ext e1, fun F2 H2 e2 => ⟨F2, M, (ok.ext e1).ext e2, fun F3 H3 e3 => by
    obtain ⟨p, vs, rfl, h1, h2⟩ := dq_lst dx
    refine ⟨p, vs, rfl, .inl (same_rd (e2.h.trans e3.h) h1), fun q hq => ?_⟩
    have x := (e1.trans e2).trans e3
    have y := Ext.beside (o := .lst (cutV vs l u)) x.sub hq
    have e : DqAll X.K (upd H3 q (.lst (cutV vs l u))) (cutV vs l u) (cutD ds l u) := by
      have z := dqAll_mono ((e2.h.trans e3.h).trans y.h) _ _ h2
      have w : cutV vs l u = (vs.drop (HT.sIx ds.length 0 l)).take (HT.sIx ds.length ds.length u - HT.sIx ds.length 0 l) := by
        unfold cutV
        rw [DqAll_len h2]
      have z2 := DqAll_take (HT.sIx ds.length ds.length u - HT.sIx ds.length 0 l) (DqAll_drop (HT.sIx ds.length 0 l) z)
      rw [← w] at z2
      exact z2
    exact h _ F3 _ (x.trans y) (.lst (.inl upd_same) e)⟩⟩⟩
/-- a tuple, a list that is only read -/
theorem rv_tup {kk : Nat} {ds : List PyData} (ha : RvA X W ρ es ds) (c : ds.length ≤ sizeLine := by exact PV.small (by simp)) : Rv X W ρ (.Tuple es kk pos) (.tuple ds) :=
  fun pins s σ F H M Q I ok h => (pe_tup ha.pa).run pins s σ H Q I ⟨F, M, ok, fun vs F1 H1 x1 dvs => ⟨sz_of dvs c, fun l hl => by
    have y := Ext.beside (o := .tup vs) x1.sub hl
    exact h _ F1 _ (x1.trans y) (.tup (.of upd_same) (dqAll_mono y.h _ _ dvs))⟩⟩
/-- a call that hands back no object: its arguments may be anything that can be read -/
theorem ev_callS {ι : Type} {n : Nat} {ins : ι → List Slot} {pre : ι → Prop} {r : ι → Except Ec Slot → Prop} {x : Str} {j : Nat} {d : PyData} {ds : List PyData} (c : Ctx X C W k) (G : Callee X.prog X.w X.K X.mg X.base j x (spP X.K C n ins pre r)) (i : ι) (hp : pre i) (hr : ∀ o, r i o → o = .ok (fz d)) (hi : ins i = ds.map fz) (sc : scalar d = true) (ha : RvA X W ρ (e :: es) ds)
    (hj : j ≤ k := by decide) (hn : (ins i).length = n := by rfl)
    (hg : Gl X x := by rfl) (hdb : (x == ("__debug__" : Str)) = false := by decide) (he : starEach (e :: es) X.env = (false, eval e X.env) :: starEach es X.env := by rfl) (hpl : (backTo pos (starEach es X.env)).any (·.1) = false := by rfl) : Ev X W ρ (.Call (.Name x p) (e :: es) [] pos) d := by
  intro pins s σ F H M Q I ok h1 h2
  obtain ⟨f, fd, ps, hF, hm, hk, hb⟩ := G
  refine (pe_callS (E := WE (fun cls d σ H => ∃ c, cls = .ref (C c) ∧ d = none ∧ W c σ H)) hF (c.room.mono hj) hg hm hk hb (fun σ => passAt c.tk σ) ha.pa hdb he hpl).run pins s σ H Q I ?_
  refine ⟨F, M, ok, fun vs F1 H1 x1 dvs => ⟨i, H1, .refl _, ?_, ?_, hp, fun S hS v F' H' m x2 hv hm => ?_, fun c hc => ?_⟩⟩
  · rw [DqAll_len dvs, ← hn, hi, List.length_map]
  · rw [hi]
    have key : ∀ {vs : List V} {ds : List PyData}, DqAll X.K H1 vs ds → SlotsR X.K H1 vs (ds.map fz) := by
      intro vs ds h
      induction ds generalizing vs with
      | nil => cases h; exact .nil
      | cons d ds ih => cases h with | cons h t => exact .cons ⟨rfl, h⟩ (ih t)
    exact key dvs
  · have e : S = fz d := Except.ok.inj (hr _ hS)
    subst e
    exact h1 d rfl v F1 H' (x1.trans ⟨.refl _, x2.h, x1.sub.trans x2.h, fun a o z1 z2 => by rw [z1] at z2; cases z2⟩) (dq_scalar hv.2 sc)
  · exact nomatch hr _ hc

/-! ### parts of a tree that change -/
/-- e stands for the part π of what the name j owns -/
def Nd (X : Cx) (W : Wc) (ρ : Env) (e : Expr) (j : Nat) (π : List Nat) : Prop :=
  ∀ (pins : List (Addr × Obj)) (s : Shared) (σ : St) (F H : Hp) (M : Nat → Mini) (Q : VK), Inv X pins σ H s → EOk X.K ρ F σ H M →
    (∀ r v F' H', σ[j]? = some (some r) → Ext F H F' H' → NodeV H' r π v → Q v H') → wpAny (model X.prog X.w) X.A (eval e X.env) (EP X pins σ Q) X.xe s
def tNd (X : Cx) (ρ : Env) (j : Nat) (π : List Nat) : TE := fun σ H Q => ∃ F M, EOk X.K ρ F σ H M ∧ (∀ r v F' H', σ[j]? = some (some r) → Ext F H F' H' → NodeV H' r π v → Q v H')
theorem Nd.pe {j : Nat} {π : List Nat} (h : Nd X W ρ e j π) : PE X e (tNd X ρ j π) := ⟨fun pins s σ H Q I ⟨F, M, ok, h1⟩ => h pins s σ F H M Q I ok h1⟩
theorem nd_var (j : Nat) {x : Str} {pos : Pos} {t : T} (hd : ρ[j]? = some (some (tr t))) (hN : X.N[j]? = some x := by rfl) (hv : Vis X.env.scope x := by first | exact Or.inl rfl | exact Or.inr (Or.inl rfl) | exact Or.inr (Or.inr rfl))
    (h1 : (x == ("__debug__" : Str)) = false := by decide) (h2 : (x == ("__classdict__" : Str)) = false := by decide) : Nd X W ρ (.Name x pos) j [] :=
  fun pins s σ F H M Q I ok h => (pe_var hN hv h1 h2).run pins s σ H Q I (by
    obtain ⟨v, e, q⟩ := ok.at_ j _ hd
    exact ⟨v, e, h v v F H e (.refl ok.sub) rfl⟩)
/-- a name that holds what stands at l -/
theorem nd_adr (i j : Nat) {x : Str} {pos : Pos} {t : T} {l : Addr} {π : List Nat} {ts : List T} (hd : ρ[i]? = some (some (adr l))) (hj : ρ[j]? = some (some (tr t))) (hπ : t.at? π = some (.lst (some l) ts) ∨ t.at? π = some (.tup (some l) ts)) (hN : X.N[i]? = some x := by rfl) (hv : Vis X.env.scope x := by first | exact Or.inl rfl | exact Or.inr (Or.inl rfl) | exact Or.inr (Or.inr rfl))
    (h1 : (x == ("__debug__" : Str)) = false := by decide) (h2 : (x == ("__classdict__" : Str)) = false := by decide) : Nd X W ρ (.Name x pos) j π :=
  fun pins s σ F H M Q I ok h => (pe_var hN hv h1 h2).run pins s σ H Q I (by
    obtain ⟨v, e, _, ev⟩ := ok.at_ i _ hd
    obtain ⟨r, er, q⟩ := ok.at_ j _ hj
    subst ev
    refine ⟨_, e, h r _ F H er (.refl ok.sub) ?_⟩
    rcases hπ with hπ | hπ
    · obtain ⟨w, m1, n, o1, _⟩ := OT.get q (fun a o z => (ok.own j a o z).1) hπ
      cases o1 with | lst z _ _ => rw [z l rfl] at n; exact n
    · obtain ⟨w, m1, n, o1, _⟩ := OT.get q (fun a o z => (ok.own j a o z).1) hπ
      cases o1 with | tup z _ _ => rw [z l rfl] at n; exact n)
theorem nd_ix {j n : Nat} {π : List Nat} {t : T} {i : Int} {l : Option Addr} {ts : List T} (ha : Nd X W ρ a j π) (hb : Ev X W ρ b (.int i)) (hj : ρ[j]? = some (some (tr t))) (hπ : t.at? π = some (.lst l ts)) (hi : ixN ts.length i = some n) (hs : PlainIx b := by exact fun _ _ => rfl) : Nd X W ρ (.Subscript a b pos) j (π ++ [n]) :=
  fun pins s σ F H M Q I ok h => (pe_ix ix_list ha.pe hb.pe hs).run pins s σ H Q I ⟨F, M, ok, fun r v F1 H1 er e1 nv => rd (ok.ext e1) fun y F2 H2 e2 dy => by
    obtain ⟨r', er', q⟩ := ok.at_ j _ hj
    rw [er] at er'; cases er'
    obtain ⟨w, m1, n1, o1, sub⟩ := OT.get q (fun a o z => (ok.own j a o z).1) hπ
    have ev := NodeV.inj (n1.same e1.h) nv
    subst ev
    cases o1 with
    | @lst a' _ vs _ m2 z1 z2 z3 =>
      have hH : H a' = some (.lst vs) := (ok.own j _ _ (sub _ List.mem_cons_self)).1
      have hl : n < ts.length := by
        unfold ixN at hi
        split at hi
        · split at hi
          · cases hi; omega
          · cases hi
        · split at hi
          · cases hi; omega
          · cases hi
      obtain ⟨w, hv⟩ : ∃ w, vs[n]? = some w := ⟨_, List.getElem?_eq_getElem (by rw [z2.len]; exact hl)⟩
      refine ⟨a', vs, i, _, rfl, dq_int dy, .of (e2.h _ _ (e1.h _ _ hH)), ?_, h r _ F2 H2 er (e1.trans e2) (NodeV.snoc (nv.same e2.h) rfl (.inl (e2.h _ _ (e1.h _ _ hH))) hv)⟩
      unfold atI
      rw [z2.len, hi]
      exact hv⟩
theorem nd_ixT {j n : Nat} {π : List Nat} {t : T} {i : Int} {l : Option Addr} {ts : List T} (ha : Nd X W ρ a j π) (hb : Ev X W ρ b (.int i)) (hj : ρ[j]? = some (some (tr t))) (hπ : t.at? π = some (.tup l ts)) (hi : ixN ts.length i = some n) (hs : PlainIx b := by exact fun _ _ => rfl) : Nd X W ρ (.Subscript a b pos) j (π ++ [n]) :=
  fun pins s σ F H M Q I ok h => (pe_ix ix_tup ha.pe hb.pe hs).run pins s σ H Q I ⟨F, M, ok, fun r v F1 H1 er e1 nv => rd (ok.ext e1) fun y F2 H2 e2 dy => by
    obtain ⟨r', er', q⟩ := ok.at_ j _ hj
    rw [er] at er'; cases er'
    obtain ⟨w, m1, n1, o1, sub⟩ := OT.get q (fun a o z => (ok.own j a o z).1) hπ
    have ev := NodeV.inj (n1.same e1.h) nv
    subst ev
    cases o1 with
    | @tup a' _ vs _ m2 z1 z2 z3 =>
      have hH : H a' = some (.tup vs) := (ok.own j _ _ (sub _ List.mem_cons_self)).1
      have hl : n < ts.length := by
        unfold ixN at hi
        split at hi
        · split at hi
          · cases hi; omega
          · cases hi
        · split at hi
          · cases hi; omega
          · cases hi
      obtain ⟨w, hv⟩ : ∃ w, vs[n]? = some w := ⟨_, List.getElem?_eq_getElem (by rw [z2.len]; exact hl)⟩
      refine ⟨a', vs, i, _, rfl, dq_int dy, .of (e2.h _ _ (e1.h _ _ hH)), ?_, h r _ F2 H2 er (e1.trans e2) (NodeV.snoc (nv.same e2.h) rfl (.inr (e2.h _ _ (e1.h _ _ hH))) hv)⟩
      unfold atI
      rw [z2.len, hi]
      exact hv⟩
/-- what can be read there -/
theorem Nd.rv {j : Nat} {π : List Nat} {t u : T} (h : Nd X W ρ e j π) (hj : ρ[j]? = some (some (tr t))) (hπ : t.at? π = some u) : Rv X W ρ e u.er := fun pins s σ F H M Q I ok q => h pins s σ F H M Q I ok fun r v F' H' er x nv => by
  obtain ⟨r', er', z⟩ := ok.at_ j _ hj
  rw [er] at er'; cases er'
  obtain ⟨w, m1, n1, o1, sub⟩ := OT.get z (fun a o z => (ok.own j a o z).1) hπ
  have ev := NodeV.inj (n1.same x.h) nv
  subst ev
  exact q _ F' H' x (OT.dq (ok.ext x).sub _ _ _ (OT.mono x.f _ _ _ o1) fun a o z => x.h _ _ (ok.own j a o (sub _ z)).1)
/-- frozen data there -/
theorem Nd.ev {j : Nat} {π : List Nat} {t : T} {d : PyData} (h : Nd X W ρ e j π) (hj : ρ[j]? = some (some (tr t))) (hπ : t.at? π = some (.fz d)) : Ev X W ρ e d := fun pins s σ F H M Q I ok q _ => h pins s σ F H M Q I ok fun r v F' H' er x nv => by
  obtain ⟨r', er', z⟩ := ok.at_ j _ hj
  rw [er] at er'; cases er'
  obtain ⟨w, m1, n1, o1, sub⟩ := OT.get z (fun a o z => (ok.own j a o z).1) hπ
  have ev := NodeV.inj (n1.same x.h) nv
  subst ev
  cases o1 with | fz o1 => exact q d rfl _ F' H' x (dq_mono x.f _ _ o1)
/-- the change itself: a list's values in a tree are others -/
theorem PInv.mutT {K : PySem.W.Frag} {B F0 F H F' H' : Hp} {σ : St} {M : Nat → Mini} {j : Nat} {π : List Nat} {t : T} {l : Option Addr} {ts : List T} {r v : V} (ok : PInv K B F0 ρ F σ H M) (hj : ρ[j]? = some (some (tr t))) (hπ : t.at? π = some (.lst l ts)) (er : σ[j]? = some (some r)) (x : Ext F H F' H') (nv : NodeV H' r π v) :
    ∃ a vs m1, v = .ref a ∧ H' a = some (.lst vs) ∧ OTs K F' vs ts m1 ∧ (∀ b o, (b, o) ∈ m1 → H b = some o) ∧ (∀ q, l = some q → a = q) ∧ ∀ (l' : Option Addr) (vs' : List V) (ts' : List T) (m2 : Mini), (∀ q, l' = some q → a = q) → OTs K F' vs' ts' m2 → (∀ b o, (b, o) ∈ m2 → (b, o) ∈ m1 ∨ (H' b = some o ∧ F' b = none ∧ H b = none)) →
      ∃ M', PInv K B F0 (ρ.set j (some (tr (t.put π (.lst l' ts'))))) F' σ (upd H' a (.lst vs')) M' := by
  obtain ⟨r', er', z⟩ := ok.ok.at_ j _ hj
  rw [er] at er'; cases er'
  have hm : ∀ a o, (a, o) ∈ M j → H a = some o := fun a o z => (ok.ok.own j a o z).1
  have z' : OT K F' r t (M j) := OT.mono x.f _ _ _ z
  obtain ⟨a, vs, m1, k1, k2, k3, k4, k5, k6, g7⟩ := OT.mut z' hπ
  have ev := NodeV.inj ((k6 H hm).same x.h) nv
  subst ev
  refine ⟨a, vs, m1, rfl, x.h _ _ (hm _ _ k1), k3, fun b o z => hm b o (k4 _ z), k2, fun l' vs' ts' m2 hl' o2 q2 => ?_⟩
  have ok' := ok.ext x
  have new : ∀ b o, (b, o) ∈ m2 → b ≠ a ∧ ((b, o) ∈ m1 ∨ ∀ o', (b, o') ∉ M j) := fun b o hb => by
    rcases q2 b o hb with y | ⟨y1, y2, y3⟩
    · exact ⟨fun e => by subst e; exact k5 _ y, .inl y⟩
    · refine ⟨fun e => ?_, .inr fun o' hz => ?_⟩
      · subst e
        have w := hm _ _ k1
        rw [y3] at w; cases w
      · have w := hm _ _ hz
        rw [y3] at w; cases w
  obtain ⟨m', s1, s2⟩ := g7 l' vs' ts' m2 hl' o2 new
  refine ⟨_, ok'.change hj er k1 s1 fun b u hb => ?_⟩
  rcases s2 b u hb with ⟨y1, y2⟩ | ⟨rfl, rfl⟩ | y
  · obtain ⟨w1, w2⟩ := ok'.ok.own j b u y2
    exact ⟨by rw [upd_ne y1]; exact w1, w2, ok'.mb j b u y2, fun i u' hi hz => hi (ok'.ok.apart i j b u' u hz y2)⟩
  · exact ⟨upd_same, (ok'.ok.own j _ _ k1).2, ok'.mb j _ _ k1, fun i u' hi hz => hi (ok'.ok.apart i j _ u' _ hz k1)⟩
  · have nb := (new b u y).1
    rcases q2 b u y with y' | ⟨y1, y2, y3⟩
    · have y'' := k4 _ y'
      obtain ⟨w1, w2⟩ := ok'.ok.own j b u y''
      exact ⟨by rw [upd_ne nb]; exact w1, w2, ok'.mb j b u y'', fun i u' hi hz => hi (ok'.ok.apart i j b u' u hz y'')⟩
    · refine ⟨by rw [upd_ne nb]; exact y1, y2, ok.base.free y3, fun i u' hi hz => ?_⟩
      have w := (ok.ok.own i b u' hz).1
      rw [y3] at w; cases w
end
end PV

/-! The pure-value layer: statements that change trees; comprehensions of trees. -/
namespace PV
open PySem PySem.Spec PyProof.Rows L2
def rExtendR : V → List V → Hp → VK → Prop := fun x vs H Q => ∃ l b xs zs, x = .ref l ∧ vs = [.ref b] ∧ H l = some (.lst xs) ∧ Rd H b (.lst zs) ∧ xs.length + zs.length ≤ sizeLine ∧ Q .non (upd H l (.lst (xs ++ zs)))
theorem mt_extendR {X : Cx} : MtM X "list.extend" rExtendR := by
  intro pins s σ H x vs v us Q I rx rv h
  obtain ⟨l, b, xs, zs, rfl, rfl, hH, hB, hz, q⟩ := h
  cases rx
  obtain ⟨u, rfl, ru⟩ := rv.one
  cases ru
  obtain ⟨z, its, n, r, hl, e⟩ := I.lstM hH
  obtain ⟨its2, n2, r2, hl2, e2, z2⟩ := rd_obj I hB
  have hsz : its.toArray.size + its2.toArray.size ≤ sizeLine := by rw [List.size_toArray, List.size_toArray]; omega
  have hlong : ¬ (!its.toArray.isEmpty && Builtin.List.listTooLong (its.toArray.size + its2.toArray.size)) = true := by
    rw [notLongL hsz, Bool.and_false]
    exact Bool.false_ne_true
  refine call_meets F.slot_list_extend ⟨_, e, rfl⟩ F.entry_list_extend (F.args_list_extend_2 _ _)
    (AutoSeq1.list_extend_list_list_0 l its.toArray n b its2.toArray n2 hlong (by rw [List.size_toArray]; omega) (by omega)) ⟨e, e2, ?_⟩
  refine ⟨.non, _, I.lset (its' := its ++ its2) hH e (by simp) (r.append r2) ?_, rfl, q⟩
  rw [List.length_append]
  omega
section
variable {X : Cx} {W : Wc} {ρ : Env} {e a b d : Expr} {es : List Expr} {pos p : Pos} {C : Ec → Addr} {k : Nat} {rest : List Stmt} {Φ : Out → Prop} {π : List Nat} {t : T} {l : Option Addr} {ts : List T}
/-- e.append(d), e a part of a tree -/
theorem sxs_appendN (j : Nat) {pa : Pos} {u : T} (hj : ρ[j]? = some (some (tr t))) (hn : Nd X W ρ e j π) (hπ : t.at? π = some (.lst l ts)) (hd : FrT X W ρ d u) (c : ts.length < sizeLine) (k : Sxs X W rest (ρ.set j (some (tr (t.put π (.lst l (ts ++ [u])))))) Φ)
    (hp : ∀ t u, PE X e t → PE X d u → PE X (.Call (.Attribute e "append" pa) [d] [] p) (tBM X.K "list" rAppend t (tCons u tNil)) := by exact fun t u h h' => pe_bm PySem.F.plainAttrs_list PySem.F.slot_list_append PySem.F.type_list_append mt_append h (pa_cons h' pa_nil))
    (hs : swapsWith (.Call (.Attribute e "append" pa) [d] [] p) none pos.line X.env = pure false := by rfl) : Sxs X W (.Expr (.Call (.Attribute e "append" pa) [d] [] p) pos :: rest) ρ Φ :=
  sxs_of (ps_expr (hp _ _ hn.pe hd.pe) hs) fun σ F H M B F0 D ok q => ⟨F, M, ok.ok, fun r v F1 H1 er x1 nv => by
    obtain ⟨a, vs, m1, rfl, ha, o1, _, _, _⟩ := ok.mutT hj hπ er x1 nv
    refine ⟨ty_lst ha, F1, M, (ok.ext x1).ok, fun w F2 H2 m x2 hw hm => ?_⟩
    obtain ⟨a', vs', m1', e1, ha2, o2, hm1, hl, go⟩ := ok.mutT hj hπ er (x1.trans x2) (nv.same x2.h)
    cases e1
    obtain ⟨M', ok'⟩ := go l (vs' ++ [w]) (ts ++ [u]) (m1' ++ m) hl (OTs.app o2 (OTs.one hw) fun b o o' z1 z2 => by
      have y := x1.h _ _ (hm1 b o z1)
      rw [(hm b o' z2).2.2] at y; cases y) fun b o hb => by
      rcases List.mem_append.mp hb with z | z
      · exact .inl z
      · exact .inr ⟨(hm b o z).1, (hm b o z).2.1, x1.h.free (hm b o z).2.2⟩
    exact ⟨a, vs', w, rfl, rfl, ha2, by rw [o2.len]; exact c, _, Φ, F2, M', B, F0, k, ok', q⟩⟩
/-- e.extend(d) -/
theorem sxs_extendN (j : Nat) {pa : Pos} {ds : List PyData} (hj : ρ[j]? = some (some (tr t))) (hn : Nd X W ρ e j π) (hπ : t.at? π = some (.lst l ts)) (hd : Bv X W ρ d ds) (c : ts.length + ds.length ≤ sizeLine) (k : Sxs X W rest (ρ.set j (some (tr (t.put π (.lst l (ts ++ ds.map T.fz)))))) Φ)
    (hp : ∀ t u, PE X e t → PE X d u → PE X (.Call (.Attribute e "extend" pa) [d] [] p) (tBM X.K "list" rExtendR t (tCons u tNil)) := by exact fun t u h h' => pe_bm PySem.F.plainAttrs_list PySem.F.slot_list_extend PySem.F.type_list_extend mt_extendR h (pa_cons h' pa_nil))
    (hs : swapsWith (.Call (.Attribute e "extend" pa) [d] [] p) none pos.line X.env = pure false := by rfl) : Sxs X W (.Expr (.Call (.Attribute e "extend" pa) [d] [] p) pos :: rest) ρ Φ :=
  sxs_of (ps_expr (hp _ _ hn.pe hd.pe) hs) fun σ F H M B F0 D ok q => ⟨F, M, ok.ok, fun r v F1 H1 er x1 nv => by
    obtain ⟨a, vs, m1, rfl, ha, o1, _, _, _⟩ := ok.mutT hj hπ er x1 nv
    refine ⟨ty_lst ha, F1, M, (ok.ext x1).ok, fun w F2 H2 x2 hw => ?_⟩
    obtain ⟨a', vs', m1', e1, ha2, o2, hm1, hl, go⟩ := ok.mutT hj hπ er (x1.trans x2) (nv.same x2.h)
    cases e1
    obtain ⟨q', ws, rfl, h3, h4⟩ := hw
    obtain ⟨M', ok'⟩ := go l (vs' ++ ws) (ts ++ ds.map T.fz) (m1' ++ []) hl (OTs.app o2 (OTs.ofDq h4) fun _ _ _ _ z => nomatch z) fun b o hb => .inl (by simpa using hb)
    exact ⟨a, q', vs', ws, rfl, rfl, ha2, h3, by rw [o2.len, DqAll_len h4]; exact c, _, Φ, F2, M', B, F0, k, ok', q⟩⟩
/-- e.clear() -/
theorem sxs_clearN (j : Nat) {pa : Pos} (hj : ρ[j]? = some (some (tr t))) (hn : Nd X W ρ e j π) (hπ : t.at? π = some (.lst l ts)) (k : Sxs X W rest (ρ.set j (some (tr (t.put π (.lst l []))))) Φ)
    (hp : ∀ t, PE X e t → PE X (.Call (.Attribute e "clear" pa) [] [] p) (tBM0 X.K "list" rClear t) := by exact fun t h => pe_bm0 PySem.F.plainAttrs_list PySem.F.slot_list_clear PySem.F.type_list_clear mt_clear h)
    (hs : swapsWith (.Call (.Attribute e "clear" pa) [] [] p) none pos.line X.env = pure false := by rfl) : Sxs X W (.Expr (.Call (.Attribute e "clear" pa) [] [] p) pos :: rest) ρ Φ :=
  sxs_of (ps_expr (hp _ hn.pe) hs) fun σ F H M B F0 D ok q => ⟨F, M, ok.ok, fun r v F1 H1 er x1 nv => by
    obtain ⟨a, vs, m1, rfl, ha, o1, hm1, hl, go⟩ := ok.mutT hj hπ er x1 nv
    obtain ⟨M', ok'⟩ := go l [] [] [] hl .nil fun _ _ z => nomatch z
    exact ⟨ty_lst ha, a, vs, rfl, rfl, ha, _, Φ, F1, M', B, F0, k, ok', q⟩⟩
theorem OTs_set {K : PySem.W.Frag} {F : Hp} {vs : List V} {m mu : Mini} {n : Nat} {w : V} {u : T} (h : OTs K F vs ts m) (hn : n < ts.length) (hu : OT K F w u mu) (hq : ∀ b o, (b, o) ∈ mu → ∀ o', (b, o') ∉ m) : ∃ m', OTs K F (vs.set n w) (ts.set n u) m' ∧ ∀ b o, (b, o) ∈ m' → (b, o) ∈ m ∨ (b, o) ∈ mu := by
  obtain ⟨v, m0, g1, g2, g3, g4⟩ := h.at (List.getElem?_eq_getElem hn)
  obtain ⟨m', s1, s2⟩ := g4 w u mu hu fun b o z => .inr (hq b o z)
  exact ⟨m', s1, fun b o z => (s2 b o z).imp And.left id⟩
/-- e[b] = d -/
theorem sxs_setItemN (j : Nat) {pb : Pos} {u : T} {i : Int} {n : Nat} (hj : ρ[j]? = some (some (tr t))) (hn : Nd X W ρ e j π) (hπ : t.at? π = some (.lst l ts)) (hd : FrT X W ρ d u) (hb : Ev X W ρ b (.int i)) (hi : ixN ts.length i = some n) (k : Sxs X W rest (ρ.set j (some (tr (t.put π (.lst l (ts.set n u)))))) Φ)
    (hp : ∀ t u w, PE X e t → PE X d u → PE X b w → PS X (.Assign [.Subscript e b pb] d pos) (tAsg u (gSub t w rSetL)) := by exact fun t u w h h' h'' => ps_asg h' (pg_sub h h'' set_list)) :
    Sxs X W (.Assign [.Subscript e b pb] d pos :: rest) ρ Φ :=
  sxs_of (hp _ _ _ hn.pe hd.pe hb.pe) fun σ F H M B F0 D ok q => ⟨F, M, ok.ok, fun w F1 H1 m x1 hw hm => ⟨F1, M, (ok.ext x1).ok, fun r v F2 H2 er x2 nv => rd ((ok.ext x1).ext x2).ok fun y F3 H3 x3 dy => by
    have x := x2.trans x3
    obtain ⟨a, vs, m1, rfl, ha, o1, hm1, hl, go⟩ := ok.mutT hj hπ er (x1.trans x) (nv.same x3.h)
    have hn' : n < ts.length := by
      unfold ixN at hi
      split at hi
      · split at hi
        · cases hi; omega
        · cases hi
      · split at hi
        · cases hi; omega
        · cases hi
    have hm3 := ot_keep x fun a o z => ⟨(hm a o z).1, (hm a o z).2.1⟩
    obtain ⟨m', s1, s2⟩ := OTs_set o1 hn' (OT.mono x.f _ _ _ hw) fun b o z o' z' => by
      have y := hm1 b o' z'
      rw [(hm b o z).2.2] at y; cases y
    obtain ⟨M', ok'⟩ := go l (vs.set n w) (ts.set n u) m' hl s1 fun b o hb => by
      rcases s2 b o hb with z | z
      · exact .inl z
      · exact .inr ⟨(hm3 b o z).1, (hm3 b o z).2, (hm b o z).2.2⟩
    exact ⟨a, vs, i, n, rfl, dq_int dy, ha, by rw [o1.len]; exact hi, _, Φ, F3, M', B, F0, k, ok', q⟩⟩⟩
/-- x = e, e a list within a tree: x holds where it stands -/
theorem sxs_alias (i j : Nat) {x : Str} {pos' : Pos} (hij : i ≠ j) (hj : ρ[j]? = some (some (tr t))) (hn : Nd X W ρ e j π) (hπ : t.at? π = some (.lst l ts)) (k : ∀ q : Addr, Sxs X W rest ((ρ.set j (some (tr (t.put π (.lst (some q) ts))))).set i (some (adr q))) Φ) (hN : X.N.Nodup)
    (hi : X.N[i]? = some x := by rfl) (hx : Loc X.env.scope x := by first | exact Or.inl rfl | exact Or.inr rfl) (hs : swapsWith e (some (.Name x pos')) pos.line X.env = pure false := by rfl)
    (hf : X.fn x = true ∨ X.env.scope.names.lookup x = some .local := by first | exact .inl rfl | exact .inr rfl) : Sxs X W (.Assign [.Name x pos'] e pos :: rest) ρ Φ :=
  sxs_of (ps_set hN hi hx hn.pe hs hf) fun σ F H M B F0 D ok q => ⟨F, M, ok.ok, fun r v F1 H1 er x1 nv => by
    obtain ⟨a, vs, m1, rfl, ha, o1, hm1, hl, go⟩ := ok.mutT hj hπ er x1 nv
    obtain ⟨M', ok'⟩ := go (some a) vs ts m1 (fun q z => Option.some.inj z) o1 fun b o hb => .inl hb
    have e : upd H1 a (.lst vs) = H1 := by
      funext b
      by_cases hb : b = a
      · subst hb; rw [upd_same, ha]
      · rw [upd_ne hb]
    rw [e] at ok'
    have ok2 : PInv X.K B F0 ((ρ.set j (some (tr (t.put π (.lst (some a) ts))))).set i (some (adr a))) F1 (σ.set i (some (.ref a))) H1 (upM M' i []) := ok'.set ⟨rfl, rfl⟩ fun _ _ z => nomatch z
    exact ⟨_, Φ, F1, _, B, F0, k a, ok2, q⟩⟩
end

/-! ### comprehensions of trees -/
section
variable {X : Cx} {W : Wc} {ρ : Env} {e a b elt tg iter : Expr} {es : List Expr} {pos p : Pos} {C : Ec → Addr} {k : Nat} {rest : List Stmt} {Φ : Out → Prop} {scope : Scope}
def FrTB (X : Cx) (scope : Scope) (ρ : Env) (e : Expr) (t : T) : Prop := ∀ (s : Shared) (H : Hp) (Cc : Addr) (cl : List (Str × Addr)) (fp : List Addr), FrT (bl X scope s H Cc cl fp) W0 ρ e t
def tFrTB (X : Cx) (scope : Scope) (e : Expr) : TE := fun σ H Q => ∃ ρ t F M, FrTB X scope ρ e t ∧ EOk X.K ρ F σ H M ∧ ∀ v F' H' m, Ext F H F' H' → OT X.K F' v t m → (∀ a o, (a, o) ∈ m → H' a = some o ∧ F' a = none ∧ H a = none) → Q v H'
theorem pe_FrTB (s : Shared) (H : Hp) (Cc : Addr) (cl : List (Str × Addr)) (fp : List Addr) : PE (bl X scope s H Cc cl fp) e (tFrTB X scope e) :=
  ⟨fun pins s1 σ H1 Q I ⟨ρ, t, F, M, h, ok, q⟩ => h s H Cc cl fp pins s1 σ F H1 M Q I ok q⟩
theorem lc_readT {t : Bool} {is vs : List Nat} {ds : List PyData} {ts : List T} {wi : TI} {σ : St} {F H : Hp} {M : Nat → Mini} {Q : VK} (ok : EOk X.K ρ F σ H M)
    (qi : ∀ (σ : St) (F H : Hp) (M : Nat → Mini) (R : It → Hp → Prop), EOk X.K ρ F σ H M → (∀ J F' H', Ext F H F' H' → Walks X.K J F' ds → R J H') → wi σ H R) (hin : ∀ i ∈ is, i ∈ vs) (hz : ds.length ≤ sizeLine) (hk : ts.length = ds.length)
    (he : ∀ (i : Nat) (d : PyData) (u : T), ds[i]? = some d → ts[i]? = some u → tgFit t is d ∧ FrTB X scope (setAll (wipeE ρ vs) is (tgItems t d)) elt u)
    (h : ∀ v F' H' m, Ext F H F' H' → OT X.K F' v (.lst none ts) m → (∀ a o, (a, o) ∈ m → H' a = some o ∧ F' a = none ∧ H a = none) → Q v H') : tLc wi (gOf X.K t is) tYes (tFrTB X scope elt) vs σ H Q := by
  refine qi σ F H M _ ok fun J F1 H1 x1 wk => ?_
  intro D hD
  have nF1 : F1 D = none := x1.sub.free hD
  refine ⟨fun i m H' => m = ds.length - i ∧ i ≤ ds.length ∧ ∃ F' ws mm, Ext F1 H1 F' H' ∧ F' D = none ∧ H' D = some (.lst ws) ∧ ws.length ≤ i ∧ OTs X.K F' ws (ts.take i) mm ∧ (∀ a o, (a, o) ∈ mm → H' a = some o ∧ F' a = none ∧ H1 a = none ∧ a ≠ D),
    ⟨_, rfl, Nat.zero_le _, F1, [], [], .beside x1.sub hD, nF1, upd_same, Nat.le_refl _, .nil, fun _ _ z => nomatch z⟩, ?_⟩
  rintro i m H2 ⟨rfl, hle, F2, ws, mm, x2, n2, h2, hw, dws, hmm⟩
  by_cases hlt : i < ds.length
  · refine .inr ⟨wk.go i F2 H2 x2.f x2.sub hlt, fun H' => i + 1 ≤ ds.length ∧ ∃ F' ws mm, Ext F1 H1 F' H' ∧ F' D = none ∧ H' D = some (.lst ws) ∧ ws.length ≤ i + 1 ∧ OTs X.K F' ws (ts.take (i + 1)) mm ∧ (∀ a o, (a, o) ∈ mm → H' a = some o ∧ F' a = none ∧ H1 a = none ∧ a ≠ D), fun H' ⟨a1, a2⟩ => ⟨ds.length - (i + 1), by omega, rfl, a1, a2⟩, fun x H3 y => ?_⟩
    obtain ⟨F3, d, x3, hd, dv⟩ := wk.yld i F2 H2 x H3 x2.f x2.sub hlt y
    obtain ⟨u, hu⟩ : ∃ u, ts[i]? = some u := ⟨ts[i], List.getElem?_eq_getElem (by omega)⟩
    obtain ⟨fit, hx⟩ := he i d u hd hu
    have tk : ts.take (i + 1) = ts.take i ++ [u] := by
      rw [List.take_add_one, hu]
      rfl
    refine gOf_ok x3.sub dv fit fun xs dxs => ⟨by rw [wipe_setAllV hin, wipe_wipe], ?_⟩
    obtain ⟨M4, ok4⟩ := EOk.setAll (is := is) ((((ok.ext x1).wipe vs).ext x2).ext x3) dxs
    show tFrTB X scope elt (setAllV (L2.wipe σ vs) is xs) H3 _
    refine ⟨_, u, F3, M4, hx, ok4, fun v F5 H5 mv x5 dz qz => ?_⟩
    have x35 := x3.trans x5
    have h5 : H5 D = some (.lst ws) := x35.h _ _ h2
    have n5 : F5 D = none := by
      cases q : F5 D with
      | none => rfl
      | some u =>
        have z := x35.new D u q n2
        rw [z] at h2; cases h2
    have x6 := x2.trans x35
    have hmm5 := ot_keep x35 fun a o z => ⟨(hmm a o z).1, (hmm a o z).2.1⟩
    refine ⟨ws, h5, by omega, hlt, F5, ws ++ [v], mm ++ mv, ⟨x6.f, fun b u e => ?_, fun b u e => ?_, x6.new⟩, n5, upd_same, by rw [List.length_append]; simpa using hw, ?_, fun b o hb => ?_⟩
    · rw [upd_ne (ne_of_none e hD)]; exact x6.h b u e
    · rw [upd_ne (ne_of_none e n5)]; exact x6.sub b u e
    · rw [tk]
      exact OTs.app (OTs.mono x35.f _ _ _ dws) (OTs.one dz) fun b o o' z1 z2 => by
        have y := x3.h _ _ (hmm b o z1).1
        rw [(qz b o' z2).2.2] at y; cases y
    · rcases List.mem_append.mp hb with z | z
      · obtain ⟨y1, y2⟩ := hmm5 b o z
        obtain ⟨_, _, y3, y4⟩ := hmm b o z
        exact ⟨by rw [upd_ne y4]; exact y1, y2, y3, y4⟩
      · obtain ⟨y1, y2, y3⟩ := qz b o z
        have nD : b ≠ D := fun e => by
          subst e
          rw [x3.h _ _ h2] at y3; cases y3
        exact ⟨by rw [upd_ne nD]; exact y1, y2, (x2.h.trans x3.h).free y3, nD⟩
  · have e : i = ds.length := by omega
    subst e
    refine .inl ⟨wk.stop F2 H2 x2.f x2.sub, h (.ref D) F2 H2 ((D, .lst ws) :: mm) (x1.trans x2) (.lst (fun _ z => nomatch z) ?_ fun o z => (hmm D o z).2.2.2 rfl) fun b o hb => ?_⟩
    · rw [← hk, List.take_length] at dws
      exact dws
    · rcases List.mem_cons.mp hb with z | z
      · cases z
        exact ⟨h2, n2, x1.h.free hD⟩
      · obtain ⟨y1, y2, y3, _⟩ := hmm b o z
        exact ⟨y1, y2, x1.h.free y3⟩
theorem t_lc {t : Bool} {is : List Nat} {ds : List PyData} {ts : List T} (own : List (Str × Nat)) (c : Ctx X C W k) (hi : Iv X W ρ tg iter ds) (hg : ∀ s H Cc cl fp, TgOk (bl X scope s H Cc cl fp) tg t is) (hz : ds.length ≤ sizeLine) (hk : ts.length = ds.length)
    (he : ∀ (i : Nat) (d : PyData) (u : T), ds[i]? = some d → ts[i]? = some u → tgFit t is d ∧ FrTB X scope (setAll (wipeE ρ (own.map (·.2))) is (tgItems t d)) elt u)
    (hin : ∀ i ∈ is, i ∈ own.map (·.2) := by decide) (ok : BlkOk X.N X.env.scope scope own := by exact blkOk_by (by rfl)) (hs : ∀ x, foldedSetIterable iter X.env x = pure x := by intro _; rfl) : FrT X W ρ (.ListComp elt [⟨tg, iter, [], 0⟩] scope pos) (.lst none ts) := by
  obtain ⟨wi, hwi, qi⟩ := hi
  exact fun pins s σ F H M Q I ok' h => (pe_lc (own := own) (g := gOf X.K t is) c.calm c.nd hwi ok hg (fun s H Cc cl fp => pts_nil) (fun s H Cc cl fp => pe_FrTB s H Cc cl fp) hs).run pins s σ H Q I (lc_readT ok' qi hin hz hk he h)
theorem sxs_setLcT (j : Nat) {x : Str} {pos' spos : Pos} {t : Bool} {is : List Nat} {ds : List PyData} {ts : List T} (own : List (Str × Nat)) (c : Ctx X C W k) (hi : Iv X W ρ tg iter ds) (hg : ∀ s H Cc cl fp, TgOk (bl X scope s H Cc cl fp) tg t is) (hz : ds.length ≤ sizeLine) (hk : ts.length = ds.length)
    (he : ∀ (i : Nat) (d : PyData) (u : T), ds[i]? = some d → ts[i]? = some u → tgFit t is d ∧ FrTB X scope (setAll (wipeE ρ (own.map (·.2))) is (tgItems t d)) elt u)
    (kk : Sxs X W rest (ρ.set j (some (tr (.lst none ts)))) Φ)
    (hin : ∀ i ∈ is, i ∈ own.map (·.2) := by decide) (ok : BlkOk X.N X.env.scope scope own := by exact blkOk_by (by rfl)) (hs : ∀ x, foldedSetIterable iter X.env x = pure x := by intro _; rfl)
    (hy : X.N[j]? = some x := by rfl) (hyl : X.env.scope.names.lookup x = some .local := by rfl) (hsw : swapsWith (.ListComp elt [⟨tg, iter, [], 0⟩] scope pos) (some (.Name x pos')) spos.line X.env = pure true := by exact sw_true rfl rfl rfl (by rfl)) :
    Sxs X W (.Assign [.Name x pos'] (.ListComp elt [⟨tg, iter, [], 0⟩] scope pos) spos :: rest) ρ Φ := by
  obtain ⟨wi, hwi, qi⟩ := hi
  exact sxs_of (ps_setLc (own := own) (g := gOf X.K t is) c.calm c.nd hy hyl hsw hwi ok hg (fun s H Cc cl fp => pts_nil) (fun s H Cc cl fp => pe_FrTB s H Cc cl fp) hs) fun σ F H M B F0 D ok' q =>
    lc_readT ok'.ok qi hin hz hk he fun v F' H' m x hv hm => by
      have y : PInv X.K B F0 (ρ.set j (some (tr (.lst none ts)))) F' (σ.set j (some v)) H' (upM M j m) := (ok'.ext x).set hv fun a o z => by
        obtain ⟨y1, y2, y3⟩ := hm a o z
        refine ⟨y1, y2, ok'.base.free y3, fun i o' hj hm' => ?_⟩
        have w := (ok'.ok.own i a o' hm').1
        rw [y3] at w; cases w
      exact ⟨_, Φ, F', _, B, F0, kk, y, q⟩
end
end PV

/-! The pure-value layer: further rules. -/
namespace PV
open PySem PySem.Spec PyProof.Rows L2
section
variable {X : Cx} {W : Wc} {ρ : Env} {e a b tg : Expr} {es : List Expr} {pos p : Pos} {C : Ec → Addr} {k : Nat} {rest body : List Stmt} {Φ : Out → Prop}
/-- for, by what is left: R tells of the state and of the items that are left -/
theorem sxs_forL {α S : Type} {t : Bool} {is : List Nat} (enc : α → PyData) (xs : List α) (envOf : S → Env) (R : S → List α → Prop) (s0 : S) (c : Ctx X C W k) (hi : Iv X W ρ tg a (xs.map enc)) (hg : TgOk X tg t is) (hw : Wk ρ (envOf s0)) (h0 : R s0 xs)
    (step : ∀ s x ys, R s (x :: ys) → tgFit t is (enc x) ∧ Sxs X W body (setAll (envOf s) is (tgItems t (enc x))) (turnS (fun ρ' => ∃ s', ρ' = envOf s' ∧ R s' ys) X W rest Φ))
    (done : ∀ s, R s [] → Sxs X W rest (envOf s) Φ) (hs : ∀ x, foldedSetIterable a X.env x = pure x := by intro _; rfl) : Sxs X W (.For tg a body [] pos :: rest) ρ Φ := by
  refine sxs_for c (fun i ρ => ∃ s, Wk ρ (envOf s) ∧ R s (xs.drop i)) hi hg ⟨s0, hw, by simpa using h0⟩ (fun i d ρ hd ⟨s, w, h⟩ => ?_) (fun ρ ⟨s, w, h⟩ => ?_) hs
  · rw [List.getElem?_map] at hd
    cases q : xs[i]? with
    | none => rw [q] at hd; cases hd
    | some x =>
      rw [q] at hd
      have ed : enc x = d := Option.some.inj hd
      subst ed
      have hl := (List.getElem?_eq_some_iff.mp q).1
      have e : xs.drop i = x :: xs.drop (i + 1) := by
        rw [List.drop_eq_getElem_cons hl, (List.getElem?_eq_some_iff.mp q).2]
      rw [e] at h
      obtain ⟨f, b⟩ := step s x _ h
      refine ⟨f, ?_⟩
      have wk : ∀ (is : List Nat) (ds : List PyData) (ρ1 ρ2 : Env), Wk ρ1 ρ2 → Wk (setAll ρ1 is ds) (setAll ρ2 is ds) := by
        intro is
        induction is with
        | nil => intro ds ρ1 ρ2 w; cases ds <;> exact w
        | cons i is ih =>
          intro ds ρ1 ρ2 w
          cases ds with
          | nil => exact w
          | cons d ds =>
            refine ih ds _ _ ⟨by rw [List.length_set, List.length_set]; exact w.1, fun j T hj => ?_⟩
            by_cases hji : i = j
            · subst hji
              have hl : i < ρ2.length := by
                have := (List.getElem?_eq_some_iff.mp hj).1
                simpa using this
              rw [List.getElem?_set_self hl] at hj
              rw [List.getElem?_set_self (by rw [← w.1]; exact hl)]
              exact hj
            · rw [List.getElem?_set_ne hji] at hj ⊢
              exact w.2 j T hj
      refine sxs_weak (wk _ _ _ _ w) (sxs_mono b fun o ho => ?_)
      cases o with
      | next ρ' =>
        obtain ⟨ρ'', w', s', e', h'⟩ := ho
        subst e'
        exact ⟨_, w', s', Wk.refl _, h'⟩
      | cont ρ' =>
        obtain ⟨ρ'', w', s', e', h'⟩ := ho
        subst e'
        exact ⟨_, w', s', Wk.refl _, h'⟩
      | brk ρ' => exact ho
      | ret S ρ' => exact ho
      | raise c ρ' => exact ho
  · rw [List.length_map, List.drop_length] at h
    exact sxs_weak w (done s h)
/-- what is known less, place by place -/
def WkL : Env → Env → Prop
  | [], [] => True
  | _ :: a, none :: b => WkL a b
  | x :: a, some S :: b => x = some S ∧ WkL a b
  | _, _ => False
theorem Wk.of : ∀ {a b : Env}, WkL a b → Wk a b
  | [], [], _ => ⟨rfl, fun _ _ h => h⟩
  | x :: a, none :: b, h => by
    obtain ⟨h1, h2⟩ := Wk.of (a := a) (b := b) h
    refine ⟨congrArg (· + 1) h1, fun i S e => ?_⟩
    cases i with
    | zero => simp at e
    | succ i => simpa using h2 i S (by simpa using e)
  | x :: a, some T :: b, h => by
    have h : x = some T ∧ WkL a b := h
    obtain ⟨h1, h2⟩ := Wk.of (a := a) (b := b) h.2
    refine ⟨congrArg (· + 1) h1, fun i S e => ?_⟩
    cases i with
    | zero => rw [h.1]; exact e
    | succ i => simpa using h2 i S (by simpa using e)
  | [], _ :: _, h => by simp [WkL] at h
  | _ :: _, [], h => by simp [WkL] at h
/-- raise X('..') -/
theorem sxs_raise {cls : Str} {m : Str} {jj : Nat} {p1 p2 p3 : Pos} {bm : List Value} {Bs newId initId : String} (x : Ec) (c : Ctx X C W k) (Fx : ExcBaseFacts Bs newId initId bm) (q : PySem.W.excIn X.K (C x) bm newId = true) (gC : X.mg cls = some (.ref (C x))) (kC : PySem.W.keepIn X.K (.ref (C x)) = true)
    (bs : PySem.W.subIn X.K (.ref (C x)) (.type "BaseException") = some true) (ty : PySem.W.typeIn X.K (.ref (C x)) = some (.type "type")) (h : Φ (.raise x ρ)) (hg : Gl X cls := by rfl) (hdb : (cls == ("__debug__" : Str)) = false := by decide) : Sxs X W (.Raise (some (.Call (.Name cls p1) [.Constant (.str m) jj p2] [] p3)) none pos :: rest) ρ Φ :=
  sxs_of (ps_raise c.calm c.tk (pmk_own Fx q gC kC (raises_own bs ty) hg hdb)) fun σ F H M B F0 D ok qq => ⟨x, rfl, rfl, qq _ h F σ H M ok⟩
/-- a text times a number -/
theorem ev_mulS {z : Str} {n : Int} (c : MulOk z n) (ha : Ev X W ρ a (.str z)) (hb : Ev X W ρ b (.int n)) : Ev X W ρ (.BinOp a .Mult b pos) (.str (Txt.mul z n)) :=
  ev_op (r := fun x y H Q => ∃ z n, x = .str z ∧ y = .int n ∧ MulOk z n ∧ Q (.str (Txt.mul z n)) H) (fun pins s σ H x y v u Q I rx ry h => by
    obtain ⟨z, n, rfl, rfl, c, q⟩ := h
    obtain ⟨t, rfl⟩ := rx
    obtain ⟨t', rfl⟩ := ry
    exact PySem.SB.mul c fun t2 k => ⟨.str _, H, I.tok _, ⟨_, rfl⟩, q⟩) ha hb fun x y F H Q s dx dy h => ⟨z, n, dq_str dx, dq_int dy, c, h _ F H (.refl s) (.str _)⟩
theorem mulOk_small {x : Str} {n : Int} (h1 : -(2 ^ 40) ≤ n) (h2 : n < 2 ^ 40) (h3 : x.length * n.toNat ≤ 1000000) : MulOk x n := by
  refine ⟨?_, fun hn _ => ?_, fun hn _ => ?_⟩
  · have e1 : ¬ n < -(2 ^ 63 : Int) := by omega
    have e2 : ¬ n ≥ 2 ^ 63 := by omega
    rw [decide_eq_false e1, decide_eq_false e2]; rfl
  · have h4 : ((x.length : Int)) * n ≤ 1000000 := by
      have e : n = (n.toNat : Int) := by omega
      rw [e]
      have h3' : ((x.length * n.toNat : Nat) : Int) ≤ 1000000 := Int.ofNat_le.mpr h3
      rw [Int.natCast_mul] at h3'
      exact h3'
    intro hgt
    have hp : 0 < n := by omega
    have h5 : (2 ^ 63 - 1) / n * n ≤ 2 ^ 63 - 1 := Int.ediv_mul_le _ (by omega)
    have h6 : (2 ^ 63 - 1 : Int) < ((2 ^ 63 - 1) / n + 1) * n := Int.lt_ediv_add_one_mul_self _ hp
    have h7 : ((2 ^ 63 - 1) / n + 1) * n ≤ (x.length : Int) * n := Int.mul_le_mul_of_nonneg_right (by omega) (by omega)
    omega
  · have e : ¬ (x.length * n.toNat > sizeLine) := by
      have : (1000000 : Nat) ≤ sizeLine := by rw [sizeLine_eq]; decide
      omega
    exact decide_eq_false e
end
theorem foldl_app' (x : Array Nat) : ∀ (n : Nat) (acc : Array Nat), ((List.replicate n x).foldl (· ++ ·) acc).toList = acc.toList ++ (List.replicate n x.toList).flatten
  | 0, acc => by simp
  | n + 1, acc => by
    rw [List.replicate_succ, List.foldl_cons, foldl_app' x n, List.replicate_succ, List.flatten_cons]
    simp
/-- the signs of a text times a number -/
theorem mul_list (x : Str) (n : Int) : (Txt.mul x n).cps.toList = (List.replicate n.toNat x.cps.toList).flatten := by
  unfold Txt.mul
  split
  · rename_i h
    have e : n.toNat = 0 := by omega
    rw [e]; rfl
  · split
    · rename_i h1 h2
      simp only [Bool.or_eq_true, beq_iff_eq] at h2
      rcases h2 with h2 | h2
      · subst h2; simp
      · have e : x.cps.toList = [] := by
          have : x.cps.size = 0 := h2
          simpa using this
        rw [e]; simp
    · rw [foldl_app']; simp
end PV

/-! The pure-value layer: borrowing; loops over trees. -/
namespace PV
open PySem PySem.Spec PyProof.Rows L2
/-- as S is read while nothing changes -/
def Brw (S S' : Slot) : Prop := ∀ (K : PySem.W.Frag) (F H : Hp) (v : V) (m : Mini), Same F H → (∀ a o, (a, o) ∈ m → H a = some o) → S.R K F v m → S'.R K H v []
theorem brw_fz {d : PyData} : Brw (fz d) (fz d) := fun K F H v m s _ h => ⟨rfl, dq_mono s _ _ h.2⟩
theorem brw_kn {ds : List PyData} : Brw (kn ds) (kn ds) := fun K F H v m s _ ⟨_, a, vs, h1, h2, h3⟩ => ⟨rfl, a, vs, h1, s.seq h2, dqAll_mono s _ _ h3⟩
theorem brw_ow {p : Option Addr} {ds : List PyData} : Brw (ow p ds) (fz (.list ds)) := fun K F H v m s q ⟨a, vs, h1, h2, h3, h4⟩ => by
  subst h1
  exact ⟨rfl, .lst (.inl (q a _ (by rw [h2]; exact List.mem_cons_self))) (dqAll_mono s _ _ h4)⟩
theorem brw_tr {t : T} : Brw (tr t) (fz t.er) := fun K F H v m s q h => ⟨rfl, OT.dq s _ _ _ h q⟩
theorem brw_adr {l : Addr} : Brw (adr l) (adr l) := fun K F H v m s q h => ⟨rfl, h.2⟩
inductive FrzL : Env → Env → Prop
  | nil : FrzL [] []
  | skip {x : Option Slot} {a b : Env} : FrzL a b → FrzL (x :: a) (none :: b)
  | keep {S S' : Slot} {a b : Env} : Brw S S' → FrzL a b → FrzL (some S :: a) (some S' :: b)
theorem FrzL.len : ∀ {a b : Env}, FrzL a b → b.length = a.length
  | _, _, .nil => rfl
  | _, _, .skip h => congrArg (· + 1) h.len
  | _, _, .keep _ h => congrArg (· + 1) h.len
theorem FrzL.get : ∀ {a b : Env} {i : Nat} {S' : Slot}, FrzL a b → b[i]? = some (some S') → ∃ S, a[i]? = some (some S) ∧ Brw S S'
  | _, _, _, _, .nil, e => by simp at e
  | _, _, 0, _, .skip h, e => by simp at e
  | _, _, 0, _, .keep q h, e => by simp at e; subst e; exact ⟨_, rfl, q⟩
  | _, _, i + 1, _, .skip h, e => by
    obtain ⟨S, h1, h2⟩ := FrzL.get (i := i) h (by simpa using e)
    exact ⟨S, by simpa using h1, h2⟩
  | _, _, i + 1, _, .keep q h, e => by
    obtain ⟨S, h1, h2⟩ := FrzL.get (i := i) h (by simpa using e)
    exact ⟨S, by simpa using h1, h2⟩
theorem EOk.frz {K : PySem.W.Frag} {ρ ρ' : Env} {F H : Hp} {σ : St} {M : Nat → Mini} (x : EOk K ρ F σ H M) (f : FrzL ρ ρ') : EOk K ρ' H σ H (fun _ => []) where
  len := x.len.trans f.len.symm
  sub := .refl _
  at_ := fun i S' h => by
    obtain ⟨S, h1, h2⟩ := f.get h
    obtain ⟨v, h3, h4⟩ := x.at_ i S h1
    exact ⟨v, h3, h2 K F H v (M i) x.sub (fun a o z => (x.own i a o z).1) h4⟩
  own := fun _ _ _ z => nomatch z
  apart := fun _ _ _ _ _ z => nomatch z
theorem Ext.under {F H F' H' : Hp} (s : Same F H) (x : Ext H H F' H') : Ext F H F H' := ⟨.refl _, x.h, s.trans x.h, fun a o h1 h2 => by rw [h1] at h2; cases h2⟩
/-- a tree whose frozen parts are no objects -/
def T.sc : T → Bool
  | .fz d => scalar d
  | .lst _ ts => T.scs ts
  | .tup _ ts => T.scs ts
where T.scs : List T → Bool
  | [] => true
  | t :: ts => t.sc && T.scs ts
section
variable {K : PySem.W.Frag} {F F' : Hp}
mutual
theorem OT.sc : ∀ (t : T) (v : V) (m : Mini), t.sc = true → OT K F v t m → OT K F' v t m
  | .fz d, _, _, s, h => by cases h with | fz h => exact .fz (dq_scalar h (by simpa [T.sc] using s))
  | .lst l ts, _, _, s, h => by cases h with | lst h1 h2 h3 => exact .lst h1 (OTs.sc ts _ _ (by simpa [T.sc] using s) h2) h3
  | .tup l ts, _, _, s, h => by cases h with | tup h1 h2 h3 => exact .tup h1 (OTs.sc ts _ _ (by simpa [T.sc] using s) h2) h3
theorem OTs.sc : ∀ (ts : List T) (vs : List V) (m : Mini), T.sc.T.scs ts = true → OTs K F vs ts m → OTs K F' vs ts m
  | [], _, _, _, h => by cases h; exact .nil
  | t :: ts, _, _, s, h => by
    have s' : t.sc = true ∧ T.sc.T.scs ts = true := by simpa [T.sc.T.scs] using s
    cases h with | cons h1 h2 h3 => exact .cons (OT.sc t _ _ s'.1 h1) (OTs.sc ts _ _ s'.2 h2) h3
end
end
section
variable {X : Cx} {W : Wc} {ρ ρ' : Env} {e a b tg : Expr} {es : List Expr} {pos p : Pos} {C : Ec → Addr} {k : Nat} {rest body : List Stmt} {Φ : Out → Prop}
theorem ev_borrow {d : PyData} (f : FrzL ρ ρ') (h : Ev X W ρ' e d) (s : scalar d = true := by rfl) : Ev X W ρ e d := fun pins st σ F H M Q I ok q _ =>
  h pins st σ H H _ Q I (ok.frz f) (fun d' hd v F' H' x dv => by cases hd; exact q _ rfl v F H' (.under ok.sub x) (dq_scalar dv s)) fun c hc => nomatch hc
theorem tst_borrow {b : Bool} (f : FrzL ρ ρ') (h : Tst X W ρ' e b) : Tst X W ρ e b := fun pins st σ F H M Q I ok q => h pins st σ H H _ Q I (ok.frz f) fun F' H' x => q F H' (.under ok.sub x)
theorem t_borrow {t : T} (f : FrzL ρ ρ') (h : FrT X W ρ' e t) (s : t.sc = true) : FrT X W ρ e t := fun pins st σ F H M Q I ok q =>
  h pins st σ H H _ Q I (ok.frz f) fun v F' H' m x hv hm => q v F H' m (.under ok.sub x) (OT.sc t v m s hv) fun a o z => ⟨(hm a o z).1, ok.sub.free (hm a o z).2.2, (hm a o z).2.2⟩

/-! ### a part of a tree by where it stands -/
/-- with its place -/
def T.ann : T → Addr → T
  | .fz d, _ => .fz d
  | .lst _ ts, q => .lst (some q) ts
  | .tup _ ts, q => .tup (some q) ts
theorem OTs.same {K : PySem.W.Frag} {F : Hp} : ∀ {vs : List V} {ts : List T} {m : Mini} {n : Nat} {u u' : T}, OTs K F vs ts m → ts[n]? = some u → (∀ w mu, vs[n]? = some w → OT K F w u mu → OT K F w u' mu) → OTs K F vs (ts.set n u') m
  | _, _, _, _, _, _, .nil, e, _ => by simp at e
  | _, _, _, 0, u, u', .cons h t a, e, q => by
    have e : _ = u := Option.some.inj e
    subst e
    exact .cons (q _ _ rfl h) t a
  | _, _, _, n + 1, u, u', .cons h t a, e, q => .cons h (OTs.same t (by simpa using e) fun w mu hw => q w mu (by simpa using hw)) a
theorem OTs.same2 {K : PySem.W.Frag} {F : Hp} : ∀ {vs : List V} {ts : List T} {m : Mini} {n : Nat} {u u' : T}, OTs K F vs ts m → ts[n]? = some u → (∀ w mu, vs[n]? = some w → OT K F w u mu → (∀ x, x ∈ mu → x ∈ m) → OT K F w u' mu) → OTs K F vs (ts.set n u') m
  | _, _, _, _, _, _, .nil, e, _ => by simp at e
  | _, _, _, 0, u, u', .cons h t a, e, q => by
    have e : _ = u := Option.some.inj e
    subst e
    exact .cons (q _ _ rfl h fun x hx => List.mem_append_left _ hx) t a
  | _, _, _, n + 1, u, u', .cons h t a, e, q => .cons h (OTs.same2 t (by simpa using e) fun w mu hw ho hs => q w mu (by simpa using hw) ho fun x hx => List.mem_append_right _ (hs x hx)) a
/-- what a name holds of a part of a tree -/
def slotOf : T → Addr → Slot
  | .fz d, _ => fz d
  | _, q => adr q
theorem PInv.reslot {K : PySem.W.Frag} {B F0 F H : Hp} {σ : St} {M : Nat → Mini} {j : Nat} {S S' : Slot} {v : V} (x : PInv K B F0 ρ F σ H M) (hj : ρ[j]? = some (some S)) (hσ : σ[j]? = some (some v)) (hS : S'.R K F v (M j)) : PInv K B F0 (ρ.set j (some S')) F σ H M := by
  refine ⟨⟨by rw [List.length_set]; exact x.ok.len, x.ok.sub, fun i T hi => ?_, x.ok.own, x.ok.apart⟩, x.base, x.f0, x.nb, x.mb⟩
  by_cases hij : i = j
  · subst hij
    have hl : i < ρ.length := (List.getElem?_eq_some_iff.mp hj).1
    rw [List.getElem?_set_self hl] at hi
    cases hi
    exact ⟨v, hσ, hS⟩
  · rw [List.getElem?_set_ne (Ne.symm hij)] at hi
    exact x.ok.at_ i T hi
/-- for x in a list of trees: x holds where the item stands, q0 is where the list stands; R tells of the state and the items, by how many are done -/
theorem sxs_forTr {St0 : Type} (j i0 : Nat) {x y : Str} {p1 p2 : Pos} {l : Option Addr} {ts : List T} (c : Ctx X C W k) (base : St0 → Env) (R : Nat → St0 → List T → Prop) (s0 : St0) (hij : i0 ≠ j) (hb : ∀ s, j < (base s).length) (hw : Wk ρ ((base s0).set j (some (tr (.lst l ts))))) (h0 : R 0 s0 ts) (hR : ∀ n s us, R n s us → us.length = ts.length)
    (step : ∀ q0 n s us u, R n s us → us[n]? = some u → (∀ d, u ≠ .fz d) ∧ ∀ q : Addr, Sxs X W body (((base s).set j (some (tr (.lst (some q0) (us.set n (u.ann q)))))).set i0 (some (adr q))) (turnS (fun ρ' => ∃ s' us', ρ' = (base s').set j (some (tr (.lst (some q0) us'))) ∧ R (n + 1) s' us') X W rest Φ))
    (done : ∀ q0 s us, R ts.length s us → Sxs X W rest ((base s).set j (some (tr (.lst (some q0) us)))) Φ)
    (hNj : X.N[j]? = some x := by rfl) (hvj : Vis X.env.scope x := by first | exact Or.inl rfl | exact Or.inr (Or.inl rfl) | exact Or.inr (Or.inr rfl)) (hd1 : (x == ("__debug__" : Str)) = false := by decide) (hd2 : (x == ("__classdict__" : Str)) = false := by decide)
    (hi : X.N[i0]? = some y := by rfl) (hx : Loc X.env.scope y := by first | exact Or.inl rfl | exact Or.inr rfl) (hf : X.fn y = true ∨ X.env.scope.names.lookup y = some .local := by first | exact .inl rfl | exact .inr rfl)
    (hs : ∀ z, foldedSetIterable (.Name x p2) X.env z = pure z := by intro _; rfl) : Sxs X W (.For (.Name y p1) (.Name x p2) body [] pos :: rest) ρ Φ := by
  have he : ∀ l s us, ((base s).set j (some (tr (.lst l us))))[j]? = some (some (tr (.lst l us))) := fun l s us => List.getElem?_set_self (hb s)
  refine sxs_weak hw (sxs_of (ps_for c.po c.calm (pi_list (pe_var hNj hvj hd1 hd2)) (pg_name c.nd hi hx hf) (pss_Sxs X W body) hs) fun σ F H M B F0 D ok q => ?_)
  obtain ⟨v, hσ, hv⟩ := ok.ok.at_ j _ (he l s0 ts)
  have hm0 : ∀ a o, (a, o) ∈ M j → H a = some o := fun a o z => (ok.ok.own j a o z).1
  obtain ⟨a, rfl, hva, ha⟩ : ∃ a, v = .ref a ∧ OT X.K F v (.lst (some a) ts) (M j) ∧ ∃ vs, H a = some (.lst vs) := by
    have hv' : OT X.K F v (.lst l ts) (M j) := hv
    generalize hM : M j = mj at hv' hm0
    cases hv' with
    | lst h1 h2 h3 => exact ⟨_, rfl, .lst (fun q e => Option.some.inj e) h2 h3, _, hm0 _ _ List.mem_cons_self⟩
  have okA := ok.reslot (he l s0 ts) hσ (S' := tr (.lst (some a) ts)) hva
  rw [List.set_set] at okA
  obtain ⟨vs0, hvs0⟩ := ha
  refine ⟨_, hσ, a, rfl, ⟨vs0, .of hvs0⟩, ?_⟩
  refine ⟨fun n m σ H => m = ts.length - n ∧ n ≤ ts.length ∧ ∃ s us F M, R n s us ∧ PInv X.K B F0 ((base s).set j (some (tr (.lst (some a) us)))) F σ H M, ⟨_, rfl, Nat.zero_le _, s0, ts, F, M, h0, okA⟩, ?_⟩
  rintro n m σ2 H2 ⟨rfl, hle, s, us, F2, M2, r2, ok2⟩
  obtain ⟨v2, hσ2, hv2⟩ := ok2.ok.at_ j _ (he (some a) s us)
  have hm2 : ∀ a o, (a, o) ∈ M2 j → H2 a = some o := fun a o z => (ok2.ok.own j a o z).1
  have hus := hR n s us r2
  have hv3 : OT X.K F2 v2 (.lst (some a) us) (M2 j) := hv2
  generalize hM2 : M2 j = mj at hv3 hm2
  cases hv3 with
  | @lst a2 _ vs _ mm g1 g2 g3 =>
    have ea : a2 = a := g1 a rfl
    subst ea
    have hH2 : H2 a2 = some (.lst vs) := hm2 _ _ List.mem_cons_self
    have hvl : vs.length = ts.length := g2.len.trans hus
    by_cases hlt : n < ts.length
    · refine .inr ⟨⟨vs, vs[n]'(by omega), .of hH2, List.getElem?_eq_getElem (by omega)⟩, fun σ' H' => n + 1 ≤ ts.length ∧ ∃ s us F M, R (n + 1) s us ∧ PInv X.K B F0 ((base s).set j (some (tr (.lst (some a2) us)))) F σ' H' M, fun σ' H' ⟨a1, a2⟩ => ⟨ts.length - (n + 1), by omega, rfl, a1, a2⟩, fun w H3 y => ?_⟩
      obtain ⟨rfl, hy⟩ := y
      have hw' := hy vs (.of hH2)
      obtain ⟨u, hu⟩ : ∃ u, us[n]? = some u := ⟨us[n]'(by omega), List.getElem?_eq_getElem (by omega)⟩
      obtain ⟨nf, st⟩ := step a2 n s us u r2 hu
      obtain ⟨w', mu, k1, k2, k3, _⟩ := g2.at hu
      rw [hw'] at k1; cases k1
      -- where the item stands
      have key : ∃ q, w = .ref q ∧ ∀ w2 mu2, vs[n]? = some w2 → OT X.K F2 w2 u mu2 → OT X.K F2 w2 (u.ann q) mu2 := by
        cases u with
        | fz d => exact absurd rfl (nf d)
        | lst l2 us2 =>
          cases k2 with
          | @lst q _ _ _ _ z1 z2 z3 => exact ⟨q, rfl, fun w2 mu2 e2 o2 => by
              rw [hw'] at e2; cases e2
              cases o2 with | lst y1 y2 y3 => exact .lst (fun q' e => Option.some.inj e) y2 y3⟩
        | tup l2 us2 =>
          cases k2 with
          | @tup q _ _ _ _ z1 z2 z3 => exact ⟨q, rfl, fun w2 mu2 e2 o2 => by
              rw [hw'] at e2; cases e2
              cases o2 with | tup y1 y2 y3 => exact .tup (fun q' e => Option.some.inj e) y2 y3⟩
      obtain ⟨q', rfl, ann⟩ := key
      have hann : OT X.K F2 (.ref a2) (.lst (some a2) (us.set n (u.ann q'))) (M2 j) := by
        rw [hM2]
        exact .lst (fun q e => Option.some.inj e) (OTs.same g2 hu ann) g3
      have ok3 := ok2.reslot (he (some a2) s us) hσ2 (S' := tr (.lst (some a2) (us.set n (u.ann q')))) hann
      rw [List.set_set] at ok3
      have ok4 : PInv X.K B F0 (((base s).set j (some (tr (.lst (some a2) (us.set n (u.ann q')))))).set i0 (some (adr q'))) F2 (σ2.set i0 (some (.ref q'))) H3 (upM M2 i0 []) := ok3.set ⟨rfl, rfl⟩ fun _ _ z => nomatch z
      refine ⟨_, _, F2, _, B, F2, st q', ok4.based, fun o ho => ?_⟩
      have again : ∀ ρ', (∃ ρ'', Wk ρ' ρ'' ∧ ∃ s' us', ρ'' = (base s').set j (some (tr (.lst (some a2) us'))) ∧ R (n + 1) s' us') → ∀ F σ H M, PInv X.K B F2 ρ' F σ H M → n + 1 ≤ ts.length ∧ ∃ s us F M, R (n + 1) s us ∧ PInv X.K B F0 ((base s).set j (some (tr (.lst (some a2) us)))) F σ H M := fun ρ' ⟨ρ'', w, s', us', e, h⟩ F σ H M ok5 => by
        subst e
        exact ⟨hlt, s', us', F, M, h, (ok4.rebase ok5).weak w⟩
      cases o with
      | next ρ' => exact again ρ' ho
      | cont ρ' => exact again ρ' ho
      | brk ρ' => exact fun F σ H M ok5 => ⟨ρ', Φ, F, M, B, F0, ho, ok4.rebase ok5, q⟩
      | ret S ρ' => exact fun v F σ H M ok5 => q _ ho v F σ H M (ok4.rebase ok5)
      | raise c ρ' => exact fun F σ H M ok5 => q _ ho F σ H M (ok4.rebase ok5)
    · have e : n = ts.length := by omega
      subst e
      exact .inl ⟨⟨vs, .of hH2, by omega⟩, ⟨_, Φ, F2, M2, B, F0, done a2 s us r2, ok2, q⟩⟩
/-- the same for x, y in a list of pairs whose first is data: y holds where the second stands, or its data -/
theorem sxs_forTrP {St0 : Type} (j i1 i0 : Nat) {x y1 y : Str} {p1 p2 p3 p4 : Pos} {kk : Nat} {l : Option Addr} {ts : List T} (c : Ctx X C W k) (base : St0 → Env) (R : Nat → St0 → List T → Prop) (s0 : St0) (hij : i0 ≠ j) (hb : ∀ s, j < (base s).length) (hw : Wk ρ ((base s0).set j (some (tr (.lst l ts))))) (h0 : R 0 s0 ts) (hR : ∀ n s us, R n s us → us.length = ts.length)
    (step : ∀ q0 n s us u, R n s us → us[n]? = some u → ∃ l1 d1 c1, u = .tup l1 [.fz d1, c1] ∧ ∀ q : Addr, Sxs X W body ((((base s).set j (some (tr (.lst (some q0) (us.set n (.tup l1 [.fz d1, c1.ann q])))))).set i1 (some (fz d1))).set i0 (some (slotOf c1 q))) (turnS (fun ρ' => ∃ s' us', ρ' = (base s').set j (some (tr (.lst (some q0) us'))) ∧ R (n + 1) s' us') X W rest Φ))
    (done : ∀ q0 s us, R ts.length s us → Sxs X W rest ((base s).set j (some (tr (.lst (some q0) us)))) Φ)
    (hNj : X.N[j]? = some x := by rfl) (hvj : Vis X.env.scope x := by first | exact Or.inl rfl | exact Or.inr (Or.inl rfl) | exact Or.inr (Or.inr rfl)) (hd1 : (x == ("__debug__" : Str)) = false := by decide) (hd2 : (x == ("__classdict__" : Str)) = false := by decide)
    (hi1 : X.N[i1]? = some y1 := by rfl) (hx1 : Loc X.env.scope y1 := by first | exact Or.inl rfl | exact Or.inr rfl) (hf1 : X.fn y1 = true ∨ X.env.scope.names.lookup y1 = some .local := by first | exact .inl rfl | exact .inr rfl)
    (hi : X.N[i0]? = some y := by rfl) (hx : Loc X.env.scope y := by first | exact Or.inl rfl | exact Or.inr rfl) (hf : X.fn y = true ∨ X.env.scope.names.lookup y = some .local := by first | exact .inl rfl | exact .inr rfl)
    (hs1 : (assignEach [.Name y1 p3, .Name y p1] X.env).map (·.2) = assign (.Name y1 p3) X.env :: (assignEach [.Name y p1] X.env).map (·.2) := by rfl) (hs2 : (assignEach [.Name y p1] X.env).map (·.2) = assign (.Name y p1) X.env :: (assignEach [] X.env).map (·.2) := by rfl)
    (hn1 : (assignEach [.Name y1 p3, .Name y p1] X.env).length = 2 := by rfl) (hst1 : (assignEach [.Name y1 p3, .Name y p1] X.env).findIdx? (·.1) = none := by rfl)
    (hs : ∀ z, foldedSetIterable (.Name x p2) X.env z = pure z := by intro _; rfl) : Sxs X W (.For (.Tuple [.Name y1 p3, .Name y p1] kk p4) (.Name x p2) body [] pos :: rest) ρ Φ := by
  have he : ∀ l s us, ((base s).set j (some (tr (.lst l us))))[j]? = some (some (tr (.lst l us))) := fun l s us => List.getElem?_set_self (hb s)
  refine sxs_weak hw (sxs_of (ps_for c.po c.calm (pi_list (pe_var hNj hvj hd1 hd2)) (pg_tup c.calm (pgs_cons (pg_name c.nd hi1 hx1 hf1) (pgs_cons (pg_name c.nd hi hx hf) pgs_nil hs2) hs1) hn1 hst1) (pss_Sxs X W body) hs) fun σ F H M B F0 D ok q => ?_)
  obtain ⟨v, hσ, hv⟩ := ok.ok.at_ j _ (he l s0 ts)
  have hm0 : ∀ a o, (a, o) ∈ M j → H a = some o := fun a o z => (ok.ok.own j a o z).1
  obtain ⟨a, rfl, hva, ha⟩ : ∃ a, v = .ref a ∧ OT X.K F v (.lst (some a) ts) (M j) ∧ ∃ vs, H a = some (.lst vs) := by
    have hv' : OT X.K F v (.lst l ts) (M j) := hv
    generalize hM : M j = mj at hv' hm0
    cases hv' with
    | lst h1 h2 h3 => exact ⟨_, rfl, .lst (fun q e => Option.some.inj e) h2 h3, _, hm0 _ _ List.mem_cons_self⟩
  have okA := ok.reslot (he l s0 ts) hσ (S' := tr (.lst (some a) ts)) hva
  rw [List.set_set] at okA
  obtain ⟨vs0, hvs0⟩ := ha
  refine ⟨_, hσ, a, rfl, ⟨vs0, .of hvs0⟩, ?_⟩
  refine ⟨fun n m σ H => m = ts.length - n ∧ n ≤ ts.length ∧ ∃ s us F M, R n s us ∧ PInv X.K B F0 ((base s).set j (some (tr (.lst (some a) us)))) F σ H M, ⟨_, rfl, Nat.zero_le _, s0, ts, F, M, h0, okA⟩, ?_⟩
  rintro n m σ2 H2 ⟨rfl, hle, s, us, F2, M2, r2, ok2⟩
  obtain ⟨v2, hσ2, hv2⟩ := ok2.ok.at_ j _ (he (some a) s us)
  have hm2 : ∀ a o, (a, o) ∈ M2 j → H2 a = some o := fun a o z => (ok2.ok.own j a o z).1
  have hus := hR n s us r2
  have hv3 : OT X.K F2 v2 (.lst (some a) us) (M2 j) := hv2
  generalize hM2 : M2 j = mj at hv3 hm2
  cases hv3 with
  | @lst a2 _ vs _ mm g1 g2 g3 =>
    have ea : a2 = a := g1 a rfl
    subst ea
    have hH2 : H2 a2 = some (.lst vs) := hm2 _ _ List.mem_cons_self
    have hvl : vs.length = ts.length := g2.len.trans hus
    by_cases hlt : n < ts.length
    · refine .inr ⟨⟨vs, vs[n]'(by omega), .of hH2, List.getElem?_eq_getElem (by omega)⟩, fun σ' H' => n + 1 ≤ ts.length ∧ ∃ s us F M, R (n + 1) s us ∧ PInv X.K B F0 ((base s).set j (some (tr (.lst (some a2) us)))) F σ' H' M, fun σ' H' ⟨a1, a2⟩ => ⟨ts.length - (n + 1), by omega, rfl, a1, a2⟩, fun w H3 y => ?_⟩
      obtain ⟨rfl, hy⟩ := y
      have hw' := hy vs (.of hH2)
      obtain ⟨u, hu⟩ : ∃ u, us[n]? = some u := ⟨us[n]'(by omega), List.getElem?_eq_getElem (by omega)⟩
      obtain ⟨l1, d1, c1, rfl, st⟩ := step a2 n s us u r2 hu
      obtain ⟨w', mu, k1, k2, k3, _⟩ := g2.at hu
      rw [hw'] at k1; cases k1
      -- where the pair and its second stand
      have key : ∃ qq w1 w2, w = .ref qq ∧ H3 qq = some (.tup [w1, w2]) ∧ Dq X.K F2 w1 d1 ∧ ∃ q, (slotOf c1 q).R X.K F2 w2 [] ∧ ∀ w4 mu2, vs[n]? = some w4 → OT X.K F2 w4 (.tup l1 [.fz d1, c1]) mu2 → (∀ x, x ∈ mu2 → x ∈ mm) → OT X.K F2 w4 (.tup l1 [.fz d1, c1.ann q]) mu2 := by
        cases k2 with
        | @tup qq _ ws _ m5 z1 z2 z3 =>
          have hqq : H3 qq = some (.tup ws) := hm2 _ _ (List.mem_cons_of_mem _ (k3 _ List.mem_cons_self))
          cases z2 with
          | @cons w1 _ m6 ws' _ m7 o1 o2 ap =>
            cases o1 with
            | fz hd1 =>
              cases o2 with
              | @cons w2 _ m8 ws'' _ m9 o3 o4 ap2 =>
                cases o4
                cases c1 with
                | fz d2 =>
                  cases o3 with
                  | fz hd2 => exact ⟨qq, w1, w2, rfl, hqq, hd1, 0, ⟨rfl, hd2⟩, fun w4 mu2 _ o _ => o⟩
                | lst l3 us3 =>
                  cases o3 with
                  | @lst q _ _ _ _ y1 y2 y3 => exact ⟨qq, w1, _, rfl, hqq, hd1, q, ⟨rfl, rfl⟩, fun w4 mu2 e o hs => by
                      rw [hw'] at e; cases e
                      cases o with
                      | @tup _ _ ws2 _ _ x1 x2 x3 =>
                        have ew : H3 qq = some (.tup ws2) := hm2 _ _ (List.mem_cons_of_mem _ (hs _ List.mem_cons_self))
                        rw [hqq] at ew; cases ew
                        refine .tup x1 ?_ x3
                        cases x2 with
                        | cons t1 t2 t3 =>
                          cases t2 with
                          | cons t4 t5 t6 => exact .cons t1 (.cons (by cases t4 with | lst r1 r2 r3 => exact .lst (fun q e => Option.some.inj e) r2 r3) t5 t6) t3⟩
                | tup l3 us3 =>
                  cases o3 with
                  | @tup q _ _ _ _ y1 y2 y3 => exact ⟨qq, w1, _, rfl, hqq, hd1, q, ⟨rfl, rfl⟩, fun w4 mu2 e o hs => by
                      rw [hw'] at e; cases e
                      cases o with
                      | @tup _ _ ws2 _ _ x1 x2 x3 =>
                        have ew : H3 qq = some (.tup ws2) := hm2 _ _ (List.mem_cons_of_mem _ (hs _ List.mem_cons_self))
                        rw [hqq] at ew; cases ew
                        refine .tup x1 ?_ x3
                        cases x2 with
                        | cons t1 t2 t3 =>
                          cases t2 with
                          | cons t4 t5 t6 => exact .cons t1 (.cons (by cases t4 with | tup r1 r2 r3 => exact .tup (fun q e => Option.some.inj e) r2 r3) t5 t6) t3⟩
      obtain ⟨qq, w1, w2, rfl, hqq, hd1, q', hq', ann⟩ := key
      have hann : OT X.K F2 (.ref a2) (.lst (some a2) (us.set n (.tup l1 [.fz d1, c1.ann q']))) (M2 j) := by
        rw [hM2]
        exact .lst (fun q e => Option.some.inj e) (OTs.same2 g2 hu ann) g3
      have ok3 := ok2.reslot (he (some a2) s us) hσ2 (S' := tr (.lst (some a2) (us.set n (.tup l1 [.fz d1, c1.ann q'])))) hann
      rw [List.set_set] at ok3
      have ok3' := PInv.setF (i := i1) ok3 hd1
      have ok4 : PInv X.K B F0 ((((base s).set j (some (tr (.lst (some a2) (us.set n (.tup l1 [.fz d1, c1.ann q'])))))).set i1 (some (fz d1))).set i0 (some (slotOf c1 q'))) F2 ((σ2.set i1 (some w1)).set i0 (some w2)) H3 (upM (upM M2 i1 []) i0 []) := ok3'.set hq' fun _ _ z => nomatch z
      refine ⟨qq, [w1, w2], rfl, .of hqq, rfl, w1, [w2], rfl, w2, [], rfl, rfl, _, _, F2, _, B, F2, st q', ok4.based, fun o ho => ?_⟩
      have again : ∀ ρ', (∃ ρ'', Wk ρ' ρ'' ∧ ∃ s' us', ρ'' = (base s').set j (some (tr (.lst (some a2) us'))) ∧ R (n + 1) s' us') → ∀ F σ H M, PInv X.K B F2 ρ' F σ H M → n + 1 ≤ ts.length ∧ ∃ s us F M, R (n + 1) s us ∧ PInv X.K B F0 ((base s).set j (some (tr (.lst (some a2) us)))) F σ H M := fun ρ' ⟨ρ'', w, s', us', e, h⟩ F σ H M ok5 => by
        subst e
        exact ⟨hlt, s', us', F, M, h, (ok4.rebase ok5).weak w⟩
      cases o with
      | next ρ' => exact again ρ' ho
      | cont ρ' => exact again ρ' ho
      | brk ρ' => exact fun F σ H M ok5 => ⟨ρ', Φ, F, M, B, F0, ho, ok4.rebase ok5, q⟩
      | ret S ρ' => exact fun v F σ H M ok5 => q _ ho v F σ H M (ok4.rebase ok5)
      | raise c ρ' => exact fun F σ H M ok5 => q _ ho F σ H M (ok4.rebase ok5)
    · have e : n = ts.length := by omega
      subst e
      exact .inl ⟨⟨vs, .of hH2, by omega⟩, ⟨_, Φ, F2, M2, B, F0, done a2 s us r2, ok2, q⟩⟩
end
end PV

/-! The pure-value layer: equality of data; what a name owns moves on; a list so many times. -/
namespace PV
open PySem PySem.Spec PyProof.Rows L2
/-! ### clean data: no bools, no dicts, so deep at most -/
def cl : Nat → PyData → Bool
  | _, .none => true
  | _, .int _ => true
  | _, .str x => PyData.strOk x
  | n + 1, .list xs => xs.all (cl n)
  | n + 1, .tuple xs => xs.all (cl n)
  | _, _ => false
theorem cl_shape : ∀ (n : Nat) (d : PyData), cl n d = true → d.canLay0 = true ∧ d.depth ≤ n
  | _, .none, _ => ⟨by simp [PyData.canLay0], by simp [PyData.depth]⟩
  | _, .int _, _ => ⟨by simp [PyData.canLay0], by simp [PyData.depth]⟩
  | _, .str x, h => by
    have h : PyData.strOk x = true := by simpa [cl] using h
    exact ⟨by simpa [PyData.canLay0] using h, by simp [PyData.depth]⟩
  | 0, .list _, h => by simp [cl] at h
  | 0, .tuple _, h => by simp [cl] at h
  | _, .bool _, h => by simp [cl] at h
  | _, .dict _, h => by simp [cl] at h
  | n + 1, .list xs, h => by
    have h : xs.all (cl n) = true := by simpa [cl] using h
    have key : ∀ xs : List PyData, xs.all (cl n) = true → PyData.canLayAll0 xs = true ∧ PyData.depthAll xs ≤ n := by
      intro xs
      induction xs with
      | nil => intro _; exact ⟨by simp [PyData.canLayAll0], by simp [PyData.depthAll]⟩
      | cons x xs ih =>
        intro h
        have h' := Bool.and_eq_true_iff.mp (by simpa using h : (cl n x && xs.all (cl n)) = true)
        obtain ⟨a1, a2⟩ := cl_shape n x h'.1
        obtain ⟨b1, b2⟩ := ih h'.2
        refine ⟨by simp [PyData.canLayAll0, a1, b1], ?_⟩
        rw [PyData.depthAll]
        exact Nat.max_le.mpr ⟨a2, b2⟩
    obtain ⟨a, b⟩ := key xs h
    exact ⟨by simpa [PyData.canLay0] using a, by rw [PyData.depth]; omega⟩
  | n + 1, .tuple xs, h => by
    have h : xs.all (cl n) = true := by simpa [cl] using h
    have key : ∀ xs : List PyData, xs.all (cl n) = true → PyData.canLayAll0 xs = true ∧ PyData.depthAll xs ≤ n := by
      intro xs
      induction xs with
      | nil => intro _; exact ⟨by simp [PyData.canLayAll0], by simp [PyData.depthAll]⟩
      | cons x xs ih =>
        intro h
        have h' := Bool.and_eq_true_iff.mp (by simpa using h : (cl n x && xs.all (cl n)) = true)
        obtain ⟨a1, a2⟩ := cl_shape n x h'.1
        obtain ⟨b1, b2⟩ := ih h'.2
        refine ⟨by simp [PyData.canLayAll0, a1, b1], ?_⟩
        rw [PyData.depthAll]
        exact Nat.max_le.mpr ⟨a2, b2⟩
    obtain ⟨a, b⟩ := key xs h
    exact ⟨by simpa [PyData.canLay0] using a, by rw [PyData.depth]; omega⟩
theorem cl_shaped {n : Nat} {d : PyData} (h : cl n d = true) (hn : n ≤ 64 := by decide) : SeqAt.shaped d = true := by
  obtain ⟨a, b⟩ := cl_shape n d h
  unfold SeqAt.shaped
  rw [a, Bool.true_and]
  exact decide_eq_true (Nat.le_trans b hn)
theorem cl_eqv : ∀ (n m : Nat) (d e : PyData), cl n d = true → cl m e = true → (PyData.eqv d e = true ↔ d = e) := by
  have keyL : ∀ (n m : Nat), (∀ (m : Nat) (d e : PyData), cl n d = true → cl m e = true → (PyData.eqv d e = true ↔ d = e)) → ∀ xs ys : List PyData, xs.all (cl n) = true → ys.all (cl m) = true → (PyData.eqvAll xs ys = true ↔ xs = ys) := by
    intro n m ih xs
    induction xs with
    | nil => intro ys _ _; cases ys <;> simp [PyData.eqvAll]
    | cons x xs ihx =>
      intro ys h h'
      cases ys with
      | nil => simp [PyData.eqvAll]
      | cons y ys =>
        have h1 := Bool.and_eq_true_iff.mp (by simpa using h : (cl n x && xs.all (cl n)) = true)
        have h2 := Bool.and_eq_true_iff.mp (by simpa using h' : (cl m y && ys.all (cl m)) = true)
        rw [PyData.eqvAll, Bool.and_eq_true_iff, ih m x y h1.1 h2.1, ihx ys h1.2 h2.2, List.cons.injEq]
  intro n
  induction n with
  | zero =>
    intro m d e h h'
    cases d <;> cases e <;> cases m <;> simp_all [cl, PyData.eqv]
  | succ n ih =>
    intro m d e h h'
    cases d with
    | list xs =>
      cases e with
      | list ys =>
        cases m with
        | zero => simp [cl] at h'
        | succ m =>
          have a : xs.all (cl n) = true := by simpa [cl] using h
          have b : ys.all (cl m) = true := by simpa [cl] using h'
          rw [PyData.eqv, keyL n m ih xs ys a b, PyData.list.injEq]
      | _ => cases m <;> simp_all [cl, PyData.eqv]
    | tuple xs =>
      cases e with
      | tuple ys =>
        cases m with
        | zero => simp [cl] at h'
        | succ m =>
          have a : xs.all (cl n) = true := by simpa [cl] using h
          have b : ys.all (cl m) = true := by simpa [cl] using h'
          rw [PyData.eqv, keyL n m ih xs ys a b, PyData.tuple.injEq]
      | _ => cases m <;> simp_all [cl, PyData.eqv]
    | _ => cases e <;> cases m <;> simp_all [cl, PyData.eqv]
theorem cl_dec {n m : Nat} {d e : PyData} (h : cl n d = true) (h' : cl m e = true) [Decidable (d = e)] : PyData.eqv d e = decide (d = e) := by
  rw [Bool.eq_iff_iff, cl_eqv n m d e h h', decide_eq_true_iff]
theorem cl_same {n : Nat} {d e : PyData} (h : cl n d = true) (q : d = e) : PyData.eqv d e = true := (cl_eqv n n d e h (q ▸ h)).mpr q

/-! ### a new list, so many times -/
section
variable {X : Cx} {W : Wc} {ρ : Env} {e a b d : Expr} {es : List Expr} {pos p : Pos} {C : Ec → Addr} {k : Nat} {rest : List Stmt} {Φ : Out → Prop} {π : List Nat} {t : T} {l : Option Addr} {ts : List T}
theorem DqAll_rep {K : PySem.W.Frag} {F : Hp} {vs : List V} {ds : List PyData} (h : DqAll K F vs ds) : ∀ n : Nat, DqAll K F (List.replicate n vs).flatten (List.replicate n ds).flatten
  | 0 => .nil
  | n + 1 => by
    rw [List.replicate_succ, List.replicate_succ, List.flatten_cons, List.flatten_cons]
    exact DqAll_app h (DqAll_rep h n)
theorem fr_rep {ds : List PyData} {n : Int} (ha : Fr X W ρ a ds) (hb : Ev X W ρ b (.int n)) (c : -(2 ^ 62) ≤ n ∧ n < 2 ^ 62 ∧ ds.length * n.toNat ≤ sizeLine) : Fr X W ρ (.BinOp a .Mult b pos) (List.replicate n.toNat ds).flatten :=
  fun pins s σ F H M Q I ok h => (pe_op op_rep ha.pe hb.pe).run pins s σ H Q I ⟨F, M, ok, fun q vs F1 H1 x1 n1 n2 h1 d1 => rd (ok.ext x1) fun y F2 H2 x2 dy => by
    refine ⟨q, n, vs, rfl, dq_int dy, x2.h _ _ h1, by omega, by omega, by rw [DqAll_len d1]; exact c.2.2, fun p hp => ?_⟩
    have x3 := x1.trans x2
    have hF : F2 p = none := x2.sub.free hp
    exact h p _ F2 _ (x3.trans (.beside x2.sub hp)) (x3.h.free hp) hF upd_same (dqAll_mono x2.f _ _ (DqAll_rep d1 _))⟩

/-! ### moves -/
/-- e's tree: parts of it are what the name j owned, the rest is new -/
def FrM (X : Cx) (W : Wc) (ρ : Env) (e : Expr) (j : Nat) (t : T) : Prop :=
  ∀ (pins : List (Addr × Obj)) (s : Shared) (σ : St) (F H : Hp) (M : Nat → Mini) (Q : VK), Inv X pins σ H s → EOk X.K ρ F σ H M →
    (∀ v F' H' m, Ext F H F' H' → OT X.K F' v t m → (∀ a o, (a, o) ∈ m → (a, o) ∈ M j ∨ (H' a = some o ∧ F' a = none ∧ H a = none)) → Q v H') →
    wpAny (model X.prog X.w) X.A (eval e X.env) (EP X pins σ Q) X.xe s
def tFrM (X : Cx) (ρ : Env) (j : Nat) (t : T) : TE := fun σ H Q => ∃ F M, EOk X.K ρ F σ H M ∧ (∀ v F' H' m, Ext F H F' H' → OT X.K F' v t m → (∀ a o, (a, o) ∈ m → (a, o) ∈ M j ∨ (H' a = some o ∧ F' a = none ∧ H a = none)) → Q v H')
def FrMA (X : Cx) (W : Wc) (ρ : Env) (es : List Expr) (j : Nat) (ts : List T) : Prop :=
  ∀ (pos : Pos) (pins : List (Addr × Obj)) (s : Shared) (σ : St) (F H : Hp) (M : Nat → Mini) (Q : List V → Hp → Prop), Inv X pins σ H s → EOk X.K ρ F σ H M →
    (∀ vs F' H' m, Ext F H F' H' → OTs X.K F' vs ts m → (∀ a o, (a, o) ∈ m → (a, o) ∈ M j ∨ (H' a = some o ∧ F' a = none ∧ H a = none)) → Q vs H') →
    wpAny (model X.prog X.w) X.A (spliced (backTo pos (starEach es X.env))) (AP X pins σ Q) X.xe s
def tFrMA (X : Cx) (ρ : Env) (j : Nat) (ts : List T) : TA := fun σ H Q => ∃ F M, EOk X.K ρ F σ H M ∧ (∀ vs F' H' m, Ext F H F' H' → OTs X.K F' vs ts m → (∀ a o, (a, o) ∈ m → (a, o) ∈ M j ∨ (H' a = some o ∧ F' a = none ∧ H a = none)) → Q vs H')
theorem FrM.pe {j : Nat} (h : FrM X W ρ e j t) : PE X e (tFrM X ρ j t) := ⟨fun pins s σ H Q I ⟨F, M, ok, h1⟩ => h pins s σ F H M Q I ok h1⟩
theorem FrMA.pa {j : Nat} {ts : List T} (h : FrMA X W ρ es j ts) : PA X es (tFrMA X ρ j ts) := ⟨fun pos pins s σ H Q I ⟨F, M, ok, h1⟩ => h pos pins s σ F H M Q I ok h1⟩
theorem FrT.m {j : Nat} (h : FrT X W ρ e t) : FrM X W ρ e j t := fun pins s σ F H M Q I ok q => h pins s σ F H M Q I ok fun v F' H' m x o hm => q v F' H' m x o fun a o z => .inr (hm a o z)
theorem FrTA.m {j : Nat} {ts : List T} (h : FrTA X W ρ es ts) : FrMA X W ρ es j ts := fun pos pins s σ F H M Q I ok q => h pos pins s σ F H M Q I ok fun v F' H' m x o hm => q v F' H' m x o fun a o z => .inr (hm a o z)
/-- the part itself moves -/
theorem nd_m {j : Nat} {u : T} (h : Nd X W ρ e j π) (hj : ρ[j]? = some (some (tr t))) (hπ : t.at? π = some u) : FrM X W ρ e j u := fun pins s σ F H M Q I ok q => h pins s σ F H M Q I ok fun r v F' H' er x nv => by
  obtain ⟨r', er', z⟩ := ok.at_ j _ hj
  rw [er] at er'; cases er'
  obtain ⟨w, m1, n1, o1, sub⟩ := OT.get z (fun a o z => (ok.own j a o z).1) hπ
  have ev := NodeV.inj (n1.same x.h) nv
  subst ev
  exact q _ F' H' m1 x (OT.mono x.f _ _ _ o1) fun a o z => .inl (sub _ z)
theorem ma_cons {j : Nat} {u : T} (ha : FrT X W ρ e u) (hr : FrMA X W ρ es j ts) (hs : starEach (e :: es) X.env = (false, eval e X.env) :: starEach es X.env := by rfl) : FrMA X W ρ (e :: es) j (u :: ts) :=
  fun pos pins s σ F H M Q I ok h => (pa_cons ha.pe hr.pa hs).run pos pins s σ H Q I ⟨F, M, ok, fun v F1 H1 m1 x1 h1 q1 => ⟨F1, M, ok.ext x1, fun vs F2 H2 m2 x2 h2 q2 => by
    have k1 := ot_keep x2 fun a o z => ⟨(q1 a o z).1, (q1 a o z).2.1⟩
    refine h (v :: vs) F2 H2 (m1 ++ m2) (x1.trans x2) (.cons (OT.mono x2.f _ _ _ h1) h2 fun b o o' z1 z2 => ?_) fun b o hm => ?_
    · have y := (q1 b o z1)
      rcases q2 b o' z2 with z | z
      · have w := (ok.own j b o' z).1
        rw [y.2.2] at w; cases w
      · have w := y.1
        rw [z.2.2] at w; cases w
    · rcases List.mem_append.mp hm with z | z
      · exact .inr ⟨(k1 b o z).1, (k1 b o z).2, (q1 b o z).2.2⟩
      · rcases q2 b o z with y | y
        · exact .inl y
        · exact .inr ⟨y.1, y.2.1, x1.h.free y.2.2⟩⟩⟩
theorem ma_one {j : Nat} {u : T} (ha : FrM X W ρ e j u) (hr : FrTA X W ρ es ts) (hs : starEach (e :: es) X.env = (false, eval e X.env) :: starEach es X.env := by rfl) : FrMA X W ρ (e :: es) j (u :: ts) :=
  fun pos pins s σ F H M Q I ok h => (pa_cons ha.pe hr.pa hs).run pos pins s σ H Q I ⟨F, M, ok, fun v F1 H1 m1 x1 h1 q1 => ⟨F1, M, ok.ext x1, fun vs F2 H2 m2 x2 h2 q2 => by
    refine h (v :: vs) F2 H2 (m1 ++ m2) (x1.trans x2) (.cons (OT.mono x2.f _ _ _ h1) h2 fun b o o' z1 z2 => ?_) fun b o hm => ?_
    · have y := (q2 b o' z2).2.2
      rcases q1 b o z1 with z | z
      · have w := x1.h _ _ (ok.own j b o z).1
        rw [y] at w; cases w
      · have w := z.1
        rw [y] at w; cases w
    · rcases List.mem_append.mp hm with z | z
      · rcases q1 b o z with y | y
        · exact .inl y
        · have k1 := ot_keep (m := [(b, o)]) x2 (fun a o' z => by
            have e : (a, o') = (b, o) := by simpa using z
            cases e; exact ⟨y.1, y.2.1⟩) b o (by simp)
          exact .inr ⟨k1.1, k1.2, y.2.2⟩
      · obtain ⟨y1, y2, y3⟩ := q2 b o z
        exact .inr ⟨y1, y2, x1.h.free y3⟩⟩⟩
theorem m_tup {j kk : Nat} (ha : FrMA X W ρ es j ts) (c : ts.length ≤ sizeLine := by exact PV.small (by simp)) : FrM X W ρ (.Tuple es kk pos) j (.tup none ts) :=
  fun pins s σ F H M Q I ok h => (pe_tup ha.pa).run pins s σ H Q I ⟨F, M, ok, fun vs F1 H1 m x1 o1 q1 => ⟨by rw [o1.len]; exact c, fun l hl => by
    have y := Ext.beside (o := .tup vs) x1.sub hl
    have nl : ∀ o, (l, o) ∉ m := fun o z => by
      rcases q1 l o z with w | w
      · have := x1.h _ _ (ok.own j l o w).1
        rw [hl] at this; cases this
      · rw [hl] at w; cases w.1
    refine h _ F1 _ ((l, .tup vs) :: m) (x1.trans y) (.tup (fun _ z => nomatch z) o1 nl) fun b o hm => ?_
    rcases List.mem_cons.mp hm with z | z
    · cases z
      exact .inr ⟨upd_same, x1.sub.free hl, x1.h.free hl⟩
    · rcases q1 b o z with w | w
      · exact .inl w
      · exact .inr ⟨y.h _ _ w.1, w.2⟩⟩⟩
/-- e[:b] of a list that moves -/
theorem m_cut {j : Nat} {hi : Option Expr} {u : Option Int} {p2 : Pos} (hn : Nd X W ρ e j π) (hj : ρ[j]? = some (some (tr t))) (hπ : t.at? π = some (.lst l ts)) (hu : EvO X W ρ hi u) : FrM X W ρ (.Subscript e (.Slice none hi none p2) pos) j (.lst none (ts.take (HT.sIx ts.length ts.length u))) :=
  fun pins s σ F H M Q I ok h => (pe_slice sl_list hn.pe (EvO.po (o := none) (W := W) (by exact trivial)) hu.po).run pins s σ H Q I ⟨F, M, ok, fun r v F1 H1 er x1 nv => ⟨F1, M, ok.ext x1, fun F2 H2 x2 => ⟨F2, M, (ok.ext x1).ext x2, fun F3 H3 x3 => by
    obtain ⟨r', er', z⟩ := ok.at_ j _ hj
    rw [er] at er'; cases er'
    obtain ⟨w, m1, n1, o1, sub⟩ := OT.get z (fun a o z => (ok.own j a o z).1) hπ
    have ev := NodeV.inj (n1.same x1.h) nv
    subst ev
    cases o1 with
    | @lst a' _ vs _ m2 z1 z2 z3 =>
      have hH : H a' = some (.lst vs) := (ok.own j _ _ (sub _ List.mem_cons_self)).1
      have x := (x1.trans x2).trans x3
      refine ⟨a', vs, rfl, .of (x.h _ _ hH), fun q hq => ?_⟩
      have y := Ext.beside (o := .lst (cutV vs none u)) x3.sub hq
      have w : cutV vs none u = vs.take (HT.sIx ts.length ts.length u) := by
        unfold cutV
        rw [z2.len]
        simp [HT.sIx]
      obtain ⟨m', q1, q2⟩ := OTs.take (HT.sIx ts.length ts.length u) z2
      rw [w] at y ⊢
      refine h _ F3 _ ((q, .lst (vs.take (HT.sIx ts.length ts.length u))) :: m') (x.trans y) (.lst (fun _ z => nomatch z) (OTs.mono x.f _ _ _ q1) fun o zz => ?_) fun b o hm => ?_
      · have e := x.h _ _ (ok.own j _ _ (sub _ (List.mem_cons_of_mem _ (q2 _ zz)))).1
        rw [hq] at e; cases e
      · rcases List.mem_cons.mp hm with zz | zz
        · cases zz
          exact .inr ⟨upd_same, x3.sub.free hq, x.h.free hq⟩
        · exact .inl (sub _ (List.mem_cons_of_mem _ (q2 _ zz)))⟩⟩⟩
/-- what the name j owned is forgotten -/
theorem PInv.drop {K : PySem.W.Frag} {B F0 F H : Hp} {σ : St} {M : Nat → Mini} (j : Nat) (x : PInv K B F0 ρ F σ H M) : PInv K B F0 (ρ.set j none) F σ H (upM M j []) where
  ok := by
    refine ⟨by rw [List.length_set]; exact x.ok.len, x.ok.sub, fun i S h => ?_, fun i a o h => ?_, fun i k a o o' h h' => ?_⟩
    · by_cases hi : i = j
      · subst hi
        by_cases hl : i < ρ.length
        · rw [List.getElem?_set_self hl] at h; cases h
        · rw [List.getElem?_eq_none (by simpa using hl)] at h; cases h
      · rw [List.getElem?_set_ne (Ne.symm hi)] at h
        obtain ⟨v, h1, h2⟩ := x.ok.at_ i S h
        exact ⟨v, h1, by rw [upM_ne hi]; exact h2⟩
    · by_cases hi : i = j
      · subst hi; rw [upM_same] at h; cases h
      · rw [upM_ne hi] at h; exact x.ok.own i a o h
    · by_cases hi : i = j
      · subst hi; rw [upM_same] at h; cases h
      · by_cases hk : k = j
        · subst hk; rw [upM_same] at h'; cases h'
        · rw [upM_ne hi] at h; rw [upM_ne hk] at h'; exact x.ok.apart i k a o o' h h'
  base := x.base
  f0 := x.f0
  nb := x.nb
  mb := fun i a o h => by
    by_cases hi : i = j
    · subst hi; rw [upM_same] at h; cases h
    · rw [upM_ne hi] at h; exact x.mb i a o h
/-- what a move brings, seen from the others -/
theorem PInv.moved {K : PySem.W.Frag} {B F0 F H F' H' : Hp} {σ : St} {M : Nat → Mini} {j : Nat} {m : Mini} (x : PInv K B F0 ρ F σ H M) (y : Ext F H F' H') (hm : ∀ a o, (a, o) ∈ m → (a, o) ∈ M j ∨ (H' a = some o ∧ F' a = none ∧ H a = none)) :
    ∀ a o, (a, o) ∈ m → H' a = some o ∧ F' a = none ∧ B a = none ∧ ∀ (i : Nat) (o' : HO), i ≠ j → (a, o') ∉ M i := fun a o z => by
  rcases hm a o z with w | w
  · have k1 := (x.ok.ext y).own j a o w
    exact ⟨k1.1, k1.2, x.mb j a o w, fun i o' hi h => hi (x.ok.apart i j a o' o h w)⟩
  · refine ⟨w.1, w.2.1, x.base.free w.2.2, fun i o' hi h => ?_⟩
    have := (x.ok.own i a o' h).1
    rw [w.2.2] at this; cases this
/-- x = e, e made of what j owned -/
theorem sxs_setM (i j : Nat) {x : Str} {pos' : Pos} (he : FrM X W ρ e j t) (k : Sxs X W rest ((ρ.set j none).set i (some (tr t))) Φ) (hN : X.N.Nodup)
    (hi : X.N[i]? = some x := by rfl) (hx : Loc X.env.scope x := by first | exact Or.inl rfl | exact Or.inr rfl) (hs : swapsWith e (some (.Name x pos')) pos.line X.env = pure false := by rfl)
    (hf : X.fn x = true ∨ X.env.scope.names.lookup x = some .local := by first | exact .inl rfl | exact .inr rfl) : Sxs X W (.Assign [.Name x pos'] e pos :: rest) ρ Φ :=
  sxs_of (ps_set hN hi hx he.pe hs hf) fun σ F H M B F0 D ok q => ⟨F, M, ok.ok, fun v F' H' m x1 hv hm => by
    have hm' := ok.moved x1 hm
    have ok' := (ok.ext x1).drop j
    refine ⟨_, Φ, F', _, B, F0, k, ok'.set hv fun a o z => ⟨(hm' a o z).1, (hm' a o z).2.1, (hm' a o z).2.2.1, fun i' o' hi' h => ?_⟩, q⟩
    by_cases hj : i' = j
    · subst hj; rw [upM_same] at h; cases h
    · rw [upM_ne hj] at h; exact (hm' a o z).2.2.2 i' o' hj h⟩
/-- e.append(d), d made of what i owned -/
theorem sxs_appendM (j i : Nat) {pa : Pos} {u : T} (hij : j ≠ i) (hj : ρ[j]? = some (some (tr t))) (hn : Nd X W ρ e j π) (hπ : t.at? π = some (.lst l ts)) (hd : FrM X W ρ d i u) (c : ts.length < sizeLine) (k : Sxs X W rest ((ρ.set i none).set j (some (tr (t.put π (.lst l (ts ++ [u])))))) Φ)
    (hp : ∀ t u, PE X e t → PE X d u → PE X (.Call (.Attribute e "append" pa) [d] [] p) (tBM X.K "list" rAppend t (tCons u tNil)) := by exact fun t u h h' => pe_bm PySem.F.plainAttrs_list PySem.F.slot_list_append PySem.F.type_list_append mt_append h (pa_cons h' pa_nil))
    (hs : swapsWith (.Call (.Attribute e "append" pa) [d] [] p) none pos.line X.env = pure false := by rfl) : Sxs X W (.Expr (.Call (.Attribute e "append" pa) [d] [] p) pos :: rest) ρ Φ :=
  sxs_of (ps_expr (hp _ _ hn.pe hd.pe) hs) fun σ F H M B F0 D ok q => ⟨F, M, ok.ok, fun r v F1 H1 er x1 nv => by
    obtain ⟨a, vs, m1, rfl, ha, o1, _, _, _⟩ := ok.mutT hj hπ er x1 nv
    refine ⟨ty_lst ha, F1, M, (ok.ext x1).ok, fun w F2 H2 m x2 hw hm => ?_⟩
    have x := x1.trans x2
    have hmv := (ok.ext x1).moved x2 hm
    have hσj : σ[j]? = some (some r) := er
    -- the tree at j: what it owns, and the list within
    obtain ⟨r', er', z0⟩ := ok.ok.at_ j _ hj
    rw [er] at er'; cases er'
    have hmj : ∀ a o, (a, o) ∈ M j → H a = some o := fun a o z => (ok.ok.own j a o z).1
    have z' : OT X.K F2 r t (M j) := OT.mono x.f _ _ _ z0
    obtain ⟨a', vs', mm, k1, k2, k3, k4, k5, k6, g7⟩ := OT.mut z' hπ
    have ev := NodeV.inj (((k6 H hmj).same x1.h)) nv
    cases ev
    have nm : ∀ b o, (b, o) ∈ m → ∀ o', (b, o') ∉ M j := fun b o hb o' hz => (hmv b o hb).2.2.2 j o' hij hz
    obtain ⟨m', s1, s2⟩ := g7 l (vs' ++ [w]) (ts ++ [u]) (mm ++ m) k2 (OTs.app k3 (OTs.one hw) fun b o o' z1 z2 => nm b o' z2 o (k4 _ z1)) fun b o hb => by
      rcases List.mem_append.mp hb with z | z
      · exact ⟨fun e => by subst e; exact k5 _ z, .inl z⟩
      · exact ⟨fun e => by subst e; exact nm _ o z _ k1, .inr (nm b o z)⟩
    have okd := ((ok.ext x1).ext x2).drop i
    have hj' : (ρ.set i none)[j]? = some (some (tr t)) := by rw [List.getElem?_set_ne (Ne.symm hij)]; exact hj
    have k1' : (a, HO.lst vs') ∈ upM M i [] j := by rw [upM_ne hij]; exact k1
    have ok' := okd.change (S' := tr (t.put π (.lst l (ts ++ [u])))) (m' := m') (o' := .lst (vs' ++ [w])) hj' er k1' s1 fun b o hb => by
      have other : ∀ (j' : Nat) (u' : HO), j' ≠ j → (b, u') ∈ upM M i [] j' → j' ≠ i ∧ (b, u') ∈ M j' := fun j' u' hne hz => by
        by_cases hi : j' = i
        · subst hi; rw [upM_same] at hz; cases hz
        · rw [upM_ne hi] at hz; exact ⟨hi, hz⟩
      rcases s2 b o hb with ⟨y1, y2⟩ | ⟨rfl, rfl⟩ | y
      · have w1 := ((ok.ext x1).ext x2).ok.own j b o y2
        exact ⟨by rw [upd_ne y1]; exact w1.1, w1.2, ok.mb j b o y2, fun j' u' hne hz => hne (ok.ok.apart j' j b u' o (other j' u' hne hz).2 y2)⟩
      · have w1 := ((ok.ext x1).ext x2).ok.own j _ _ k1
        exact ⟨upd_same, w1.2, ok.mb j _ _ k1, fun j' u' hne hz => hne (ok.ok.apart j' j _ u' _ (other j' u' hne hz).2 k1)⟩
      · rcases List.mem_append.mp y with y' | y'
        · have y2 := k4 _ y'
          have nb : b ≠ a := fun e => by subst e; exact k5 _ y'
          have w1 := ((ok.ext x1).ext x2).ok.own j b o y2
          exact ⟨by rw [upd_ne nb]; exact w1.1, w1.2, ok.mb j b o y2, fun j' u' hne hz => hne (ok.ok.apart j' j b u' o (other j' u' hne hz).2 y2)⟩
        · have nb : b ≠ a := fun e => by subst e; exact nm _ o y' _ k1
          obtain ⟨w1, w2, w3, w4⟩ := hmv b o y'
          exact ⟨by rw [upd_ne nb]; exact w1, w2, w3, fun j' u' hne hz => w4 j' u' (other j' u' hne hz).1 (other j' u' hne hz).2⟩
    have ha2 : H2 a = some (.lst vs') := x.h _ _ (hmj _ _ k1)
    exact ⟨a, vs', w, rfl, rfl, ha2, by rw [k3.len]; exact c, _, Φ, F2, _, B, F0, k, ok', q⟩⟩
end
end PV

/-! The pure-value layer: small helps for the walks. -/
namespace PV
open PySem PySem.Spec PyProof.Rows L2
theorem szl {n : Nat} (h : n ≤ 10000) : n ≤ sizeLine := Nat.le_trans h (by decide)
theorem szl' {n : Nat} (h : n < 10000) : n < sizeLine := Nat.lt_of_lt_of_le h (by decide)
theorem nums_of {n i : Nat} {d : PyData} (h : (nums 0 n)[i]? = some d) : i < n ∧ d = .int i := by
  have hl := (List.getElem?_eq_some_iff.mp h).1
  rw [nums_length] at hl
  rw [nums_get n 0 i hl] at h
  exact ⟨hl, by have := Option.some.inj h; rw [← this]; simp⟩
theorem atI_map {α : Type} (f : α → PyData) {xs : List α} {n : Nat} {d : α} (h : xs[n]? = some d) : atI (xs.map f) (n : Int) = some (f d) := atI_nat (by rw [List.getElem?_map, h]; rfl)
theorem enums_of {ds : List PyData} {i : Nat} {d : PyData} (h : (enums 0 ds)[i]? = some d) : ∃ e, ds[i]? = some e ∧ d = .tuple [.int i, e] := by
  have hl := (List.getElem?_eq_some_iff.mp h).1
  rw [enums_length] at hl
  have h1 : ds[i]? = some ds[i] := List.getElem?_eq_getElem hl
  refine ⟨_, h1, ?_⟩
  rw [enums_get ds 0 i _ h1] at h
  have := Option.some.inj h
  rw [← this]; simp
theorem rep_one {α : Type} (f : α → PyData) (a : α) : ∀ n : Nat, (List.replicate n [f a]).flatten = (List.replicate n a).map f
  | 0 => rfl
  | n + 1 => by rw [List.replicate_succ, List.flatten_cons, rep_one f a n, List.replicate_succ, List.map_cons]; rfl
theorem cut_map {α : Type} (f : α → PyData) (xs : List α) (lo hi : Option Int) : cutD (xs.map f) lo hi = ((xs.drop (HT.sIx xs.length 0 lo)).take (HT.sIx xs.length xs.length hi - HT.sIx xs.length 0 lo)).map f := by
  unfold cutD
  rw [List.length_map, ← List.map_drop, ← List.map_take]
theorem ixN_nat {n k : Nat} (h : k < n) : ixN n (k : Int) = some k := by
  unfold ixN
  rw [if_pos (by omega), if_pos (by omega)]
  rfl
theorem wkl_nil : WkL [] [] := trivial
theorem wkl_none {x : Option Slot} {a b : Env} (h : WkL a b) : WkL (x :: a) (none :: b) := by cases x <;> exact h
theorem wkl_some {x : Option Slot} {S : Slot} {a b : Env} (e : x = some S) (h : WkL a b) : WkL (x :: a) (some S :: b) := by
  cases x with
  | none => cases e
  | some S' => exact ⟨e, h⟩
theorem brw_trD {t : T} {d : PyData} (h : t.er = d) : Brw (tr t) (fz d) := h ▸ brw_tr
theorem at_set {l : Option Addr} {us : List T} {n : Nat} {v : T} {π : List Nat} (h : n < us.length) : (T.lst l (us.set n v)).at? (n :: π) = v.at? π := by
  simp only [T.at?, List.getElem?_set_self h]
theorem put_set {l : Option Addr} {us : List T} {n : Nat} {v u : T} {π : List Nat} (h : n < us.length) : (T.lst l (us.set n v)).put (n :: π) u = .lst l (us.set n (v.put π u)) := by
  simp only [T.put, List.getElem?_set_self h, List.set_set]
theorem er_fz (d : PyData) : (T.fz d).er = d := by rw [T.er]
theorem er_lst (l : Option Addr) (ts : List T) : (T.lst l ts).er = .list (ts.map T.er) := by rw [T.er, ers_map]
theorem er_tup (l : Option Addr) (ts : List T) : (T.tup l ts).er = .tuple (ts.map T.er) := by rw [T.er, ers_map]
theorem map_fz (ds : List PyData) : (ds.map T.fz).map T.er = ds := by
  rw [List.map_map]
  refine (List.map_congr_left fun d _ => ?_).trans (List.map_id ds)
  exact er_fz d
theorem map_er {α : Type} (f : α → T) (g : α → PyData) (h : ∀ a, (f a).er = g a) (xs : List α) : (xs.map f).map T.er = xs.map g := by
  rw [List.map_map]
  exact List.map_congr_left fun a _ => h a
theorem lst_er {α : Type} (l : Option Addr) (f : α → T) (g : α → PyData) (h : ∀ a, (f a).er = g a) (xs : List α) : (T.lst l (xs.map f)).er = .list (xs.map g) := by
  rw [er_lst, map_er f g h]
theorem map_strs_inj {xs ys : List Str} (h : xs.map PyData.str = ys.map PyData.str) : xs = ys := by
  induction xs generalizing ys with
  | nil => cases ys with | nil => rfl | cons => cases h
  | cons x xs ih =>
    cases ys with
    | nil => cases h
    | cons y ys =>
      rw [List.map_cons, List.map_cons, List.cons.injEq, PyData.str.injEq] at h
      rw [h.1, ih h.2]
theorem scs_all {α : Type} (f : α → T) (h : ∀ a, (f a).sc = true) : ∀ xs : List α, T.sc.T.scs (xs.map f) = true
  | [] => by simp [T.sc.T.scs]
  | x :: xs => by rw [List.map_cons, T.sc.T.scs, h x, scs_all f h xs]; rfl
theorem sc_lst {l : Option Addr} {ts : List T} (h : T.sc.T.scs ts = true) : (T.lst l ts).sc = true := by rw [T.sc]; exact h
theorem sc_tup {l : Option Addr} {ts : List T} (h : T.sc.T.scs ts = true) : (T.tup l ts).sc = true := by rw [T.sc]; exact h
theorem scs_nil : T.sc.T.scs [] = true := by simp [T.sc.T.scs]
theorem scs_cons {t : T} {ts : List T} (h : t.sc = true) (h2 : T.sc.T.scs ts = true) : T.sc.T.scs (t :: ts) = true := by rw [T.sc.T.scs, h, h2]; rfl
theorem sc_fz {d : PyData} (h : scalar d = true := by rfl) : (T.fz d).sc = true := by rw [T.sc]; exact h
section
variable {X : Cx} {W : Wc} {ρ : Env} {a b : Expr} {pos p : Pos}
/-- x is not None, x holds where something stands -/
theorem cm_notN_adr (i : Nat) {x : Str} {pos : Pos} {l : Addr} {j pos'} (hd : ρ[i]? = some (some (adr l))) (hN : X.N[i]? = some x := by rfl) (hv : Vis X.env.scope x := by first | exact Or.inl rfl | exact Or.inr (Or.inl rfl) | exact Or.inr (Or.inr rfl))
    (h1 : (x == ("__debug__" : Str)) = false := by decide) (h2 : (x == ("__classdict__" : Str)) = false := by decide) : Cm X W ρ .IsNot (.Name x pos) (.Constant .none j pos') true :=
  fun pins s σ F H M Q I ok h => (pc_notN (pe_var hN hv h1 h2)).run pins s σ H Q I (by
    obtain ⟨v, e, _, q⟩ := ok.at_ i _ hd
    subst q
    exact ⟨_, e, h F H (.refl ok.sub)⟩)
theorem cm_isN_adr (i : Nat) {x : Str} {pos : Pos} {l : Addr} {j pos'} (hd : ρ[i]? = some (some (adr l))) (hN : X.N[i]? = some x := by rfl) (hv : Vis X.env.scope x := by first | exact Or.inl rfl | exact Or.inr (Or.inl rfl) | exact Or.inr (Or.inr rfl))
    (h1 : (x == ("__debug__" : Str)) = false := by decide) (h2 : (x == ("__classdict__" : Str)) = false := by decide) : Cm X W ρ .Is (.Name x pos) (.Constant .none j pos') false :=
  fun pins s σ F H M Q I ok h => (pc_isN (pe_var hN hv h1 h2)).run pins s σ H Q I (by
    obtain ⟨v, e, _, q⟩ := ok.at_ i _ hd
    subst q
    exact ⟨_, e, h F H (.refl ok.sub)⟩)
/-- or of two tests, known by what they tell -/
theorem tst_or2 {p q r : Bool} (h : Tst X W ρ a p) (h2 : p = false → Tst X W ρ b q) (e : r = (p || q)) : Tst X W ρ (.BoolOp .Or [a, b] pos) r := by
  rw [e]
  exact Tws.tst (tw_or h fun z => tw_or1 (h2 z))
theorem tst_and2 {p q r : Bool} (h : Tst X W ρ a p) (h2 : p = true → Tst X W ρ b q) (e : r = (p && q)) : Tst X W ρ (.BoolOp .And [a, b] pos) r := by
  rw [e]
  exact Tws.tst (tw_and h fun z => tw_and1 (h2 z))
theorem Tst.to {p q : Bool} (h : Tst X W ρ a p) (e : p = q) : Tst X W ρ a q := e ▸ h
theorem Rv.to {d e : PyData} (h : Rv X W ρ a d) (q : d = e) : Rv X W ρ a e := q ▸ h
theorem evo {i : Int} (h : Ev X W ρ a (.int i)) : EvO X W ρ (some a) (some i) := h
theorem evo_n : EvO X W ρ none none := trivial
theorem Fr.to {ds es : List PyData} (h : Fr X W ρ a ds) (q : ds = es) : Fr X W ρ a es := q ▸ h
theorem FrT.to {t u : T} (h : FrT X W ρ a t) (q : t = u) : FrT X W ρ a u := q ▸ h
theorem Bw.to {ds es : List PyData} (h : Bw X W ρ a ds) (q : ds = es) : Bw X W ρ a es := q ▸ h
theorem Ev.to {d e : PyData} (h : Ev X W ρ a d) (q : d = e) : Ev X W ρ a e := q ▸ h
end
end PV

/-! The pure-value layer: the end of a law. -/
namespace PV
open PySem PySem.Spec PyProof.Rows L2
/-- a def as a datum -/
def dd (x : Str) (st : Stmt) : He.DefD := ⟨(x, none), x, x, defArgs st, defBody st, defScope st, [], []⟩
section
variable {K : PySem.W.Frag} {mg : Str → Option Value} {h : Heap} {fa : List He.Fa} {fn : List He.DefD}
theorem df_of (X : K.In h) (G : h.Ns mainGlobals mg) (c : He.SaysD fa fn K) (i j : Nat) {x : Str} {st : Stmt} (h1 : fn[i]? = some (dd x st) := by rfl) (h2 : fa[j]? = some (.glo x) := by rfl) : Df K mg x st := by
  obtain ⟨fd, F⟩ := c.def_ i h1
  obtain ⟨oc, od, dV, kV, doc, pm, an, cdv, ct, osl, e, lk, hc, hD, hK⟩ := F.ex
  have hd : dV = .none := by
    rcases hD with ⟨_, z⟩ | ⟨z, _⟩
    · exact z
    · exact absurd rfl z
  subst hd
  exact ⟨_, fd, ⟨⟨oc, od, kV, doc, pm, an, cdv, ct, osl, e, lk, hc⟩, F.kp⟩, He.glo_ok X G (c.fact j h2)⟩
/-- the names of built-ins that the module leaves alone -/
def bltFa : List He.Fa := [.free "len", .free "range", .free "max", .free "min", .free "enumerate", .free "zip", .free "isinstance", .free "list", .free "dict", .free "int", .free "str", .free "bool", .free "tuple", .free "sum", .free "any", .free "all", .free "sorted"]
theorem blt_of {rest : List He.Fa} (X : K.In h) (G : h.Ns mainGlobals mg) (c : He.SaysD (bltFa ++ rest) fn K) : Blt mg where
  len := He.free_ok X G (c.fact 0 rfl)
  range := He.free_ok X G (c.fact 1 rfl)
  max := He.free_ok X G (c.fact 2 rfl)
  min := He.free_ok X G (c.fact 3 rfl)
  enumerate := He.free_ok X G (c.fact 4 rfl)
  zip := He.free_ok X G (c.fact 5 rfl)
  isinstance := He.free_ok X G (c.fact 6 rfl)
  list := He.free_ok X G (c.fact 7 rfl)
  dict := He.free_ok X G (c.fact 8 rfl)
  int := He.free_ok X G (c.fact 9 rfl)
  str := He.free_ok X G (c.fact 10 rfl)
  bool := He.free_ok X G (c.fact 11 rfl)
  tuple := He.free_ok X G (c.fact 12 rfl)
  sum := He.free_ok X G (c.fact 13 rfl)
  any := He.free_ok X G (c.fact 14 rfl)
  all := He.free_ok X G (c.fact 15 rfl)
  sorted := He.free_ok X G (c.fact 16 rfl)
end
/-- what a law promises: a list of ints comes in, True comes out -/
abbrev spLaw (K : PySem.W.Frag) (C : Ec → Addr) (pre : List Int → Prop) : Sp := spP K C 1 (fun ns : List Int => [kn (ns.map PyData.int)]) pre (fun _ => is (.ok (fz (.bool true))))
theorem spLaw_ok {K : PySem.W.Frag} {C : Ec → Addr} {pre : List Int → Prop} {H : Hp} {a : Addr} {ns : List Int} (hp : pre ns) (hS : SqL K H a (ns.map V.int)) : spLaw K C pre [.ref a] H (fun v _ => v = .bl true) fun _ _ _ => False :=
  ⟨ns, H, .refl _, rfl, .cons ⟨rfl, a, _, rfl, hS, ints_dqAll ns⟩ .nil, hp, fun S e v F' H' m x hv _ => by
    have e : S = fz (.bool true) := Except.ok.inj e
    subst e
    exact dq_bl hv.2, fun c e => nomatch e⟩
theorem law_end {l : PySem.W.OpenLaw} {most k : Nat} {q : Program} {loose : List Str} {XP : (Str → Option Value) → Heap → Prop} {YP : World → Heap → Prop} {d : DefRec} {pre : List Int → Prop} (e1 : l.most = some most) (e2 : most ≤ sizeLine) (e3 : d.params.defaults = []) (e4 : Room k callerA) (e5 : d.name = "law") (hp : ∀ ns : List Int, ns.length ≤ most → pre ns)
    (F : ∀ (w : World) (mg : Str → Option Value) (h : Heap), YP w h → h.Ns mainGlobals mg → ∃ (K : PySem.W.Frag) (C : Ec → Addr), K.In h ∧ ∀ base : Heap, CalleeP l.prog w K mg base k "law" ["script"] (spLaw K C pre)) : PySem.W.WalkO q loose XP YP l.row.toRowW d [] (fun f vs => PySem.call f vs) := by
  refine Att.attach_call e1 e3 fun w s0 s1 mg mb fa o pm cd doc a vs ns G Y ho hd hcd gl obj hints len hg => ?_
  obtain ⟨K, C, KX, L⟩ := F w mg _ Y G.T.g
  rw [e5] at gl
  obtain ⟨f0, fd0, ok0, g0, -, -, b0, oc0, od0, sl0, lk0⟩ := L default
  obtain rfl : fa = f0 := by
    have z := g0.symm.trans gl
    exact (Value.ref.inj (Option.some.inj z)).symm
  refine law_call (fd := fd0) KX G.T.g G.T.b G.T.builtins G.T.nolimit hg obj hints (Nat.le_trans len e2) e4 (CX := L2.CX l.prog w) (sp := spLaw K C pre) (fun base hb hn => ?_) (fun s v => b0 s [v] rfl)
    (fun H _ hS => spLaw_ok (hp ns len) hS) fun H e s' z => ?_
  · obtain ⟨f1, fd1, ok1, g1, -, -, -, oc1, od1, sl1, lk1⟩ := L base
    obtain rfl : fa = f1 := by
      have z := g1.symm.trans gl
      exact (Value.ref.inj (Option.some.inj z)).symm
    rw [lk0] at lk1
    cases lk1
    exact ok1
  · obtain ⟨_, _, _, _, _, _, _, _, _, _, _, _, z⟩ := z
    exact z
end PV

/-! Exchanges: the walk. -/
namespace Tl
open PySem PySem.Spec PyProof.Rows L2 PV
def top (i : Nat) : Stmt := PySem.Challenge.pw_trueleaf_k72_exchanges.main.body.getD i (.Pass ⟨0, 0, 0, 0⟩)
/-! ### data -/
abbrev Page := Int × List Str
def pgD (p : Page) : PyData := .tuple [.int p.1, .list (p.2.map .str)]
def pgT (p : Page) : T := .tup none [.fz (.int p.1), .lst none ((p.2.map .str).map .fz)]
def opD : Option Page → PyData
  | none => .none
  | some p => pgD p
def opT : Option Page → T
  | none => .fz .none
  | some p => pgT p
abbrev Exch := Nat × Option Page
def exD (x : Exch) : PyData := .tuple [.int x.1, opD x.2]
def exT (x : Exch) : T := .tup none [.fz (.int x.1), opT x.2]
theorem pgT_er (p : Page) : (pgT p).er = pgD p := by
  rw [pgT, pgD, er_tup, List.map_cons, List.map_cons, List.map_nil, er_fz, er_lst, map_fz]
theorem opT_er (p : Option Page) : (opT p).er = opD p := by
  cases p with
  | none => exact er_fz _
  | some p => exact pgT_er p
theorem exT_er (x : Exch) : (exT x).er = exD x := by
  rw [exT, exD, er_tup, List.map_cons, List.map_cons, List.map_nil, er_fz, opT_er]
def okP (p : Page) : Prop := ∀ r ∈ p.2, PyData.strOk r = true
theorem pg_cl {p : Page} (h : okP p) : cl 2 (pgD p) = true := by
  simp only [pgD, cl, List.all_cons, List.all_nil, Bool.and_true, Bool.true_and, List.all_map, List.all_eq_true]
  exact fun r hr => by simpa [cl] using h r hr
theorem rows_cl {p : Page} (h : okP p) : cl 1 (.list (p.2.map PyData.str)) = true := by
  simp only [cl, List.all_map, List.all_eq_true]
  exact fun r hr => by simpa [cl] using h r hr
theorem pgD_inj {p q : Page} (h : pgD p = pgD q) : p = q := by
  unfold pgD at h
  rw [PyData.tuple.injEq, List.cons.injEq, List.cons.injEq, PyData.int.injEq, PyData.list.injEq] at h
  exact Prod.ext h.1 (map_strs_inj h.2.1)
theorem pg_eqv {p q : Page} (hp : okP p) (hq : okP q) : PyData.eqv (pgD p) (pgD q) = decide (p = q) := by
  rw [Bool.eq_iff_iff, cl_eqv 2 2 _ _ (pg_cl hp) (pg_cl hq), decide_eq_true_iff]
  exact ⟨pgD_inj, congrArg _⟩
/-! ### the functions -/
def betw (old new : List Page) (k : Nat) : Option Exch := match new[k]? with
  | none => some (k, none)
  | some p => if old[k]? = some p then none else some (k, some p)
def due (old new : List Page) : List Exch := (List.range (max old.length new.length)).filterMap (betw old new)
def file1 (s : List Page) (x : Exch) : List Page := match x.2 with
  | none => s.take x.1
  | some p => if x.1 < s.length then s.set x.1 p else s ++ [p]
def okPs (ps : List Page) : Prop := ps.length ≤ 1000 ∧ ∀ p ∈ ps, okP p
section
variable {P : Program} {w : World} {K : PySem.W.Frag} {mg : Str → Option Value} {base : Heap} {C : Ec → Addr}

abbrev s_page_copy : Stmt := top 1
theorem sc_page_copy : FnScope ["page"] ["page"] (defScope s_page_copy) := ⟨rfl, rfl, rfl, by decide +kernel, rfl, by decide +kernel, by decide +kernel⟩
abbrev C_page_copy (P : Program) (w : World) (K : PySem.W.Frag) (mg : Str → Option Value) (base : Heap) (C : Ec → Addr) := Callee P w K mg base 1 "page_copy" (spP K C 1 (fun p : Page => [fz (pgD p)]) (fun _ => True) (fun p => is (.ok (tr (pgT p)))))
theorem ok_page_copy (Bt : Blt mg) (D : Df K mg "page_copy" s_page_copy) : C_page_copy P w K mg base C := by
  refine callee_of D sc_page_copy (fun _ _ _ _ _ _ us hl => match us, hl with | [_], _ => rfl) (fun f cdv A outer s H E c i _ => ?_)
  show Sxs _ _ _ [some (fz (pgD i))] _
  refine sxs_retT (t_tup (ta_cons (Ev.t (ev_ixT (ev_var 0 rfl) ev_int rfl)) (ta_cons (Fr.t (fr_list Bt (Bv.bw (Ev.bv (ev_ixT (ev_var 0 rfl) ev_int rfl))))) ta_nil))) ?_
  rfl
theorem betw_ge {old new : List Page} {k : Nat} (h : new.length ≤ k) : betw old new k = some (k, none) := by
  unfold betw; rw [List.getElem?_eq_none h]
theorem betw_lt {old new : List Page} {k : Nat} {p : Page} (h : new[k]? = some p) : betw old new k = if old[k]? = some p then none else some (k, some p) := by
  unfold betw; rw [h]
theorem fm_succ {f : Nat → Option Exch} (n : Nat) : (List.range (n + 1)).filterMap f = (List.range n).filterMap f ++ (match f n with | none => [] | some x => [x]) := by
  rw [List.range_succ, List.filterMap_append]
  congr 1
  cases h : f n <;> simp [h]
theorem fm_le {f : Nat → Option Exch} (n : Nat) : ((List.range n).filterMap f).length ≤ n := by
  have := List.length_filterMap_le f (List.range n)
  simpa using this
abbrev s_filings_between : Stmt := top 2
theorem sc_filings_between : FnScope ["old", "new", "found", "k"] ["old", "new"] (defScope s_filings_between) := ⟨rfl, rfl, rfl, by decide +kernel, rfl, by decide +kernel, by decide +kernel⟩
abbrev C_betw (P : Program) (w : World) (K : PySem.W.Frag) (mg : Str → Option Value) (base : Heap) (C : Ec → Addr) := Callee P w K mg base 2 "filings_between" (spP K C 2 (fun i : List Page × List Page => [fz (.list (i.1.map pgD)), fz (.list (i.2.map pgD))]) (fun i => okPs i.1 ∧ okPs i.2) (fun i => is (.ok (tr (.lst none ((due i.1 i.2).map exT))))))
theorem ok_filings_between (Bt : Blt mg) (G_page_copy : C_page_copy P w K mg base C) (D : Df K mg "filings_between" s_filings_between) : C_betw P w K mg base C := by
  refine callee_of D sc_filings_between (fun _ _ _ _ _ _ us hl => match us, hl with | [_, _], _ => rfl) (fun f cdv A outer s H E c i hp => ?_)
  obtain ⟨old, new⟩ := i
  obtain ⟨⟨ho, ho2⟩, hn, hn2⟩ := hp
  simp only at ho ho2 hn hn2
  have hm : max old.length new.length ≤ 1000 := Nat.max_le.mpr ⟨ho, hn⟩
  show Sxs _ _ _ [some (fz (.list (old.map pgD))), some (fz (.list (new.map pgD))), none, none] _
  refine sxs_setT 2 (t_lst ta_nil) ?_ c.nd
  refine sxs_for c (fun i ρ => ρ = [some (fz (.list (old.map pgD))), some (fz (.list (new.map pgD))), some (tr (.lst none (((List.range i).filterMap (betw old new)).map exT))), none])
    (iv_range1 Bt (ev_max c Bt (ev_len Bt (Bv.bw (Ev.bv (ev_var 0 rfl)))) (ev_len Bt (Bv.bw (Ev.bv (ev_var 1 rfl))))) (by simp only [List.length_map]; omega) (by simp only [List.length_map]; omega)) (tg_name 3 c.nd) rfl (fun i d ρ hd hP => ⟨⟨(fun h => nomatch h), rfl⟩, ?_⟩) (fun ρ hP => ?_)
  · subst hP
    obtain ⟨hi, rfl⟩ := nums_of hd
    simp only [List.length_map] at hi
    have hi' : i < max old.length new.length := by omega
    have hlen : (((List.range i).filterMap (betw old new)).map exT).length < sizeLine := szl' (by rw [List.length_map]; have := fm_le (f := betw old new) i; omega)
    show Sxs _ _ _ [some (fz (.list (old.map pgD))), some (fz (.list (new.map pgD))), some (tr (.lst none (((List.range i).filterMap (betw old new)).map exT))), some (fz (.int i))] _
    refine sxs_if (tst_cm (cm_ge (ev_var 3 rfl) (ev_len Bt (Bv.bw (Ev.bv (ev_var 1 rfl)))))) (fun h => ?_) (fun h => ?_)
    · have h1 : new.length ≤ i := by simpa using h
      refine sxs_appendN 2 rfl (nd_var 2 rfl) rfl (t_tup (ta_cons (Ev.t (ev_var 3 rfl)) (ta_cons (Ev.t ev_non) ta_nil))) hlen ?_
      refine sxs_nil ?_
      refine sxs_nil ⟨_, Wk.of ?_, rfl⟩
      rw [fm_succ, betw_ge h1, List.map_append]
      exact wkl_some rfl (wkl_some rfl (wkl_some rfl (wkl_none wkl_nil)))
    · have h1 : i < new.length := by simpa using h
      obtain ⟨p, hp⟩ : ∃ p, new[i]? = some p := ⟨_, List.getElem?_eq_getElem h1⟩
      have hpo : okP p := hn2 p (List.mem_of_getElem? hp)
      refine sxs_if (t := !decide (old[i]? = some p)) ?_ (fun h => ?_) (fun h => ?_)
      · by_cases h2 : i < old.length
        · obtain ⟨q, hq⟩ : ∃ q, old[i]? = some q := ⟨_, List.getElem?_eq_getElem h2⟩
          have hqo : okP q := ho2 q (List.mem_of_getElem? hq)
          refine tst_or2 (tst_cm (cm_ge (ev_var 3 rfl) (ev_len Bt (Bv.bw (Ev.bv (ev_var 0 rfl)))))) (fun h => tst_cm (cm_neD c (Ev.rv (ev_ixL (Bv.bw (Ev.bv (ev_var 0 rfl))) (ev_var 3 rfl) (atI_map pgD hq))) (Ev.rv (ev_ixL (Bv.bw (Ev.bv (ev_var 1 rfl))) (ev_var 3 rfl) (atI_map pgD hp))) (cl_shaped (pg_cl hqo)) (cl_shaped (pg_cl hpo)))) ?_
          rw [pg_eqv hqo hpo, hq]
          simp [Nat.not_le.mpr h2]
        · have e : decide ((((old.map pgD).length : Nat) : Int) ≤ (i : Int)) = true := by simpa using Nat.le_of_not_lt h2
          refine tst_or2 (q := false) ((tst_cm (cm_ge (ev_var 3 rfl) (ev_len Bt (Bv.bw (Ev.bv (ev_var 0 rfl)))))).to e) (fun h => nomatch h) ?_
          rw [List.getElem?_eq_none (Nat.le_of_not_lt h2)]
          rfl
      · have hne : old[i]? ≠ some p := by simpa using h
        refine sxs_appendN 2 rfl (nd_var 2 rfl) rfl (t_tup (ta_cons (Ev.t (ev_var 3 rfl)) (ta_cons (t_call c G_page_copy p trivial (fun _ h => h) (as_cons (Ev.s (ev_ixL (Bv.bw (Ev.bv (ev_var 1 rfl))) (ev_var 3 rfl) (atI_map pgD hp))) as_nil)) ta_nil))) hlen ?_
        refine sxs_nil ?_
        refine sxs_nil ?_
        refine sxs_nil ⟨_, Wk.of ?_, rfl⟩
        rw [fm_succ, betw_lt hp, if_neg hne, List.map_append]
        exact wkl_some rfl (wkl_some rfl (wkl_some rfl (wkl_none wkl_nil)))
      · have he : old[i]? = some p := by simpa using h
        refine sxs_nil ?_
        refine sxs_nil ?_
        refine sxs_nil ⟨_, Wk.of ?_, rfl⟩
        rw [fm_succ, betw_lt hp, if_pos he, List.append_nil]
        exact wkl_some rfl (wkl_some rfl (wkl_some rfl (wkl_none wkl_nil)))
  · subst hP
    rw [nums_length]
    have e : (max ((old.map pgD).length : Int) ((new.map pgD).length : Int)).toNat = max old.length new.length := by simp only [List.length_map]; omega
    rw [e]
    refine sxs_retO 2 rfl ?_
    rfl

theorem exD_tup (x : Exch) : tgFit true [4, 2] (exD x) := ⟨fun _ => ⟨_, rfl⟩, rfl⟩
theorem file1_len (s : List Page) (x : Exch) : (file1 s x).length ≤ s.length + 1 := by
  obtain ⟨k, p⟩ := x
  cases p with
  | none => show (s.take k).length ≤ _; rw [List.length_take]; omega
  | some p =>
    show (if k < s.length then s.set k p else s ++ [p]).length ≤ _
    split
    · rw [List.length_set]; omega
    · rw [List.length_append]; simp
abbrev s_filed : Stmt := top 3
theorem sc_filed : FnScope ["pages", "filings", "page", "found", "k"] ["pages", "filings"] (defScope s_filed) := ⟨rfl, rfl, rfl, by decide +kernel, rfl, by decide +kernel, by decide +kernel⟩
abbrev C_filed (P : Program) (w : World) (K : PySem.W.Frag) (mg : Str → Option Value) (base : Heap) (C : Ec → Addr) := Callee P w K mg base 2 "filed" (spP K C 2 (fun i : List Page × List Exch => [fz (.list (i.1.map pgD)), fz (.list (i.2.map exD))]) (fun i => i.1.length ≤ 1000 ∧ i.2.length ≤ 1000) (fun i => is (.ok (tr (.lst none ((i.2.foldl file1 i.1).map pgT))))))
theorem ok_filed (Bt : Blt mg) (G_page_copy : C_page_copy P w K mg base C) (D : Df K mg "filed" s_filed) : C_filed P w K mg base C := by
  refine callee_of D sc_filed (fun _ _ _ _ _ _ us hl => match us, hl with | [_, _], _ => rfl) (fun f cdv A outer s H E c i hp => ?_)
  obtain ⟨pages, fs⟩ := i
  obtain ⟨hp1, hp2⟩ := hp
  simp only at hp1 hp2
  show Sxs _ _ _ [some (fz (.list (pages.map pgD))), some (fz (.list (fs.map exD))), none, none, none] _
  refine sxs_setLcT (ts := pages.map pgT) 3 [("page", 2)] c (iv_list (ev_var 0 rfl)) (fun s H Cc cl fp => have cb := c.blk s H Cc cl fp; tg_name 2 cb.nd) (szl (by rw [List.length_map]; omega)) (by simp) (fun i d r hd hr => ?_) ?_
  · rw [List.getElem?_map] at hd hr
    obtain ⟨p, hp, rfl⟩ := Option.map_eq_some_iff.mp hd
    rw [hp] at hr
    obtain rfl := Option.some.inj hr
    refine ⟨⟨(fun h => nomatch h), rfl⟩, fun s H Cc cl fp => ?_⟩
    exact t_call (c.blk s H Cc cl fp) G_page_copy p trivial (fun _ h => h) (as_cons (Ev.s (ev_var 2 rfl)) as_nil)
  · refine sxs_forL exD fs (fun s => [some (fz (.list (pages.map pgD))), some (fz (.list (fs.map exD))), none, some (tr (.lst none (s.map pgT))), none]) (fun s ys => ys.foldl file1 s = fs.foldl file1 pages ∧ s.length + ys.length ≤ 2000) pages c (iv_list (ev_var 1 rfl)) (tg_tup c.calm (tgs_cons 4 c.nd (tgs_cons 2 c.nd tgs_nil))) (Wk.refl _) ⟨rfl, by omega⟩ (fun s x ys hR => ⟨exD_tup x, ?_⟩) (fun s hR => ?_)
    · obtain ⟨hR, hl⟩ := hR
      rw [List.length_cons] at hl
      have hfl := file1_len s x
      obtain ⟨k, p⟩ := x
      show Sxs _ _ _ [some (fz (.list (pages.map pgD))), some (fz (.list (fs.map exD))), some (fz (opD p)), some (tr (.lst none (s.map pgT))), some (fz (.int k))] _
      cases p with
      | none =>
        refine sxs_if (tst_cm (cm_isN (ev_var 2 rfl))) (fun h => ?_) (fun h => nomatch h)
        refine sxs_setM 3 3 (m_cut (nd_var 3 rfl) rfl rfl (evo (ev_var 4 rfl))) ?_ c.nd
        refine sxs_nil ?_
        refine sxs_nil ⟨_, Wk.of ?_, s.take k, rfl, hR, ?_⟩
        · refine wkl_some rfl (wkl_some rfl (wkl_none (wkl_some ?_ (wkl_none wkl_nil))))
          rw [HT.sIx_nat, List.length_map, ← List.map_take]
          show some (tr (.lst none ((s.take (min k s.length)).map pgT))) = _
          rw [← List.take_eq_take_min]
        · have : (s.take k).length ≤ s.length + 1 := hfl
          omega
      | some p =>
        refine sxs_if (tst_cm (cm_isN (ev_var 2 rfl))) (fun h => nomatch h) (fun _ => ?_)
        by_cases hk : k < s.length
        · refine sxs_if (t := true) ((tst_cm (cm_lt (ev_var 4 rfl) (ev_lenR Bt (ds := s.map pgD) ((rv_tr 3 rfl).to (lst_er none pgT pgD pgT_er s))))).to (by simpa using hk)) (fun h => ?_) (fun h => nomatch h)
          refine sxs_setItemN (n := k) 3 rfl (nd_var 3 rfl) rfl (t_call c G_page_copy p trivial (fun _ h => h) (as_cons (Ev.s (ev_var 2 rfl)) as_nil)) (ev_var 4 rfl) (by unfold ixN; rw [List.length_map]; rw [if_pos (by omega), if_pos (by omega)]; rfl) ?_
          refine sxs_nil ?_
          refine sxs_nil ?_
          refine sxs_nil ⟨_, Wk.of ?_, s.set k p, rfl, ?_, ?_⟩
          · refine wkl_some rfl (wkl_some rfl (wkl_none (wkl_some ?_ (wkl_none wkl_nil))))
            rw [List.map_set]
            rfl
          · rw [← hR, List.foldl_cons]
            show _ = ys.foldl file1 (if k < s.length then s.set k p else s ++ [p])
            rw [if_pos hk]
          · rw [List.length_set]; omega
        · refine sxs_if (t := false) ((tst_cm (cm_lt (ev_var 4 rfl) (ev_lenR Bt (ds := s.map pgD) ((rv_tr 3 rfl).to (lst_er none pgT pgD pgT_er s))))).to (by simpa using hk)) (fun h => nomatch h) (fun h => ?_)
          refine sxs_appendN 3 rfl (nd_var 3 rfl) rfl (t_call c G_page_copy p trivial (fun _ h => h) (as_cons (Ev.s (ev_var 2 rfl)) as_nil)) (szl' (by rw [List.length_map]; omega)) ?_
          refine sxs_nil ?_
          refine sxs_nil ?_
          refine sxs_nil ⟨_, Wk.of ?_, s ++ [p], rfl, ?_, ?_⟩
          · refine wkl_some rfl (wkl_some rfl (wkl_none (wkl_some ?_ (wkl_none wkl_nil))))
            rw [List.map_append]
            rfl
          · rw [← hR, List.foldl_cons]
            show _ = ys.foldl file1 (if k < s.length then s.set k p else s ++ [p])
            rw [if_neg hk]
          · simp only [List.length_append, List.length_cons, List.length_nil]; omega
    · refine sxs_retO 3 rfl ?_
      show _ = _
      rw [← hR.1]
      rfl
end
end Tl

/-! Exchanges: the law's own functions. -/
namespace Tl
open PySem PySem.Spec PyProof.Rows L2 PV
def mixed (c : Int) : Int := (c + 1) * 1357913579135791357 % 2305843009213693951
def cellAt (ns : List Int) (k : Nat) : Int := ns.getD k 0
def nines (n : Nat) : Int := (PySem.intText? (("0" : Str) ++ Txt.mul ("9" : Str) (n : Int))).getD 0
theorem nines_ok : ∀ n : Nat, n < 61 → PySem.intText? (("0" : Str) ++ Txt.mul ("9" : Str) (n : Int)) = some (nines n) := by
  intro n hn
  have h : ∀ n : Fin 61, (PySem.intText? (("0" : Str) ++ Txt.mul ("9" : Str) ((n.val : Nat) : Int))).isSome = true := by decide +kernel
  have h1 := h ⟨n, hn⟩
  unfold nines
  cases e : PySem.intText? (("0" : Str) ++ Txt.mul ("9" : Str) (n : Int)) with
  | none => rw [e] at h1; cases h1
  | some v => rfl
def first (c : Int) : Int := if c % 4 = 0 then c / 4 % 3 else if c % 4 = 1 then max 0 (nines (c / 4 % 61).toNat - c / 4 / 61 % 13) else if c % 4 = 2 then c / 4 % (10 ^ 60 + 1) else 95 + c / 4 % 6
def rowC (i : Int) : Nat := if i = 0 then 97 else if i = 1 then 98 else if i = 2 then 32 else 48
def rowN : Nat → Int → Str → Str
  | 0, _, t => t
  | n + 1, m, t => rowN n (m / 6) (t ++ ⟨#[rowC (m / 6 % 4)]⟩)
def row (m : Int) : Str := rowN (m % 6).toNat m ⟨#[]⟩
theorem rowC_at (i : Int) (h0 : 0 ≤ i) (h : i < 4) : atI (("ab 0" : Str)).cps.toList i = some (rowC i) := by
  have : i = 0 ∨ i = 1 ∨ i = 2 ∨ i = 3 := by omega
  rcases this with rfl | rfl | rfl | rfl <;> decide
section
variable {P : Program} {w : World} {K : PySem.W.Frag} {mg : Str → Option Value} {base : Heap} {C : Ec → Addr}

abbrev s_cell_at : Stmt := top 5
theorem sc_cell_at : FnScope ["script", "k"] ["script", "k"] (defScope s_cell_at) := ⟨rfl, rfl, rfl, by decide +kernel, rfl, by decide +kernel, by decide +kernel⟩
abbrev C_cell_at (P : Program) (w : World) (K : PySem.W.Frag) (mg : Str → Option Value) (base : Heap) (C : Ec → Addr) := Callee P w K mg base 1 "_law_cell_at" (spP K C 2 (fun (i : List Int × Nat) => [kn (i.1.map .int), fz (.int i.2)]) (fun _ => True) (fun i => is (.ok (fz (.int (cellAt i.1 i.2))))))
theorem ok_cell_at (Bt : Blt mg) (D : Df K mg "_law_cell_at" s_cell_at) : C_cell_at P w K mg base C := by
  refine callee_of D sc_cell_at (fun _ _ _ _ _ _ us hl => match us, hl with | [_, _], _ => rfl) (fun f cdv A outer s H E c i _ => ?_)
  obtain ⟨ns, k⟩ := i
  show Sxs _ _ _ [some (kn (ns.map .int)), some (fz (.int k))] _
  refine sxs_if (tst_cm (cm_lt (ev_var 1 rfl) (ev_len Bt (bw_var 0 rfl)))) (fun h => ?_) (fun h => ?_)
  · have h1 : k < ns.length := by simpa using h
    refine sxs_ret (ev_ixL (d := .int (cellAt ns k)) (bw_var 0 rfl) (ev_var 1 rfl) (atI_nat ?_)) rfl
    simp [cellAt, h1]
  · have h1 : ¬ k < ns.length := by simpa using h
    refine sxs_nil ?_
    refine sxs_ret ev_int ?_
    show _ = _
    have e : cellAt ns k = 0 := by simp [cellAt, List.getD, List.getElem?_eq_none (Nat.le_of_not_lt h1)]
    rw [e]
abbrev s_whole : Stmt := top 6
theorem sc_whole : FnScope ["found"] ["found"] (defScope s_whole) := ⟨rfl, rfl, rfl, by decide +kernel, rfl, by decide +kernel, by decide +kernel⟩
abbrev C_whole (P : Program) (w : World) (K : PySem.W.Frag) (mg : Str → Option Value) (base : Heap) (C : Ec → Addr) := Callee P w K mg base 1 "_law_whole" (spP K C 1 (fun i : Int => [fz (.int i)]) (fun _ => True) (fun i => is (.ok (fz (.bool true)))))
theorem ok_whole (Bt : Blt mg) (D : Df K mg "_law_whole" s_whole) : C_whole P w K mg base C := by
  refine callee_of D sc_whole (fun _ _ _ _ _ _ us hl => match us, hl with | [_], _ => rfl) (fun f cdv A outer s H E c i _ => ?_)
  show Sxs _ _ _ [some (fz (.int i))] _
  refine sxs_ret (ev_and (ev_isi (T0 := "int") (r := true) Bt (ev_var 0 rfl) (by decide +kernel) Bt.int (by show kitB "int" "int" = _; decide +kernel)) fun h => (ev_bo1 (ev_not (ev_isi (T0 := "bool") (r := false) Bt (ev_var 0 rfl) (by decide +kernel) Bt.bool (by show kitB "int" "bool" = _; decide +kernel))))) ?_
  rfl
abbrev s_mixed : Stmt := top 7
theorem sc_mixed : FnScope ["cell"] ["cell"] (defScope s_mixed) := ⟨rfl, rfl, rfl, by decide +kernel, rfl, by decide +kernel, by decide +kernel⟩
abbrev C_mixed (P : Program) (w : World) (K : PySem.W.Frag) (mg : Str → Option Value) (base : Heap) (C : Ec → Addr) := Callee P w K mg base 1 "_law_mixed" (spP K C 1 (fun i : Int => [fz (.int i)]) (fun _ => True) (fun i => is (.ok (fz (.int (mixed i))))))
theorem ok_mixed (D : Df K mg "_law_mixed" s_mixed) : C_mixed P w K mg base C := by
  refine callee_of D sc_mixed (fun _ _ _ _ _ _ us hl => match us, hl with | [_], _ => rfl) (fun f cdv A outer s H E c i _ => ?_)
  show Sxs _ _ _ [some (fz (.int i))] _
  refine sxs_ret (ev_mod (by decide) (ev_mul (.inr ⟨by decide, by decide⟩) (ev_add (ev_var 0 rfl) ev_int) ev_int) ev_int) ?_
  rfl
abbrev s_first : Stmt := top 8
theorem sc_first : FnScope ["cell", "kind", "rest"] ["cell"] (defScope s_first) := ⟨rfl, rfl, rfl, by decide +kernel, rfl, by decide +kernel, by decide +kernel⟩
abbrev C_first (P : Program) (w : World) (K : PySem.W.Frag) (mg : Str → Option Value) (base : Heap) (C : Ec → Addr) := Callee P w K mg base 1 "_law_first" (spP K C 1 (fun i : Int => [fz (.int i)]) (fun _ => True) (fun i => is (.ok (fz (.int (first i))))))
theorem ok_first (Bt : Blt mg) (D : Df K mg "_law_first" s_first) : C_first P w K mg base C := by
  refine callee_of D sc_first (fun _ _ _ _ _ _ us hl => match us, hl with | [_], _ => rfl) (fun f cdv A outer s H E c i _ => ?_)
  show Sxs _ _ _ [some (fz (.int i)), none, none] _
  refine sxs_set 1 (ev_mod (by decide) (ev_var 0 rfl) ev_int) ?_ c.nd
  refine sxs_set 2 (ev_fdiv (by decide) (ev_var 0 rfl) ev_int) ?_ c.nd
  refine sxs_if (tst_cm (cm_eq (ev_var 1 rfl) ev_int)) (fun h => ?_) (fun h => ?_)
  · have h : i % 4 = 0 := by simpa using h
    refine sxs_ret (ev_mod (by decide) (ev_var 2 rfl) ev_int) ?_
    show _ = _
    rw [first, if_pos h]
  · have h : ¬ i % 4 = 0 := by simpa using h
    refine sxs_nil ?_
    refine sxs_if (tst_cm (cm_eq (ev_var 1 rfl) ev_int)) (fun h2 => ?_) (fun h2 => ?_)
    · have h2 : i % 4 = 1 := by simpa using h2
      obtain ⟨n, hn, hn2⟩ : ∃ n : Nat, i / 4 % 61 = (n : Int) ∧ n < 61 := ⟨(i / 4 % 61).toNat, by omega, by omega⟩
      have hz : (Txt.mul ("9" : Str) (n : Int)).length = n := by
        show (Txt.mul ("9" : Str) (n : Int)).cps.size = n
        rw [← Array.length_toList, PV.mul_list]
        simp only [Int.toNat_natCast, List.length_flatten, List.map_replicate, Array.length_toList, List.sum_replicate_nat]
        show n * 1 = n
        omega
      refine sxs_ret (ev_max c Bt ev_int (ev_sub (ev_intS (n := nines n) Bt (ev_adds (x := "0") (y := Txt.mul ("9" : Str) (n : Int)) ?_ ev_str (ev_mulS (mulOk_small (by omega) (by omega) ?_) ev_str ((ev_mod (by decide) (ev_var 2 rfl) ev_int).to (by rw [← hn])))) (nines_ok n hn2) ?_) (ev_mod (by decide) (ev_fdiv (by decide) (ev_var 2 rfl) ev_int) ev_int))) ?_
      · rw [hz]; exact szl (by show 1 + n ≤ 10000; omega)
      · rw [Int.toNat_natCast]; show 1 * n ≤ _; omega
      · show (("0" : Str) ++ Txt.mul ("9" : Str) (n : Int)).cps.size ≤ 640
        have : (("0" : Str) ++ Txt.mul ("9" : Str) (n : Int)).cps.size = 1 + n := by
          show ((("0" : Str)).cps ++ (Txt.mul ("9" : Str) (n : Int)).cps).size = _
          rw [Array.size_append]
          have : (Txt.mul ("9" : Str) (n : Int)).cps.size = n := hz
          rw [this]
          rfl
        omega
      · show _ = _
        rw [first, if_neg h, if_pos h2, hn, Int.toNat_natCast]
    · have h2 : ¬ i % 4 = 1 := by simpa using h2
      refine sxs_nil ?_
      refine sxs_if (tst_cm (cm_eq (ev_var 1 rfl) ev_int)) (fun h3 => ?_) (fun h3 => ?_)
      · have h3 : i % 4 = 2 := by simpa using h3
        refine sxs_ret (ev_mod (by decide) (ev_var 2 rfl) (ev_add (ev_pow ⟨by decide, by decide, by decide⟩ ev_int ev_int) ev_int)) ?_
        show _ = _
        rw [first, if_neg h, if_neg h2, if_pos h3]
        rfl
      · have h3 : ¬ i % 4 = 2 := by simpa using h3
        refine sxs_nil ?_
        refine sxs_ret (ev_add ev_int (ev_mod (by decide) (ev_var 2 rfl) ev_int)) ?_
        show _ = _
        rw [first, if_neg h, if_neg h2, if_neg h3]
theorem rowN_len : ∀ (n : Nat) (m : Int) (t : Str), (rowN n m t).length = t.length + n
  | 0, _, _ => rfl
  | n + 1, m, t => by
    rw [rowN, rowN_len n]
    have : (t ++ (⟨#[rowC (m / 6 % 4)]⟩ : Str)).length = t.length + 1 := by
      show (t.cps ++ #[rowC (m / 6 % 4)]).size = t.cps.size + 1
      rw [Array.size_append]; rfl
    omega
theorem app_len (t : Str) (c : Nat) : (t ++ (⟨#[c]⟩ : Str)).length = t.length + 1 := by
  show (t.cps ++ #[c]).size = t.cps.size + 1
  rw [Array.size_append]; rfl
theorem app_ok {t : Str} {c : Nat} (h : PyData.strOk t = true) (hc : c < 0x110000) : PyData.strOk (t ++ (⟨#[c]⟩ : Str)) = true := by
  show (t.cps ++ #[c]).all _ = true
  unfold PyData.strOk at h
  rw [Array.all_append, h]
  simpa using hc
theorem rowC_lt (i : Int) : rowC i < 0x110000 := by unfold rowC; split <;> (try split) <;> (try split) <;> decide
theorem rowN_ok : ∀ (n : Nat) (m : Int) (t : Str), PyData.strOk t = true → PyData.strOk (rowN n m t) = true
  | 0, _, _, h => h
  | n + 1, m, t, h => rowN_ok n _ _ (app_ok h (rowC_lt _))
theorem row_ok (m : Int) : PyData.strOk (row m) = true := rowN_ok _ _ _ (by decide +kernel)
abbrev s_row : Stmt := top 9
theorem sc_row : FnScope ["number", "text", "k"] ["number"] (defScope s_row) := ⟨rfl, rfl, rfl, by decide +kernel, rfl, by decide +kernel, by decide +kernel⟩
abbrev C_row (P : Program) (w : World) (K : PySem.W.Frag) (mg : Str → Option Value) (base : Heap) (C : Ec → Addr) := Callee P w K mg base 1 "_law_row" (spP K C 1 (fun i : Int => [fz (.int i)]) (fun _ => True) (fun i => is (.ok (fz (.str (row i))))))
theorem ok_row (Bt : Blt mg) (D : Df K mg "_law_row" s_row) : C_row P w K mg base C := by
  refine callee_of D sc_row (fun _ _ _ _ _ _ us hl => match us, hl with | [_], _ => rfl) (fun f cdv A outer s H E c i _ => ?_)
  show Sxs _ _ _ [some (fz (.int i)), none, none] _
  refine sxs_set 1 ev_str ?_ c.nd
  have hb : i % 6 < 6 ∧ 0 ≤ i % 6 := by omega
  refine sxs_for c (fun k ρ => ∃ m t, ρ = [some (fz (.int m)), some (fz (.str t)), none] ∧ rowN ((i % 6).toNat - k) m t = row i ∧ t.length ≤ 100 + k) (iv_range1 Bt (ev_mod (by decide) (ev_var 0 rfl) ev_int) (by omega) (by omega)) (tg_name 2 c.nd) ⟨i, ⟨#[]⟩, rfl, rfl, by decide⟩ (fun k d ρ hd hP => ⟨⟨(fun h => nomatch h), rfl⟩, ?_⟩) (fun ρ hP => ?_)
  · obtain ⟨m, t, rfl, hr, ht⟩ := hP
    obtain ⟨hk, rfl⟩ := nums_of hd
    obtain ⟨n, hn⟩ : ∃ n, (i % 6).toNat - k = n + 1 := ⟨(i % 6).toNat - k - 1, by omega⟩
    have h4 : 0 ≤ m / 6 % 4 ∧ m / 6 % 4 < 4 := by omega
    refine sxs_set 0 (ev_fdiv (by decide) (ev_var 0 rfl) ev_int) ?_ c.nd
    refine sxs_set 1 (ev_adds ?_ (ev_var 1 rfl) (ev_ixS ev_str (ev_mod (by decide) (ev_var 0 rfl) ev_int) (by decide) (rowC_at _ h4.1 h4.2))) ?_ c.nd
    · exact szl (by show t.length + 1 ≤ _; omega)
    refine sxs_nil ⟨[some (fz (.int (m / 6))), some (fz (.str (t ++ (⟨#[rowC (m / 6 % 4)]⟩ : Str)))), none], Wk.of (wkl_some rfl (wkl_some rfl (wkl_none wkl_nil))), m / 6, _, rfl, ?_, ?_⟩
    · rw [← hr, hn, rowN]
      have : (i % 6).toNat - (k + 1) = n := by omega
      rw [this]
    · rw [app_len]; omega
  · obtain ⟨m, t, rfl, hr, ht⟩ := hP
    rw [nums_length, Nat.sub_self] at hr
    refine sxs_ret (ev_var 1 rfl) ?_
    show _ = _
    rw [← hr]
    rfl
end
end Tl

/-! Exchanges: what the law draws. -/
namespace Tl
open PySem PySem.Spec PyProof.Rows L2 PV
theorem mixed_lt (c : Int) : 0 ≤ mixed c ∧ mixed c < 2305843009213693951 := by unfold mixed; omega
def highN (ns : List Int) : Nat := (1 + mixed (cellAt ns 0) % 4).toNat
theorem high_ok (ns : List Int) : (1 + mixed (cellAt ns 0) % 4) = (highN ns : Int) ∧ 1 ≤ highN ns ∧ highN ns ≤ 4 := by unfold highN; omega
def cellsOf (ns : List Int) : List Int := (ns.drop (HT.sIx ns.length 0 (some 2))).take (HT.sIx ns.length ns.length (some 26) - HT.sIx ns.length 0 (some 2))
theorem cells_len (ns : List Int) : (cellsOf ns).length ≤ 24 := by
  unfold cellsOf
  rw [List.length_take, List.length_drop]
  have h1 : HT.sIx ns.length ns.length (some 26) = min 26 ns.length := HT.sIx_nat _ _ 26
  have h2 : HT.sIx ns.length 0 (some 2) = min 2 ns.length := HT.sIx_nat _ _ 2
  rw [h1, h2]
  omega
def oldRows (c : Int) (h : Nat) : List Str := (List.range h).map fun j : Nat => row (mixed (mixed c / 5 * ((j : Int) * j + 3 * j + 3)))
def oldPage (ns : List Int) (k : Nat) : Page := (first (cellAt ns 1) + k, oldRows ((cellsOf ns).getD k 0) (highN ns))
def oldP (ns : List Int) : List Page := (List.range (cellsOf ns).length).map (oldPage ns)
theorem rows_ok (c : Int) (h : Nat) : ∀ r ∈ oldRows c h, PyData.strOk r = true := fun r hr => by
  obtain ⟨j, _, rfl⟩ := List.mem_map.mp hr
  exact row_ok _
theorem rows_len (c : Int) (h : Nat) : (oldRows c h).length = h := by simp [oldRows]
theorem old_ok (ns : List Int) : okPs (oldP ns) ∧ (oldP ns).length ≤ 24 ∧ ∀ p ∈ oldP ns, p.2.length = highN ns := by
  have hl := cells_len ns
  have h0 : (oldP ns).length = (cellsOf ns).length := by simp [oldP]
  refine ⟨⟨by omega, fun p hp => ?_⟩, by omega, fun p hp => ?_⟩
  · obtain ⟨k, _, rfl⟩ := List.mem_map.mp hp
    exact rows_ok _ _
  · obtain ⟨k, _, rfl⟩ := List.mem_map.mp hp
    exact rows_len _ _
theorem ms_succ {α : Type} (f : Nat → Page) (g : Page → α) (n : Nat) : ((List.range (n + 1)).map f).map g = ((List.range n).map f).map g ++ [g (f n)] := by
  rw [List.range_succ, List.map_append, List.map_append]; rfl
section
variable {P : Program} {w : World} {K : PySem.W.Frag} {mg : Str → Option Value} {base : Heap} {C : Ec → Addr}
abbrev s_old : Stmt := top 10
theorem sc_old : FnScope ["script", "high", "first", "pages", "k", "cell", "number", "j"] ["script"] (defScope s_old) := ⟨rfl, rfl, rfl, by decide +kernel, rfl, by decide +kernel, by decide +kernel⟩
abbrev C_old (P : Program) (w : World) (K : PySem.W.Frag) (mg : Str → Option Value) (base : Heap) (C : Ec → Addr) := Callee P w K mg base 2 "_law_old" (spP K C 1 (fun ns : List Int => [kn (ns.map .int)]) (fun _ => True) (fun ns => is (.ok (tr (.lst none ((oldP ns).map pgT))))))
theorem ok_old (Bt : Blt mg) (G_mixed : C_mixed P w K mg base C) (G_cell_at : C_cell_at P w K mg base C) (G_first : C_first P w K mg base C) (G_row : C_row P w K mg base C) (D : Df K mg "_law_old" s_old) : C_old P w K mg base C := by
  refine callee_of D sc_old (fun _ _ _ _ _ _ us hl => match us, hl with | [_], _ => rfl) (fun f cdv A outer s H E c ns _ => ?_)
  show Sxs _ _ _ [some (kn (ns.map .int)), none, none, none, none, none, none, none] _
  obtain ⟨hh, hh1, hh4⟩ := high_ok ns
  refine sxs_set 1 ((ev_add ev_int (ev_mod (by decide) (ev_call c G_mixed (cellAt ns 0) trivial (fun _ h => h) (as_cons (Ev.s (ev_call c G_cell_at (ns, 0) trivial (fun _ h => h) (as_cons (evs_kn 0 rfl) (as_cons (Ev.s ev_int) as_nil)))) as_nil)) ev_int)).to (congrArg PyData.int hh)) ?_ c.nd
  refine sxs_set 2 (ev_call c G_first (cellAt ns 1) trivial (fun _ h => h) (as_cons (Ev.s (ev_call c G_cell_at (ns, 1) trivial (fun _ h => h) (as_cons (evs_kn 0 rfl) (as_cons (Ev.s ev_int) as_nil)))) as_nil)) ?_ c.nd
  refine sxs_setT 3 (t_lst ta_nil) ?_ c.nd
  refine sxs_for c (fun i ρ => ρ = [some (kn (ns.map .int)), some (fz (.int (highN ns))), some (fz (.int (first (cellAt ns 1)))), some (tr (.lst none (((List.range i).map (oldPage ns)).map pgT))), none, none, none, none])
    (iv_enum Bt ((Fr.ev (fr_slice (bw_var 0 rfl) (evo ev_int) (evo ev_int))).to (congrArg PyData.list (cut_map PyData.int ns (some 2) (some 26))))) (tg_tup c.calm (tgs_cons 4 c.nd (tgs_cons 5 c.nd tgs_nil))) rfl (fun i d ρ hd hP => ?_) (fun ρ hP => ?_)
  · subst hP
    obtain ⟨e, he, rfl⟩ := enums_of hd
    rw [List.getElem?_map] at he
    obtain ⟨x, hx, rfl⟩ := Option.map_eq_some_iff.mp he
    have hx : (cellsOf ns)[i]? = some x := hx
    have hi : i < (cellsOf ns).length := (List.getElem?_eq_some_iff.mp hx).1
    have hc := cells_len ns
    refine ⟨⟨fun _ => ⟨_, rfl⟩, rfl⟩, ?_⟩
    show Sxs _ _ _ [some (kn (ns.map .int)), some (fz (.int (highN ns))), some (fz (.int (first (cellAt ns 1)))), some (tr (.lst none (((List.range i).map (oldPage ns)).map pgT))), some (fz (.int i)), some (fz (.int x)), none, none] _
    refine sxs_set 6 (ev_call c G_mixed x trivial (fun _ h => h) (as_cons (Ev.s (ev_var 5 rfl)) as_nil)) ?_ c.nd
    have hm := mixed_lt x
    have rowsF : Fr (cxD P w K mg base ["script", "high", "first", "pages", "k", "cell", "number", "j"] "_law_old" s_old f cdv A outer s H E) (fun c σ H => E (.ref (C c)) none H) [some (kn (ns.map .int)), some (fz (.int (highN ns))), some (fz (.int (first (cellAt ns 1)))), some (tr (.lst none (((List.range i).map (oldPage ns)).map pgT))), some (fz (.int i)), some (fz (.int x)), some (fz (.int (mixed x))), none]
        (match defBody s_old with | [_, _, _, .For _ _ [_, .Expr (.Call _ [.Tuple [_, l] _ _] _ _) _] _ _, _] => l | _ => .Constant .none 0 ⟨0, 0, 0, 0⟩) ((oldRows x (highN ns)).map .str) := by
      refine (fr_lc (ks := ((oldRows x (highN ns)).map PyData.str).map some) [("j", 7)] c (iv_range1 Bt (ev_var 1 rfl) (by omega) (by omega)) (fun s H Cc cl fp => have cb := c.blk s H Cc cl fp; tg_name 7 cb.nd) (by rw [nums_length]; exact szl (by omega)) (by rw [nums_length]; simp [oldRows]) (fun j d r hd hr => ?_)).to (keep_all _)
      obtain ⟨hj, rfl⟩ := nums_of hd
      have hj : j < highN ns := by omega
      have hr : r = some (.str (row (mixed (mixed x / 5 * ((j : Int) * j + 3 * j + 3))))) := by
        rw [oldRows, List.map_map, List.map_map, List.getElem?_map, List.getElem?_range hj] at hr
        exact (Option.some.inj hr).symm
      subst hr
      refine ⟨⟨(fun h => nomatch h), rfl⟩, true, rfl, (fun h => nomatch h), fun _ => ⟨_, rfl, fun s H Cc cl fp => ?_⟩⟩
      have cj : CMul (mixed x / 5) ((j : Int) * j + 3 * j + 3) := .inl ⟨by omega, by omega⟩
      refine ev_call (c.blk s H Cc cl fp) G_row _ trivial (fun _ h => h) (as_cons (Ev.s (ev_call (c.blk s H Cc cl fp) G_mixed (mixed x / 5 * ((j : Int) * j + 3 * j + 3)) trivial (fun _ h => h) (as_cons (Ev.s (ev_mul cj (ev_fdiv (by decide) (ev_var 6 rfl) ev_int) (ev_add (ev_add (ev_mul (.inl ⟨by omega, by omega⟩) (ev_var 7 rfl) (ev_var 7 rfl)) (ev_mul (.inl ⟨by decide, by decide⟩) ev_int (ev_var 7 rfl))) ev_int))) as_nil))) as_nil)
    refine sxs_appendN 3 rfl (nd_var 3 rfl) rfl (t_tup (ta_cons (Ev.t (ev_add (ev_var 2 rfl) (ev_var 4 rfl))) (ta_cons (Fr.t rowsF) ta_nil))) (szl' (by simp; omega)) ?_
    refine sxs_nil ⟨_, Wk.of ?_, rfl⟩
    rw [ms_succ]
    refine wkl_some rfl (wkl_some rfl (wkl_some rfl (wkl_some ?_ (wkl_none (wkl_none (wkl_none (wkl_none wkl_nil)))))))
    have : (cellsOf ns).getD i 0 = x := by rw [List.getD_eq_getElem?_getD, hx]; rfl
    rw [oldPage, this]
    rfl
  · subst hP
    refine sxs_retO 3 rfl ?_
    show _ = _
    rw [enums_length, List.length_map]
    rfl
end
end Tl

/-! Exchanges: the newer pages, copies, what is due. -/
namespace Tl
open PySem PySem.Spec PyProof.Rows L2 PV
def drawN (ns : List Int) (k : Nat) : Int := mixed (cellAt ns (k + 2) / 2 + 7919 * ((k : Int) + 1) * ((k : Int) + 2))
def base1 (ns : List Int) (old : List Page) (k : Nat) : Page := match old[k]? with
  | some p => p
  | none => ((k : Int), List.replicate (highN ns) ("b" : Str))
def mod1 (ns : List Int) (d : Int) (p : Page) : Page := if d % 3 = 1 then (p.1, p.2.set (d / 9 % (highN ns : Int)).toNat (row (d / 36))) else p
def mod2 (d : Int) (p : Page) : Page := if d % 9 = 2 then (p.1 + 1, p.2) else p
def newPage (ns : List Int) (old : List Page) (k : Nat) : Page := mod2 (drawN ns k) (mod1 ns (drawN ns k) (base1 ns old k))
def manyN (ns : List Int) (old : List Page) : Int := max 0 (((old.length : Nat) : Int) + mixed (cellAt ns 0 + 41) % 7 - 3)
def newP (ns : List Int) (old : List Page) : List Page := (List.range (manyN ns old).toNat).map (newPage ns old)
def okOld (ns : List Int) (old : List Page) : Prop := okPs old ∧ old.length ≤ 24 ∧ ∀ p ∈ old, p.2.length = highN ns
theorem base_ok {ns : List Int} {old : List Page} (h : okOld ns old) (k : Nat) : okP (base1 ns old k) ∧ (base1 ns old k).2.length = highN ns := by
  unfold base1
  cases e : old[k]? with
  | none =>
    refine ⟨fun r hr => ?_, by simp⟩
    have := (List.mem_replicate.mp hr).2
    subst this
    decide +kernel
  | some p => exact ⟨h.1.2 p (List.mem_of_getElem? e), h.2.2 p (List.mem_of_getElem? e)⟩
theorem mod1_ok {ns : List Int} {d : Int} {p : Page} (h : okP p) : okP (mod1 ns d p) := by
  unfold mod1
  split
  · intro r hr
    rcases List.mem_or_eq_of_mem_set hr with z | z
    · exact h r z
    · subst z; exact row_ok _
  · exact h
theorem mod2_ok {d : Int} {p : Page} (h : okP p) : okP (mod2 d p) := by
  unfold mod2
  split
  · exact h
  · exact h
theorem new_ok {ns : List Int} {old : List Page} (h : okOld ns old) : okPs (newP ns old) := by
  refine ⟨?_, fun p hp => ?_⟩
  · have h2 := h.2.1
    have h3 : (manyN ns old).toNat ≤ 1000 := by unfold manyN; omega
    simpa [newP] using h3
  · obtain ⟨k, _, rfl⟩ := List.mem_map.mp hp
    exact mod2_ok (mod1_ok (base_ok h k).1)
theorem pgT_to (n : Int) (rows : List Str) : T.tup none [.fz (.int n), .lst none ((rows.map PyData.str).map .fz)] = pgT (n, rows) := rfl
section
variable {P : Program} {w : World} {K : PySem.W.Frag} {mg : Str → Option Value} {base : Heap} {C : Ec → Addr}
abbrev s_new : Stmt := top 11
theorem sc_new : FnScope ["script", "old", "number", "many", "high", "pages", "k", "draw", "page"] ["script", "old"] (defScope s_new) := ⟨rfl, rfl, rfl, by decide +kernel, rfl, by decide +kernel, by decide +kernel⟩
abbrev C_new (P : Program) (w : World) (K : PySem.W.Frag) (mg : Str → Option Value) (base : Heap) (C : Ec → Addr) := Callee P w K mg base 2 "_law_new" (spP K C 2 (fun i : List Int × List Page => [kn (i.1.map .int), fz (.list (i.2.map pgD))]) (fun i => okOld i.1 i.2) (fun i => is (.ok (tr (.lst none ((newP i.1 i.2).map pgT))))))
def envN (ns : List Int) (old : List Page) (ps : List Page) (k : Nat) (p : Page) : PV.Env := [some (kn (ns.map .int)), some (fz (.list (old.map pgD))), some (fz (.int (mixed (cellAt ns 0 + 41)))), some (fz (.int (manyN ns old))), some (fz (.int (highN ns))), some (tr (.lst none (ps.map pgT))), some (fz (.int k)), some (fz (.int (drawN ns k))), some (tr (pgT p))]
theorem ok_new (Bt : Blt mg) (G_mixed : C_mixed P w K mg base C) (G_cell_at : C_cell_at P w K mg base C) (G_row : C_row P w K mg base C) (D : Df K mg "_law_new" s_new) : C_new P w K mg base C := by
  refine callee_of D sc_new (fun _ _ _ _ _ _ us hl => match us, hl with | [_, _], _ => rfl) (fun f cdv A outer s H E c i hp => ?_)
  obtain ⟨ns, old⟩ := i
  have hp : okOld ns old := hp
  show Sxs _ _ _ [some (kn (ns.map .int)), some (fz (.list (old.map pgD))), none, none, none, none, none, none, none] _
  obtain ⟨hh, hh1, hh4⟩ := high_ok ns
  have hm7 : 0 ≤ mixed (cellAt ns 0 + 41) % 7 ∧ mixed (cellAt ns 0 + 41) % 7 < 7 := by omega
  have hold := hp.2.1
  have hmany : 0 ≤ manyN ns old ∧ manyN ns old ≤ 28 := by unfold manyN; omega
  refine sxs_set 2 (ev_call c G_mixed (cellAt ns 0 + 41) trivial (fun _ h => h) (as_cons (Ev.s (ev_add (ev_call c G_cell_at (ns, 0) trivial (fun _ h => h) (as_cons (evs_kn 0 rfl) (as_cons (Ev.s ev_int) as_nil))) ev_int)) as_nil)) ?_ c.nd
  refine sxs_set 3 ((ev_max c Bt ev_int (ev_sub (ev_add (ev_len Bt (Bv.bw (Ev.bv (ev_var 1 rfl)))) (ev_mod (by decide) (ev_var 2 rfl) ev_int)) ev_int)).to (e := .int (manyN ns old)) (by rw [List.length_map]; rfl)) ?_ c.nd
  refine sxs_set 4 ((ev_add ev_int (ev_mod (by decide) (ev_call c G_mixed (cellAt ns 0) trivial (fun _ h => h) (as_cons (Ev.s (ev_call c G_cell_at (ns, 0) trivial (fun _ h => h) (as_cons (evs_kn 0 rfl) (as_cons (Ev.s ev_int) as_nil)))) as_nil)) ev_int)).to (congrArg PyData.int hh)) ?_ c.nd
  refine sxs_setT 5 (t_lst ta_nil) ?_ c.nd
  refine sxs_for c (fun i ρ => ρ = [some (kn (ns.map .int)), some (fz (.list (old.map pgD))), some (fz (.int (mixed (cellAt ns 0 + 41)))), some (fz (.int (manyN ns old))), some (fz (.int (highN ns))), some (tr (.lst none (((List.range i).map (newPage ns old)).map pgT))), none, none, none])
    (iv_range1 Bt (ev_var 3 rfl) (by omega) (by omega)) (tg_name 6 c.nd) rfl (fun k d ρ hd hP => ⟨⟨(fun h => nomatch h), rfl⟩, ?_⟩) (fun ρ hP => ?_)
  rotate_left
  · subst hP
    refine sxs_retO 5 rfl ?_
    show _ = _
    rw [nums_length]
    rfl
  · subst hP
    obtain ⟨hk, rfl⟩ := nums_of hd
    have hk28 : k < 28 := by omega
    show Sxs _ _ _ [some (kn (ns.map .int)), some (fz (.list (old.map pgD))), some (fz (.int (mixed (cellAt ns 0 + 41)))), some (fz (.int (manyN ns old))), some (fz (.int (highN ns))), some (tr (.lst none (((List.range k).map (newPage ns old)).map pgT))), some (fz (.int k)), none, none] _
    refine sxs_set 7 (ev_call c G_mixed (cellAt ns (k + 2) / 2 + 7919 * ((k : Int) + 1) * ((k : Int) + 2)) trivial (fun _ h => h) (as_cons (Ev.s (ev_add (ev_fdiv (by decide) (ev_call c G_cell_at (ns, k + 2) trivial (fun _ h => h) (as_cons (evs_kn 0 rfl) (as_cons (Ev.s ((ev_add (ev_var 6 rfl) ev_int).to (by simp))) as_nil))) ev_int) (ev_mul (.inr ⟨by omega, by omega⟩) (ev_mul (.inl ⟨by decide, by decide⟩) ev_int (ev_add (ev_var 6 rfl) ev_int)) (ev_add (ev_var 6 rfl) ev_int)))) as_nil)) ?_ c.nd
    refine sxs_setT 8 ((t_tup (ta_cons (Ev.t (ev_var 6 rfl)) (ta_cons (Fr.t ((fr_rep (fr_lst (eva_cons ev_str eva_nil)) (ev_var 4 rfl) ⟨by omega, by omega, szl (by simp; omega)⟩).to (rep_one PyData.str ("b" : Str) _))) ta_nil))).to (u := pgT ((k : Int), List.replicate (highN ns) ("b" : Str))) (by rw [Int.toNat_natCast, pgT_to])) ?_ c.nd
    refine sxs_ifJ (envN ns old ((List.range k).map (newPage ns old)) k (base1 ns old k)) (tst_cm (cm_lt (ev_var 6 rfl) (ev_len Bt (Bv.bw (Ev.bv (ev_var 1 rfl)))))) (fun h => ?_) (fun h => ?_) ?_
    · have h1 : k < old.length := by simpa using h
      obtain ⟨p, hp1⟩ : ∃ p, old[k]? = some p := ⟨_, List.getElem?_eq_getElem h1⟩
      refine sxs_setT 8 ((t_tup (ta_cons (Ev.t (ev_ixT (ev_ixL (Bv.bw (Ev.bv (ev_var 1 rfl))) (ev_var 6 rfl) (atI_map pgD hp1)) ev_int rfl)) (ta_cons (Fr.t (fr_list Bt (Bv.bw (Ev.bv (ev_ixT (ev_ixL (Bv.bw (Ev.bv (ev_var 1 rfl))) (ev_var 6 rfl) (atI_map pgD hp1)) ev_int rfl))))) ta_nil))).to (u := pgT p) (pgT_to _ _)) ?_ c.nd
      refine sxs_nil (Wk.of ?_)
      have : base1 ns old k = p := by unfold base1; rw [hp1]
      rw [this]
      exact wkl_some rfl (wkl_some rfl (wkl_some rfl (wkl_some rfl (wkl_some rfl (wkl_some rfl (wkl_some rfl (wkl_some rfl (wkl_some rfl wkl_nil))))))))
    · have h1 : ¬ k < old.length := by simpa using h
      refine sxs_nil (Wk.of ?_)
      have : base1 ns old k = ((k : Int), List.replicate (highN ns) ("b" : Str)) := by unfold base1; rw [List.getElem?_eq_none (Nat.le_of_not_lt h1)]
      rw [this]
      exact wkl_some rfl (wkl_some rfl (wkl_some rfl (wkl_some rfl (wkl_some rfl (wkl_some rfl (wkl_some rfl (wkl_some rfl (wkl_some rfl wkl_nil))))))))
    · have hb := base_ok hp k
      generalize hbp : base1 ns old k = bp at hb
      have hd9 : 0 ≤ drawN ns k / 9 % (highN ns : Int) ∧ drawN ns k / 9 % (highN ns : Int) < (highN ns : Int) := ⟨Int.emod_nonneg _ (by omega), Int.emod_lt_of_pos _ (by omega)⟩
      refine sxs_ifJ (envN ns old ((List.range k).map (newPage ns old)) k (mod1 ns (drawN ns k) bp)) (tst_cm (cm_eq (ev_mod (by decide) (ev_var 7 rfl) ev_int) ev_int)) (fun h => ?_) (fun h => ?_) ?_
      · have h1 : drawN ns k % 3 = 1 := by simpa using h
        refine sxs_setItemN (n := (drawN ns k / 9 % (highN ns : Int)).toNat) 8 rfl (nd_ixT (nd_var 8 rfl) ev_int rfl rfl rfl) rfl (Ev.t (ev_call c G_row (drawN ns k / 36) trivial (fun _ h => h) (as_cons (Ev.s (ev_fdiv (by decide) (ev_var 7 rfl) ev_int)) as_nil))) (ev_mod (by omega) (ev_fdiv (by decide) (ev_var 7 rfl) ev_int) (ev_var 4 rfl)) ?_ ?_
        · have e : drawN ns k / 9 % (highN ns : Int) = ((drawN ns k / 9 % (highN ns : Int)).toNat : Int) := by omega
          rw [e, Int.toNat_natCast]
          exact ixN_nat (by rw [List.length_map, List.length_map, hb.2]; omega)
        · refine sxs_nil (Wk.of ?_)
          rw [mod1, if_pos h1]
          refine wkl_some rfl (wkl_some rfl (wkl_some rfl (wkl_some rfl (wkl_some rfl (wkl_some rfl (wkl_some rfl (wkl_some rfl (wkl_some ?_ wkl_nil))))))))
          rw [pgT, pgT]
          dsimp only
          rw [List.map_set, List.map_set]
          rfl
      · have h1 : ¬ drawN ns k % 3 = 1 := by simpa using h
        refine sxs_nil (Wk.of ?_)
        rw [mod1, if_neg h1]
        exact wkl_some rfl (wkl_some rfl (wkl_some rfl (wkl_some rfl (wkl_some rfl (wkl_some rfl (wkl_some rfl (wkl_some rfl (wkl_some rfl wkl_nil))))))))
      · generalize hmp : mod1 ns (drawN ns k) bp = mp
        refine sxs_ifJ (envN ns old ((List.range k).map (newPage ns old)) k (mod2 (drawN ns k) mp)) (tst_cm (cm_eq (ev_mod (by decide) (ev_var 7 rfl) ev_int) ev_int)) (fun h => ?_) (fun h => ?_) ?_
        · have h1 : drawN ns k % 9 = 2 := by simpa using h
          refine sxs_setM 8 8 (m_tup (ma_cons (Ev.t (ev_add (Nd.ev (d := .int mp.1) (nd_ixT (nd_var 8 rfl) ev_int rfl rfl rfl) rfl rfl) ev_int)) (ma_one (nd_m (nd_ixT (nd_var 8 rfl) ev_int rfl rfl rfl) rfl rfl) ta_nil))) ?_ c.nd
          refine sxs_nil (Wk.of ?_)
          rw [mod2, if_pos h1]
          exact wkl_some rfl (wkl_some rfl (wkl_some rfl (wkl_some rfl (wkl_some rfl (wkl_some rfl (wkl_some rfl (wkl_some rfl (wkl_some rfl wkl_nil))))))))
        · have h1 : ¬ drawN ns k % 9 = 2 := by simpa using h
          refine sxs_nil (Wk.of ?_)
          rw [mod2, if_neg h1]
          exact wkl_some rfl (wkl_some rfl (wkl_some rfl (wkl_some rfl (wkl_some rfl (wkl_some rfl (wkl_some rfl (wkl_some rfl (wkl_some rfl wkl_nil))))))))
        · refine sxs_appendM 5 8 (by decide) rfl (nd_var 5 rfl) rfl (nd_m (nd_var 8 rfl) rfl rfl) (szl' (by simp; omega)) ?_
          refine sxs_nil ⟨_, Wk.of ?_, rfl⟩
          rw [ms_succ, newPage, hbp, hmp]
          exact wkl_some rfl (wkl_some rfl (wkl_some rfl (wkl_some rfl (wkl_some rfl (wkl_some rfl (wkl_none (wkl_none (wkl_none wkl_nil))))))))
abbrev s_pages_copy : Stmt := top 12
theorem sc_pages_copy : FnScope ["pages", "page"] ["pages"] (defScope s_pages_copy) := ⟨rfl, rfl, rfl, by decide +kernel, rfl, by decide +kernel, by decide +kernel⟩
abbrev C_pages_copy (P : Program) (w : World) (K : PySem.W.Frag) (mg : Str → Option Value) (base : Heap) (C : Ec → Addr) := Callee P w K mg base 1 "_law_pages_copy" (spP K C 1 (fun ps : List Page => [fz (.list (ps.map pgD))]) (fun ps => ps.length ≤ 1000) (fun ps => is (.ok (tr (.lst none (ps.map pgT))))))
theorem ok_pages_copy (Bt : Blt mg) (D : Df K mg "_law_pages_copy" s_pages_copy) : C_pages_copy P w K mg base C := by
  refine callee_of D sc_pages_copy (fun _ _ _ _ _ _ us hl => match us, hl with | [_], _ => rfl) (fun f cdv A outer s H E c ps hp => ?_)
  have hp : ps.length ≤ 1000 := hp
  show Sxs _ _ _ [some (fz (.list (ps.map pgD))), none] _
  refine sxs_retT (t_lc (ts := ps.map pgT) [("page", 1)] c (iv_list (ev_var 0 rfl)) (fun s H Cc cl fp => have cb := c.blk s H Cc cl fp; tg_name 1 cb.nd) (szl (by rw [List.length_map]; omega)) (by simp) (fun i d r hd hr => ?_)) rfl
  rw [List.getElem?_map] at hd hr
  obtain ⟨p, hp, rfl⟩ := Option.map_eq_some_iff.mp hd
  rw [hp] at hr
  obtain rfl := Option.some.inj hr
  refine ⟨⟨(fun h => nomatch h), rfl⟩, fun s H Cc cl fp => ?_⟩
  exact (t_tup (ta_cons (Ev.t (ev_ixT (ev_var 1 rfl) ev_int rfl)) (ta_cons (Fr.t (fr_list Bt (Bv.bw (Ev.bv (ev_ixT (ev_var 1 rfl) ev_int rfl))))) ta_nil))).to (pgT_to _ _)
abbrev s_due : Stmt := top 13
theorem sc_due : FnScope ["old", "new", "due", "k"] ["old", "new"] (defScope s_due) := ⟨rfl, rfl, rfl, by decide +kernel, rfl, by decide +kernel, by decide +kernel⟩
abbrev C_due (P : Program) (w : World) (K : PySem.W.Frag) (mg : Str → Option Value) (base : Heap) (C : Ec → Addr) := Callee P w K mg base 1 "_law_due" (spP K C 2 (fun i : List Page × List Page => [fz (.list (i.1.map pgD)), fz (.list (i.2.map pgD))]) (fun i => okPs i.1 ∧ okPs i.2) (fun i => is (.ok (ow none ((due i.1 i.2).map exD)))))
theorem ok_due (Bt : Blt mg) (D : Df K mg "_law_due" s_due) : C_due P w K mg base C := by
  refine callee_of D sc_due (fun _ _ _ _ _ _ us hl => match us, hl with | [_, _], _ => rfl) (fun f cdv A outer s H E c i hp => ?_)
  obtain ⟨old, new⟩ := i
  obtain ⟨⟨ho, ho2⟩, hn, hn2⟩ := hp
  simp only at ho ho2 hn hn2
  have hm : max old.length new.length ≤ 1000 := Nat.max_le.mpr ⟨ho, hn⟩
  show Sxs _ _ _ [some (fz (.list (old.map pgD))), some (fz (.list (new.map pgD))), none, none] _
  refine sxs_setF 2 (fr_lst eva_nil) ?_ c.nd
  refine sxs_for c (fun i ρ => ρ = [some (fz (.list (old.map pgD))), some (fz (.list (new.map pgD))), some (ow none (((List.range i).filterMap (betw old new)).map exD)), none])
    (iv_range1 Bt (ev_max c Bt (ev_len Bt (Bv.bw (Ev.bv (ev_var 0 rfl)))) (ev_len Bt (Bv.bw (Ev.bv (ev_var 1 rfl))))) (by simp only [List.length_map]; omega) (by simp only [List.length_map]; omega)) (tg_name 3 c.nd) rfl (fun i d ρ hd hP => ⟨⟨(fun h => nomatch h), rfl⟩, ?_⟩) (fun ρ hP => ?_)
  · subst hP
    obtain ⟨hi, rfl⟩ := nums_of hd
    simp only [List.length_map] at hi
    have hi' : i < max old.length new.length := by omega
    have hlen : (((List.range i).filterMap (betw old new)).map exD).length < sizeLine := szl' (by rw [List.length_map]; have := fm_le (f := betw old new) i; omega)
    show Sxs _ _ _ [some (fz (.list (old.map pgD))), some (fz (.list (new.map pgD))), some (ow none (((List.range i).filterMap (betw old new)).map exD)), some (fz (.int i))] _
    refine sxs_if (tst_cm (cm_ge (ev_var 3 rfl) (ev_len Bt (Bv.bw (Ev.bv (ev_var 1 rfl)))))) (fun h => ?_) (fun h => ?_)
    · have h1 : new.length ≤ i := by simpa using h
      refine sxs_append 2 rfl (ev_tup (eva_cons (ev_var 3 rfl) (eva_cons ev_non eva_nil))) hlen ?_
      refine sxs_nil ?_
      refine sxs_nil ⟨_, Wk.of ?_, rfl⟩
      rw [fm_succ, betw_ge h1, List.map_append]
      exact wkl_some rfl (wkl_some rfl (wkl_some rfl (wkl_none wkl_nil)))
    · have h1 : i < new.length := by simpa using h
      obtain ⟨p, hp⟩ : ∃ p, new[i]? = some p := ⟨_, List.getElem?_eq_getElem h1⟩
      have hpo : okP p := hn2 p (List.mem_of_getElem? hp)
      refine sxs_if (t := !decide (old[i]? = some p)) ?_ (fun h => ?_) (fun h => ?_)
      · by_cases h2 : i < old.length
        · obtain ⟨q, hq⟩ : ∃ q, old[i]? = some q := ⟨_, List.getElem?_eq_getElem h2⟩
          have hqo : okP q := ho2 q (List.mem_of_getElem? hq)
          refine (Tws.tst (tw_or (tst_cm (cm_ge (ev_var 3 rfl) (ev_len Bt (Bv.bw (Ev.bv (ev_var 0 rfl)))))) fun h => (tw_or (tst_cm (cm_ne (ev_ixT (ev_ixL (Bv.bw (Ev.bv (ev_var 0 rfl))) (ev_var 3 rfl) (atI_map pgD hq)) ev_int rfl) (ev_ixT (ev_ixL (Bv.bw (Ev.bv (ev_var 1 rfl))) (ev_var 3 rfl) (atI_map pgD hp)) ev_int rfl))) fun h => tw_or1 (tst_cm (cm_neD c (Ev.rv (ev_ixT (ev_ixL (Bv.bw (Ev.bv (ev_var 0 rfl))) (ev_var 3 rfl) (atI_map pgD hq)) ev_int rfl)) (Ev.rv (ev_ixT (ev_ixL (Bv.bw (Ev.bv (ev_var 1 rfl))) (ev_var 3 rfl) (atI_map pgD hp)) ev_int rfl)) (cl_shaped (rows_cl hqo)) (cl_shaped (rows_cl hpo))))))).to ?_
          have e : PyData.eqv (.list (q.2.map .str)) (.list (p.2.map .str)) = decide (q.2 = p.2) := by
            rw [Bool.eq_iff_iff, cl_eqv 1 1 _ _ (rows_cl hqo) (rows_cl hpo), decide_eq_true_iff, PyData.list.injEq]
            exact ⟨map_strs_inj, fun h => by rw [h]⟩
          rw [e, hq]
          have e2 : decide (((old.map pgD).length : Int) ≤ (i : Int)) = false := by simpa using h2
          rw [e2]
          by_cases h5 : q.1 = p.1 <;> by_cases h6 : q.2 = p.2 <;> simp [h5, h6, Prod.ext_iff]
        · have e : decide ((((old.map pgD).length : Nat) : Int) ≤ (i : Int)) = true := by simpa using Nat.le_of_not_lt h2
          refine (Tws.tst (tw_or (q := false) ((tst_cm (cm_ge (ev_var 3 rfl) (ev_len Bt (Bv.bw (Ev.bv (ev_var 0 rfl)))))).to e) (fun h => nomatch h))).to ?_
          rw [List.getElem?_eq_none (Nat.le_of_not_lt h2)]
          rfl
      · have hne : old[i]? ≠ some p := by simpa using h
        refine sxs_append 2 rfl (ev_tup (eva_cons (ev_var 3 rfl) (eva_cons (ev_ixL (Bv.bw (Ev.bv (ev_var 1 rfl))) (ev_var 3 rfl) (atI_map pgD hp)) eva_nil))) hlen ?_
        refine sxs_nil ?_
        refine sxs_nil ?_
        refine sxs_nil ⟨_, Wk.of ?_, rfl⟩
        rw [fm_succ, betw_lt hp, if_neg hne, List.map_append]
        exact wkl_some rfl (wkl_some rfl (wkl_some rfl (wkl_none wkl_nil)))
      · have he : old[i]? = some p := by simpa using h
        refine sxs_nil ?_
        refine sxs_nil ?_
        refine sxs_nil ⟨_, Wk.of ?_, rfl⟩
        rw [fm_succ, betw_lt hp, if_pos he, List.append_nil]
        exact wkl_some rfl (wkl_some rfl (wkl_some rfl (wkl_none wkl_nil)))
  · subst hP
    rw [nums_length]
    have e : (max ((old.map pgD).length : Int) ((new.map pgD).length : Int)).toNat = max old.length new.length := by simp only [List.length_map]; omega
    rw [e]
    refine sxs_retO 2 rfl ?_
    rfl
abbrev s_is_exchange : Stmt := top 14
theorem sc_is_exchange : FnScope ["found"] ["found"] (defScope s_is_exchange) := ⟨rfl, rfl, rfl, by decide +kernel, rfl, by decide +kernel, by decide +kernel⟩
abbrev C_is_exchange (P : Program) (w : World) (K : PySem.W.Frag) (mg : Str → Option Value) (base : Heap) (C : Ec → Addr) := Callee P w K mg base 2 "_law_is_exchange" (spP K C 1 (fun x : Exch => [fz (exD x)]) (fun _ => True) (fun x => is (.ok (fz (.bool true)))))
theorem ok_is_exchange (Bt : Blt mg) (G_whole : C_whole P w K mg base C) (D : Df K mg "_law_is_exchange" s_is_exchange) : C_is_exchange P w K mg base C := by
  refine callee_of D sc_is_exchange (fun _ _ _ _ _ _ us hl => match us, hl with | [_], _ => rfl) (fun f cdv A outer s H E c x _ => ?_)
  show Sxs _ _ _ [some (fz (exD x))] _
  obtain ⟨k, p⟩ := x
  refine sxs_if (t := false) ((Tws.tst (tw_or (tst_not (tst_val (ev_isi (T0 := "tuple") (r := true) Bt (ev_var 0 rfl) (by decide +kernel) Bt.tuple (by show kitB "tuple" "tuple" = _; decide +kernel)))) fun h => (tw_or (tst_cm (cm_ne (ev_lenT Bt (ev_var 0 rfl)) ev_int)) fun h => (tw_or1 (tst_not (tst_val (ev_call c G_whole (k : Int) trivial (fun _ h => h) (as_cons (Ev.s (ev_ixT (ev_var 0 rfl) ev_int rfl)) as_nil)))))))).to rfl) (fun h => nomatch h) (fun h => ?_)
  refine sxs_nil ?_
  cases p with
  | none =>
    refine sxs_if (tst_cm (cm_isN (ev_ixT (ev_var 0 rfl) ev_int rfl))) (fun h => ?_) (fun h => nomatch h)
    exact sxs_ret ev_bl rfl
  | some p =>
    refine sxs_if (tst_cm (cm_isN (ev_ixT (ev_var 0 rfl) ev_int rfl))) (fun h => nomatch h) (fun h => ?_)
    refine sxs_nil ?_
    refine sxs_if (t := false) ((Tws.tst (tw_or (tst_not (tst_val (ev_isi (T0 := "tuple") (r := true) Bt (ev_ixT (ev_var 0 rfl) ev_int rfl) (by decide +kernel) Bt.tuple (by show kitB "tuple" "tuple" = _; decide +kernel)))) fun h => (tw_or (tst_cm (cm_ne (ev_lenT Bt (ev_ixT (ev_var 0 rfl) ev_int rfl)) ev_int)) fun h => (tw_or1 (tst_not (tst_val (ev_call c G_whole p.1 trivial (fun _ h => h) (as_cons (Ev.s (ev_ixT (ev_ixT (ev_var 0 rfl) ev_int rfl) ev_int rfl)) as_nil)))))))).to rfl) (fun h => nomatch h) (fun h => ?_)
    refine sxs_nil ?_
    refine sxs_ret (ev_isi (T0 := "list") (r := true) Bt (ev_ixT (ev_ixT (ev_var 0 rfl) ev_int rfl) ev_int rfl) (by decide +kernel) Bt.list (by show kitB "list" "list" = _; decide +kernel)) ?_
    rfl
end
end Tl

/-! Exchanges: the plain law, the walk of the law. -/
namespace Tl
open PySem PySem.Spec PyProof.Rows L2 PV
/-! ### the plain law -/
def Sat (o n : List Page) (k : Nat) : List Page := if k ≤ n.length then n.take k ++ o.drop k else n
theorem Sat_len {o n : List Page} {k : Nat} (h : k ≤ n.length) : (n.take k ++ o.drop k).length = k + (o.length - k) := by
  rw [List.length_append, List.length_take, List.length_drop]; omega
theorem Sat_succ (o n : List Page) (k : Nat) : (match betw o n k with | none => [] | some x => [x]).foldl file1 (Sat o n k) = Sat o n (k + 1) := by
  by_cases h : k < n.length
  · obtain ⟨p, hp⟩ : ∃ p, n[k]? = some p := ⟨_, List.getElem?_eq_getElem h⟩
    have tk : n.take (k + 1) = n.take k ++ [p] := by rw [List.take_add_one, hp]; rfl
    have e1 : Sat o n k = n.take k ++ o.drop k := if_pos (Nat.le_of_lt h)
    have e2 : Sat o n (k + 1) = n.take k ++ (p :: o.drop (k + 1)) := by
      rw [Sat, if_pos (Nat.succ_le_of_lt h), tk, List.append_assoc]; rfl
    rw [betw_lt hp, e1, e2]
    by_cases hq : o[k]? = some p
    · rw [if_pos hq]
      have hl : k < o.length := (List.getElem?_eq_some_iff.mp hq).1
      show n.take k ++ o.drop k = _
      rw [List.drop_eq_getElem_cons hl, (List.getElem?_eq_some_iff.mp hq).2]
    · rw [if_neg hq]
      show (if k < (n.take k ++ o.drop k).length then (n.take k ++ o.drop k).set k p else (n.take k ++ o.drop k) ++ [p]) = _
      rw [Sat_len (Nat.le_of_lt h)]
      have ht : (n.take k).length = k := by rw [List.length_take]; omega
      by_cases hl : k < o.length
      · rw [if_pos (by omega), List.set_append_right (h := by omega), ht, Nat.sub_self, List.drop_eq_getElem_cons hl]
        rfl
      · rw [if_neg (by omega), List.drop_eq_nil_of_le (by omega), List.drop_eq_nil_of_le (by omega), List.append_nil]
  · have h' : n.length ≤ k := Nat.le_of_not_lt h
    rw [betw_ge h']
    show (Sat o n k).take k = _
    have e2 : Sat o n (k + 1) = n := if_neg (by omega)
    rw [e2]
    unfold Sat
    split
    · have e : k = n.length := by omega
      subst e
      rw [List.take_length, List.take_left' rfl]
    · exact List.take_of_length_le h'
theorem file_due (o n : List Page) : (due o n).foldl file1 o = n := by
  have key : ∀ k, ((List.range k).filterMap (betw o n)).foldl file1 o = Sat o n k := by
    intro k
    induction k with
    | zero => simp [Sat]
    | succ k ih => rw [fm_succ, List.foldl_append, ih]; exact Sat_succ o n k
  rw [due, key]
  unfold Sat
  split
  · have e : max o.length n.length = n.length := by omega
    rw [e, List.take_length, List.drop_eq_nil_of_le (by omega), List.append_nil]
  · rfl
theorem due_self (n : List Page) : due n n = [] := by
  unfold due
  rw [List.filterMap_eq_nil_iff]
  intro k hk
  have hk : k < n.length := by simpa using hk
  obtain ⟨p, hp⟩ : ∃ p, n[k]? = some p := ⟨_, List.getElem?_eq_getElem hk⟩
  rw [betw_lt hp, if_pos hp]
theorem due_mem {o n : List Page} {x : Exch} (h : x ∈ due o n) : x.2 = none ∨ ∃ p ∈ n, x.2 = some p := by
  unfold due at h
  obtain ⟨k, _, hk⟩ := List.mem_filterMap.mp h
  unfold betw at hk
  cases e : n[k]? with
  | none => rw [e] at hk; cases hk; exact .inl rfl
  | some p =>
    rw [e] at hk
    have hk : (if o[k]? = some p then none else some (k, some p)) = some x := hk
    split at hk
    · cases hk
    · cases hk
      exact .inr ⟨p, List.mem_of_getElem? e, rfl⟩
theorem due_len (o n : List Page) : (due o n).length ≤ max o.length n.length := fm_le _
theorem ex_cl {x : Exch} (h : ∀ p, x.2 = some p → okP p) : cl 3 (exD x) = true := by
  obtain ⟨k, p⟩ := x
  cases p with
  | none => rfl
  | some p =>
    have := pg_cl (h p rfl)
    simp only [exD, opD, cl, List.all_cons, List.all_nil, this, Bool.and_self]
theorem all_cl {α : Type} {f : α → PyData} {n : Nat} {xs : List α} (h : ∀ x ∈ xs, cl n (f x) = true) : cl (n + 1) (.list (xs.map f)) = true := by
  simp only [cl, List.all_map, List.all_eq_true]
  exact h
theorem new_len {ns : List Int} {old : List Page} (h : okOld ns old) : ∀ p ∈ newP ns old, p.2.length ≤ 1000 := fun p hp => by
  obtain ⟨k, _, rfl⟩ := List.mem_map.mp hp
  have h1 := (base_ok h k).2
  have h2 := (high_ok ns).2.2
  unfold newPage mod2 mod1
  split <;> split <;> simp <;> omega
theorem pg_sc (p : Page) : (pgT p).sc = true := sc_tup (scs_cons (sc_fz rfl) (scs_cons (sc_lst (by rw [List.map_map]; exact scs_all _ (fun r => sc_fz rfl) _)) scs_nil))
def handD (o n : List Page) : PyData := .tuple [.list (o.map pgD), .list (n.map pgD)]
theorem hand_cl {o n : List Page} (ho : okPs o) (hn : okPs n) : cl 4 (handD o n) = true := by
  have a : cl 3 (.list (o.map pgD)) = true := all_cl fun p hp => pg_cl (ho.2 p hp)
  have b : cl 3 (.list (n.map pgD)) = true := all_cl fun p hp => pg_cl (hn.2 p hp)
  simp only [handD, cl.eq_def 4, List.all_cons, List.all_nil, a, b, Bool.and_self]
/-- a page of a list that is being added to -/
def isPg (lim : Nat) (u : T) : Prop := ∃ l d l' rs, u = .tup l [.fz d, .lst l' rs] ∧ rs.length ≤ lim
def isEx (lim : Nat) (u : T) : Prop := ∃ l d c, u = .tup l [.fz d, c] ∧ (c = .fz .none ∨ isPg lim c)
theorem pg_is {p : Page} (h : p.2.length ≤ 1000) : isPg 1000 (pgT p) := ⟨none, _, none, _, rfl, by simpa using h⟩
theorem set_all {Q : Nat → T → Prop} {us : List T} {n : Nat} {v : T} (h : ∀ i u, us[i]? = some u → Q i u) (hv : Q n v) : ∀ i u, (us.set n v)[i]? = some u → Q i u := fun i u hu => by
  by_cases hi : n = i
  · subst hi
    by_cases hl : n < us.length
    · rw [List.getElem?_set_self hl] at hu; cases hu; exact hv
    · rw [List.getElem?_eq_none (by simpa using hl)] at hu; cases hu
  · rw [List.getElem?_set_ne hi] at hu; exact h i u hu
section
variable {P : Program} {w : World} {K : PySem.W.Frag} {mg : Str → Option Value} {base : Heap} {C : Ec → Addr}
abbrev s_law : Stmt := top 15
theorem sc_law : FnScope ["script", "old", "new", "handed", "told", "pages", "page", "k", "one"] ["script"] (defScope s_law) := ⟨rfl, rfl, rfl, by decide +kernel, rfl, by decide +kernel, by decide +kernel⟩
theorem ok_law (Bt : Blt mg) (G_old : C_old P w K mg base C) (G_new : C_new P w K mg base C) (G_pages_copy : C_pages_copy P w K mg base C) (G_betw : C_betw P w K mg base C) (G_is_exchange : C_is_exchange P w K mg base C) (G_due : C_due P w K mg base C) (G_filed : C_filed P w K mg base C) (D : Df K mg "law" s_law) : CalleeP P w K mg base 3 "law" ["script"] (spP K C 1 (fun ns : List Int => [kn (ns.map .int)]) (fun _ => True) (fun ns => is (.ok (fz (.bool true))))) := by
  refine callee_ofP D sc_law (fun _ _ _ _ _ _ us hl => match us, hl with | [_], _ => rfl) (fun f cdv A outer s H E c ns _ => ?_)
  show Sxs _ _ _ [some (kn (ns.map .int)), none, none, none, none, none, none, none, none] _
  have hO : okOld ns (oldP ns) := old_ok ns
  generalize ho : oldP ns = o at hO
  have hN := new_ok hO
  have hNl := new_len hO
  generalize hn : newP ns o = n at hN hNl
  have oer := lst_er none pgT pgD pgT_er o
  have ner := lst_er none pgT pgD pgT_er n
  have der := lst_er none exT exD exT_er (due o n)
  have dl : (due o n).length ≤ 1000 := Nat.le_trans (due_len o n) (Nat.max_le.mpr ⟨hO.1.1, hN.1⟩)
  have clo : cl 3 (.list (o.map pgD)) = true := all_cl fun p hp => pg_cl (hO.1.2 p hp)
  have cln : cl 3 (.list (n.map pgD)) = true := all_cl fun p hp => pg_cl (hN.2 p hp)
  have cld : cl 4 (.list ((due o n).map exD)) = true := all_cl fun x hx => ex_cl fun p hp => by
    rcases due_mem hx with z | ⟨q, hq, z⟩
    · rw [z] at hp; cases hp
    · rw [z] at hp; cases hp; exact hN.2 _ hq
  have clh := hand_cl hO.1 hN
  refine sxs_setT 1 (t_call c G_old ns trivial (fun _ h => h) (as_cons (evs_kn 0 rfl) as_nil)) ?_ c.nd
  rw [ho]
  refine sxs_freezeT 1 rfl ?_
  rw [oer]
  refine sxs_setT 2 (t_call c G_new (ns, o) hO (fun _ h => h) (as_cons (evs_kn 0 rfl) (as_cons (Ev.s (ev_var 1 rfl)) as_nil))) ?_ c.nd
  rw [hn]
  refine sxs_freezeT 2 rfl ?_
  rw [ner]
  refine sxs_set 3 ((FrT.ev (t_tup (ta_cons (t_call c G_pages_copy o hO.1.1 (fun _ h => h) (as_cons (Ev.s (ev_var 1 rfl)) as_nil)) (ta_cons (t_call c G_pages_copy n hN.1 (fun _ h => h) (as_cons (Ev.s (ev_var 2 rfl)) as_nil)) ta_nil)))).to (e := handD o n) (by rw [er_tup, List.map_cons, List.map_cons, List.map_nil, oer, ner]; rfl)) ?_ c.nd
  refine sxs_setT 4 (t_call c G_betw (o, n) ⟨hO.1, hN⟩ (fun _ h => h) (as_cons (Ev.s (ev_ixT (ev_var 3 rfl) ev_int rfl)) (as_cons (Ev.s (ev_ixT (ev_var 3 rfl) ev_int rfl)) as_nil))) ?_ c.nd
  show Sxs _ _ _ [some (kn (ns.map .int)), some (fz (.list (o.map pgD))), some (fz (.list (n.map pgD))), some (fz (handD o n)), some (tr (.lst none ((due o n).map exT))), none, none, none, none] _
  have fz1 : FrzL [some (kn (ns.map .int)), some (fz (.list (o.map pgD))), some (fz (.list (n.map pgD))), some (fz (handD o n)), some (tr (.lst none ((due o n).map exT))), none, none, none, none] [some (kn (ns.map .int)), some (fz (.list (o.map pgD))), some (fz (.list (n.map pgD))), some (fz (handD o n)), some (fz (.list ((due o n).map exD))), none, none, none, none] :=
    .keep brw_kn (.keep brw_fz (.keep brw_fz (.keep brw_fz (.keep (brw_trD der) (.skip (.skip (.skip (.skip .nil))))))))
  refine sxs_if (t := false) (tst_borrow fz1 ((Tws.tst (tw_or (tst_not (tst_val (ev_isi (T0 := "list") (r := true) Bt (ev_var 4 rfl) (by decide +kernel) Bt.list (by show kitB "list" "list" = _; decide +kernel)))) fun h => (tw_or (tst_not (tst_val (ev_all (ns := (due o n).map fun _ => true) c Bt (Bv.bw (Fr.bv (Fr.to (fr_lc (ks := (((due o n).map fun _ => true).map PyData.bool).map some) [("one", 8)] c (iv_list (ev_var 4 rfl)) (fun s H Cc cl fp => have cb := c.blk s H Cc cl fp; tg_name 8 cb.nd) (szl (by rw [List.length_map]; omega)) (by simp) (fun i d r hd hr => ?_)) (keep_all _))))))) fun h => (tw_or1 (tst_cm (cm_neD c (Ev.rv (ev_var 4 rfl)) (Bv.rv (Fr.bv (fr_call c G_due (o, n) ⟨hO.1, hN⟩ (fun _ h => h) (as_cons (Ev.s (ev_var 1 rfl)) (as_cons (Ev.s (ev_var 2 rfl)) as_nil))))) (cl_shaped cld) (cl_shaped cld))))))).to ?_)) (fun h => nomatch h) (fun h => ?_)
  · rw [List.getElem?_map] at hd
    obtain ⟨x, hx, rfl⟩ := Option.map_eq_some_iff.mp hd
    rw [List.getElem?_map, List.getElem?_map, List.getElem?_map, hx] at hr
    obtain rfl := (Option.some.inj hr).symm
    refine ⟨⟨(fun h => nomatch h), rfl⟩, true, rfl, (fun h => nomatch h), fun _ => ⟨_, rfl, fun s H Cc cl fp => ?_⟩⟩
    exact ev_call (c.blk s H Cc cl fp) G_is_exchange x trivial (fun _ h => h) (as_cons (Ev.s (ev_var 8 rfl)) as_nil)
  · rw [cl_same cld rfl]; simp
  refine sxs_nil ?_
  refine sxs_setT 5 (FrT.to (t_borrow fz1 (t_call c G_filed (o, due o n) ⟨hO.1.1, dl⟩ (fun _ h => h) (as_cons (Ev.s (ev_ixT (ev_var 3 rfl) ev_int rfl)) (as_cons (Ev.s (ev_var 4 rfl)) as_nil))) (sc_lst (scs_all _ pg_sc _))) (u := .lst none (n.map pgT)) (by rw [file_due])) ?_ c.nd
  show Sxs _ _ _ [some (kn (ns.map .int)), some (fz (.list (o.map pgD))), some (fz (.list (n.map pgD))), some (fz (handD o n)), some (tr (.lst none ((due o n).map exT))), some (tr (.lst none (n.map pgT))), none, none, none] _
  have fz2 : FrzL [some (kn (ns.map .int)), some (fz (.list (o.map pgD))), some (fz (.list (n.map pgD))), some (fz (handD o n)), some (tr (.lst none ((due o n).map exT))), some (tr (.lst none (n.map pgT))), none, none, none] [some (kn (ns.map .int)), some (fz (.list (o.map pgD))), some (fz (.list (n.map pgD))), some (fz (handD o n)), some (fz (.list ((due o n).map exD))), some (fz (.list (n.map pgD))), none, none, none] :=
    .keep brw_kn (.keep brw_fz (.keep brw_fz (.keep brw_fz (.keep (brw_trD der) (.keep (brw_trD ner) (.skip (.skip (.skip .nil))))))))
  refine sxs_if (t := false) (tst_borrow fz2 ((Tws.tst (tw_or (tst_not (tst_val (ev_isi (T0 := "list") (r := true) Bt (ev_var 5 rfl) (by decide +kernel) Bt.list (by show kitB "list" "list" = _; decide +kernel)))) fun h => (tw_or (tst_cm (cm_neD c (Ev.rv (ev_var 5 rfl)) (Ev.rv (ev_var 2 rfl)) (cl_shaped cln) (cl_shaped cln))) fun h => (tw_or (tst_cm (cm_neD (db := handD o n) c (Ev.rv (ev_var 3 rfl)) (Ev.rv (ev_tup (eva_cons (ev_var 1 rfl) (eva_cons (ev_var 2 rfl) eva_nil)))) (cl_shaped clh) (cl_shaped clh))) fun h => (tw_or1 (tst_cm (cm_neD c (Ev.rv (ev_var 4 rfl)) (Bv.rv (Fr.bv (fr_call c G_due (o, n) ⟨hO.1, hN⟩ (fun _ h => h) (as_cons (Ev.s (ev_var 1 rfl)) (as_cons (Ev.s (ev_var 2 rfl)) as_nil))))) (cl_shaped cld) (cl_shaped cld)))))))).to (by rw [cl_same cld rfl, cl_same cln rfl, cl_same clh rfl]; rfl))) (fun h => nomatch h) (fun h => ?_)
  refine sxs_nil ?_
  have cl0 : cl 1 (.list []) = true := rfl
  refine sxs_if (t := false) (tst_borrow fz2 ((Tws.tst (tw_or (tst_cm (cm_neD c (Ev.rv (Ev.to (FrT.ev (t_call c G_betw (n, n) ⟨hN, hN⟩ (fun _ h => h) (as_cons (Ev.s (ev_ixT (ev_var 3 rfl) ev_int rfl)) (as_cons (Ev.s (ev_var 5 rfl)) as_nil)))) (e := .list []) (by rw [due_self, er_lst]; rfl))) (Bv.rv (Fr.bv (fr_lst eva_nil))) (cl_shaped cl0) (cl_shaped cl0))) fun h => (tw_or1 (tst_cm (cm_neD c (Ev.rv (Ev.to (FrT.ev (t_call c G_filed (o, []) ⟨hO.1.1, Nat.zero_le _⟩ (fun _ h => h) (as_cons (Ev.s (ev_ixT (ev_var 3 rfl) ev_int rfl)) (as_cons (Ev.s (Fr.ev (fr_lst eva_nil))) as_nil)))) oer)) (Ev.rv (ev_var 1 rfl)) (cl_shaped clo) (cl_shaped clo)))))).to (by rw [cl_same cl0 rfl, cl_same clo rfl]; rfl))) (fun h => nomatch h) (fun h => ?_)
  refine sxs_nil ?_
  -- the pages are added to
  refine sxs_forTr (St0 := Unit) 5 6 c (fun _ => [some (kn (ns.map .int)), some (fz (.list (o.map pgD))), some (fz (.list (n.map pgD))), some (fz (handD o n)), some (tr (.lst none ((due o n).map exT))), none, none, none, none]) (fun k _ us => us.length = n.length ∧ ∀ i u, us[i]? = some u → isPg (if k ≤ i then 1000 else 1001) u) () (by decide) (fun _ => (by decide : 5 < 9)) (Wk.refl _) ⟨by simp, fun i u hu => ?_⟩ (fun k _ us h => by rw [h.1]; simp) (fun q0 k _ us u hR hu => ?_) (fun q0 _ us hR => ?_)
  · rw [List.getElem?_map] at hu
    obtain ⟨p, hp, rfl⟩ := Option.map_eq_some_iff.mp hu
    rw [if_pos (Nat.zero_le _)]
    exact pg_is (hNl p (List.mem_of_getElem? hp))
  · obtain ⟨l, d, l', rs, rfl, hrs⟩ := hR.2 k u hu
    rw [if_pos (Nat.le_refl _)] at hrs
    have hk : k < us.length := (List.getElem?_eq_some_iff.mp hu).1
    refine ⟨(fun d h => nomatch h), fun q => ?_⟩
    show Sxs _ _ _ [some (kn (ns.map .int)), some (fz (.list (o.map pgD))), some (fz (.list (n.map pgD))), some (fz (handD o n)), some (tr (.lst none ((due o n).map exT))), some (tr (.lst (some q0) (us.set k (.tup (some q) [.fz d, .lst l' rs])))), some (adr q), none, none] _
    refine sxs_appendN 5 rfl (nd_ixT (nd_adr (π := [k]) (ts := [.fz d, .lst l' rs]) 6 5 rfl rfl (.inr ?_)) ev_int rfl (l := some q) (ts := [.fz d, .lst l' rs]) ?_ rfl) (l := l') (ts := rs) ?_ (Ev.t ev_str) (szl' (by omega)) ?_
    · rw [at_set hk]; rfl
    · rw [at_set hk]; rfl
    · show T.at? _ [k, 1] = _
      rw [at_set hk]; rfl
    · refine sxs_nil ⟨_, ?_, (), us.set k (.tup (some q) [.fz d, .lst l' (rs ++ [.fz (.str "z")])]), rfl, by rw [List.length_set]; exact hR.1, ?_⟩
      · refine Wk.of (wkl_some rfl (wkl_some rfl (wkl_some rfl (wkl_some rfl (wkl_some rfl (wkl_some ?_ (wkl_none (wkl_none (wkl_none wkl_nil)))))))))
        show some (tr ((T.lst (some q0) (us.set k _)).put [k, 1] _)) = _
        rw [put_set hk]
        rfl
      · refine set_all (Q := fun i u => isPg (if k + 1 ≤ i then 1000 else 1001) u) (fun i u hu' => ?_) ⟨_, _, _, _, rfl, ?_⟩
        · obtain ⟨l2, d2, l3, rs2, e, hl⟩ := hR.2 i u hu'
          refine ⟨l2, d2, l3, rs2, e, ?_⟩
          by_cases hi : k + 1 ≤ i
          · rw [if_pos hi]; rw [if_pos (by omega)] at hl; exact hl
          · rw [if_neg hi]; split at hl <;> omega
        · rw [if_neg (by omega), List.length_append]; simp; omega
  -- told and what was handed in are as they were
  · refine sxs_weak (ρ' := [some (kn (ns.map .int)), some (fz (.list (o.map pgD))), some (fz (.list (n.map pgD))), some (fz (handD o n)), some (tr (.lst none ((due o n).map exT))), none, none, none, none]) (Wk.of (wkl_some rfl (wkl_some rfl (wkl_some rfl (wkl_some rfl (wkl_some rfl (wkl_none (wkl_none (wkl_none (wkl_none wkl_nil)))))))))) ?_
    refine sxs_if (t := false) (tst_borrow fz1 ((Tws.tst (tw_or (tst_cm (cm_neD c (Ev.rv (ev_var 4 rfl)) (Bv.rv (Fr.bv (fr_call c G_due (o, n) ⟨hO.1, hN⟩ (fun _ h => h) (as_cons (Ev.s (ev_var 1 rfl)) (as_cons (Ev.s (ev_var 2 rfl)) as_nil))))) (cl_shaped cld) (cl_shaped cld))) fun h => (tw_or1 (tst_cm (cm_neD (db := handD o n) c (Ev.rv (ev_var 3 rfl)) (Ev.rv (ev_tup (eva_cons (ev_var 1 rfl) (eva_cons (ev_var 2 rfl) eva_nil)))) (cl_shaped clh) (cl_shaped clh)))))).to (by rw [cl_same cld rfl, cl_same clh rfl]; rfl))) (fun h => nomatch h) (fun h => ?_)
    refine sxs_nil ?_
    refine sxs_forTrP (St0 := Unit) 4 7 6 c (fun _ => [some (kn (ns.map .int)), some (fz (.list (o.map pgD))), some (fz (.list (n.map pgD))), some (fz (handD o n)), none, none, none, none, none]) (fun k _ us => us.length = (due o n).length ∧ ∀ i u, us[i]? = some u → isEx (if k ≤ i then 1000 else 1001) u) () (by decide) (fun _ => (by decide : 4 < 9)) (Wk.refl _) ⟨by simp, fun i u hu => ?_⟩ (fun k _ us h => by rw [h.1]; simp) (fun q0 k _ us u hR hu => ?_) (fun q0 _ us hR => ?_)
    · rw [List.getElem?_map] at hu
      obtain ⟨x, hx, rfl⟩ := Option.map_eq_some_iff.mp hu
      rw [if_pos (Nat.zero_le _)]
      refine ⟨none, _, _, rfl, ?_⟩
      rcases due_mem (List.mem_of_getElem? hx) with z | ⟨p, hp, z⟩
      · rw [z]; exact .inl rfl
      · rw [z]; exact .inr (pg_is (hNl p hp))
    · obtain ⟨l1, d1, c1, rfl, hc1⟩ := hR.2 k u hu
      rw [if_pos (Nat.le_refl _)] at hc1
      have hk : k < us.length := (List.getElem?_eq_some_iff.mp hu).1
      have keep : ∀ v, isEx 1001 v → ∀ i u, (us.set k v)[i]? = some u → isEx (if k + 1 ≤ i then 1000 else 1001) u := fun v hv => by
        refine set_all (Q := fun i u => isEx (if k + 1 ≤ i then 1000 else 1001) u) (fun i u hu' => ?_) (by rw [if_neg (by omega)]; exact hv)
        obtain ⟨l2, d2, c2, e, hc2⟩ := hR.2 i u hu'
        refine ⟨l2, d2, c2, e, hc2.imp id fun ⟨l3, d3, l4, rs, e2, hl⟩ => ⟨l3, d3, l4, rs, e2, ?_⟩⟩
        by_cases hi : k + 1 ≤ i
        · rw [if_pos hi]; rw [if_pos (by omega)] at hl; exact hl
        · rw [if_neg hi]; split at hl <;> omega
      refine ⟨l1, d1, c1, rfl, fun q => ?_⟩
      rcases hc1 with rfl | ⟨l, d, l', rs, rfl, hrs⟩
      · show Sxs _ _ _ [some (kn (ns.map .int)), some (fz (.list (o.map pgD))), some (fz (.list (n.map pgD))), some (fz (handD o n)), some (tr (.lst (some q0) (us.set k (.tup l1 [.fz d1, .fz .none])))), none, some (fz .none), some (fz d1), none] _
        refine sxs_if (tst_cm (cm_notN (ev_var 6 rfl))) (fun h => nomatch h) (fun h => ?_)
        refine sxs_nil ?_
        refine sxs_nil ⟨_, ?_, (), us.set k (.tup l1 [.fz d1, .fz .none]), rfl, by rw [List.length_set]; exact hR.1, keep _ ⟨_, _, _, rfl, .inl rfl⟩⟩
        exact Wk.of (wkl_some rfl (wkl_some rfl (wkl_some rfl (wkl_some rfl (wkl_some rfl (wkl_none (wkl_none (wkl_none (wkl_none wkl_nil)))))))))
      · show Sxs _ _ _ [some (kn (ns.map .int)), some (fz (.list (o.map pgD))), some (fz (.list (n.map pgD))), some (fz (handD o n)), some (tr (.lst (some q0) (us.set k (.tup l1 [.fz d1, .tup (some q) [.fz d, .lst l' rs]])))), none, some (adr q), some (fz d1), none] _
        refine sxs_if (tst_cm (cm_notN_adr 6 rfl)) (fun h => ?_) (fun h => nomatch h)
        refine sxs_appendN 4 rfl (nd_ixT (nd_adr (π := [k, 1]) (ts := [.fz d, .lst l' rs]) 6 4 rfl rfl (.inr ?_)) ev_int rfl (l := some q) (ts := [.fz d, .lst l' rs]) ?_ rfl) (l := l') (ts := rs) ?_ (Ev.t ev_str) (szl' (by omega)) ?_
        · rw [at_set hk]; rfl
        · rw [at_set hk]; rfl
        · show T.at? _ [k, 1, 1] = _
          rw [at_set hk]; rfl
        · refine sxs_nil ?_
          refine sxs_nil ⟨_, ?_, (), us.set k (.tup l1 [.fz d1, .tup (some q) [.fz d, .lst l' (rs ++ [.fz (.str "z")])]]), rfl, by rw [List.length_set]; exact hR.1, keep _ ⟨_, _, _, rfl, .inr ⟨_, _, _, _, rfl, ?_⟩⟩⟩
          · refine Wk.of (wkl_some rfl (wkl_some rfl (wkl_some rfl (wkl_some rfl (wkl_some ?_ (wkl_none (wkl_none (wkl_none (wkl_none wkl_nil)))))))))
            show some (tr ((T.lst (some q0) (us.set k _)).put [k, 1, 1] _)) = _
            rw [put_set hk]
            rfl
          · rw [List.length_append]; simp; omega
    · refine sxs_ret (Ev.to (ev_cm (cm_eqD (db := handD o n) c (Ev.rv (ev_var 3 rfl)) (Ev.rv (ev_tup (eva_cons (ev_var 1 rfl) (eva_cons (ev_var 2 rfl) eva_nil)))) (cl_shaped clh) (cl_shaped clh))) (congrArg PyData.bool (cl_same clh rfl))) ?_
      rfl
end
end Tl

/-! Exchanges: the head, and the end. -/
namespace Tl
open PySem PySem.Spec PyProof.Rows L2 PV
def fns : List He.DefD := [dd "page_copy" s_page_copy, dd "filings_between" s_filings_between, dd "filed" s_filed, dd "_law_cell_at" s_cell_at, dd "_law_whole" s_whole, dd "_law_mixed" s_mixed, dd "_law_first" s_first, dd "_law_row" s_row, dd "_law_old" s_old, dd "_law_new" s_new, dd "_law_pages_copy" s_pages_copy, dd "_law_due" s_due, dd "_law_is_exchange" s_is_exchange, dd "law" s_law]
def glos : List He.Fa := [.glo "page_copy", .glo "filings_between", .glo "filed", .glo "_law_cell_at", .glo "_law_whole", .glo "_law_mixed", .glo "_law_first", .glo "_law_row", .glo "_law_old", .glo "_law_new", .glo "_law_pages_copy", .glo "_law_due", .glo "_law_is_exchange", .glo "law"]
abbrev R : PySem.W.OpenRow := PySem.W.OpenLaw.row PySem.Challenge.rw_trueleaf_k72_exchanges
abbrev hk : PySem.W.Hook := He.hookD 4 (bltFa ++ glos) fns
def ob (s : PySem.W.SharedT) : He.AlD := He.obsDG 4 (bltFa ++ glos) fns (HandSHeadRun.getT s)
theorem ob_eq (s : PySem.W.SharedT) : ob s = hk.obs s.abs := He.obsDG_eq (HandSHeadRun.getT_eq s)
def loose : List Str := ["page_copy", "filings_between", "filed", "_law_cell_at", "_law_whole", "_law_mixed", "_law_first", "_law_row", "_law_old", "_law_new", "_law_pages_copy", "_law_due", "_law_is_exchange"]
theorem run (w : World) : HandSHeadRun.RunEq R (PySem.W.view R.prog [15]) hk ob 2000 loose w := by
  intro os
  kernel_rfl
theorem made {P : Program} {w : World} {K : PySem.W.Frag} {h : Heap} {mg : Str → Option Value} (C : Ec → Addr) (X : K.In h) (G : h.Ns mainGlobals mg) (c : He.SaysD (bltFa ++ glos) fns K) (base : Heap) : CalleeP P w K mg base 3 "law" ["script"] (spLaw K C fun _ => True) := by
  have Bt := blt_of X G c
  have g1 : C_page_copy P w K mg base C := ok_page_copy Bt (df_of X G c 0 17)
  have g2 : C_betw P w K mg base C := ok_filings_between Bt g1 (df_of X G c 1 18)
  have g3 : C_filed P w K mg base C := ok_filed Bt g1 (df_of X G c 2 19)
  have g4 : C_cell_at P w K mg base C := ok_cell_at Bt (df_of X G c 3 20)
  have g5 : C_whole P w K mg base C := ok_whole Bt (df_of X G c 4 21)
  have g6 : C_mixed P w K mg base C := ok_mixed (df_of X G c 5 22)
  have g7 : C_first P w K mg base C := ok_first Bt (df_of X G c 6 23)
  have g8 : C_row P w K mg base C := ok_row Bt (df_of X G c 7 24)
  have g9 : C_old P w K mg base C := ok_old Bt g6 g4 g7 g8 (df_of X G c 8 25)
  have g10 : C_new P w K mg base C := ok_new Bt g6 g4 g8 (df_of X G c 9 26)
  have g11 : C_pages_copy P w K mg base C := ok_pages_copy Bt (df_of X G c 10 27)
  have g12 : C_due P w K mg base C := ok_due Bt (df_of X G c 11 28)
  have g13 : C_is_exchange P w K mg base C := ok_is_exchange Bt g5 (df_of X G c 12 29)
  exact ok_law Bt g9 g10 g11 g2 g13 g12 g3 (df_of X G c 13 30)
end Tl
open PySem PySem.W PyProof.Rows PySem.Calls
theorem PySem.Challenge.cw_trueleaf_k72_exchanges_holds : PySem.Challenge.rw_trueleaf_k72_exchanges.Holds := by
  w_on; o_law
  refine HandSHeadRun.head_any (r := Tl.R) (q := view Tl.R.prog [15]) (H := Tl.hk) (ob := Tl.ob) (M := 2000) (loose := Tl.loose) (d := HandSHeadRun.topDef Tl.R.prog 15) (kwd := []) Tl.ob_eq (by kernel_rfl) (fun s => by kernel_rfl) Tl.run (by kernel_rfl) (by kernel_rfl) (by kernel_rfl) (by rfl)
    (by first | assumption | decide +kernel) (by decide +kernel) ⟨rfl, rfl, rfl, rfl, rfl, by decide +kernel⟩ ?hw ?hc
  case hw => w_witness2
  case hc =>
    refine PV.law_end (most := 63) (k := 3) (pre := fun _ => True) rfl (by decide) (by kernel_rfl) ⟨rfl, by decide, by decide⟩ (by kernel_rfl) (fun _ _ => trivial) fun w mg h Y G => ?_
    obtain ⟨K, KX, c⟩ := Y
    exact ⟨K, fun _ => 0, KX, fun base => Tl.made (fun _ => 0) KX G c base⟩
