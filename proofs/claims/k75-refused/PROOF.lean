import PyProof.Rows.All
import Wide.All
import OpenK.AllK
import Wide.FinOn
import PyProof.EqAt
import PyProof.EqKinds
import PyProof.TupleCall
import HandS.ForMost
import HandS.ForExc
import HandS.CallSlots
import HandS.TryMany
import HandS.ExcIs
import HandS.IsInst
import HandS.Defaults
import HandS.Ends
import HandS.Head0
import HandS.Head1
import HandS.Head2
import HandS.HeadEnd
import HandS.HeadHook1
import HandS.HeadHook2
import HandS.Dict
import HandS.WordsDict
import HandS.Wide
import HandS.Deep
import HandS.More
import HandS.DictComp
import PySem.Challenge.RW_trueleaf_k75_refused_once
set_option Elab.async false
set_option linter.all false
set_option autoImplicit false
set_option maxRecDepth 100000
set_option maxHeartbeats 3999000
/-! The pure-value layer: core. -/
namespace PV
open PySem PySem.Spec PyProof.Rows L2

abbrev St := L2.St
inductive Ec where
  | badRow | noPart | ring | tooLong | badCall | deep | noShort | badForm | badWord | badPaper | noGrowth | twice | noFoot | noMark | noLaying | badName | noRow | nothingDone
  deriving DecidableEq

abbrev Mini := List (Addr × HO)
theorem same_seqT {K : PySem.W.Frag} {H H' : Hp} {a : Addr} {xs : List V} (e : Same H H') (h : SqT K H a xs) : SqT K H' a xs := by
  rcases h with (h | ⟨o, h⟩) | h
  · exact .inl (.inl (e _ _ h))
  · exact .inl (.inr ⟨o, e _ _ h⟩)
  · exact .inr h
theorem same_rd {H H' : Hp} {a : Addr} {o : HO} (e : Same H H') (h : Rd H a o) : Rd H' a o := by
  rcases h with h | ⟨u, h⟩
  · exact .inl (e _ _ h)
  · exact .inr ⟨u, e _ _ h⟩
def kD : Key → PyData
  | .inl i => .int i
  | .inr s => .str s
/-- a dict's pairs as data -/
def dctD (qs : List (Key × PyData)) : PyData := .dict (qs.map fun q => (kD q.1, q.2))
mutual
/-- the value v is the data d, by the heap H -/
inductive Dq (K : PySem.W.Frag) (H : Hp) : V → PyData → Prop
  | non : Dq K H .non .none
  | bl (b : Bool) : Dq K H (.bl b) (.bool b)
  | int (i : Int) : Dq K H (.int i) (.int i)
  | str (x : Str) : Dq K H (.str x) (.str x)
  | lst {a : Addr} {xs : List V} {ds : List PyData} : Rd H a (.lst xs) → DqAll K H xs ds → Dq K H (.ref a) (.list ds)
  | tup {a : Addr} {xs : List V} {ds : List PyData} : H a = some (.tup xs) → DqAll K H xs ds → Dq K H (.ref a) (.tuple ds)
  | dct {a : Addr} {o : Obj} {ps : List (Key × V)} {qs : List (Key × PyData)} : H a = some (.frz o (.dK ps)) → DqKv K H ps qs → Dq K H (.ref a) (dctD qs)
inductive DqAll (K : PySem.W.Frag) (H : Hp) : List V → List PyData → Prop
  | nil : DqAll K H [] []
  | cons {v : V} {vs : List V} {d : PyData} {ds : List PyData} : Dq K H v d → DqAll K H vs ds → DqAll K H (v :: vs) (d :: ds)
inductive DqKv (K : PySem.W.Frag) (H : Hp) : List (Key × V) → List (Key × PyData) → Prop
  | nil : DqKv K H [] []
  | cons {k : Key} {v : V} {ps : List (Key × V)} {d : PyData} {qs : List (Key × PyData)} : Dq K H v d → DqKv K H ps qs → DqKv K H ((k, v) :: ps) ((k, d) :: qs)
end
section
variable {K : PySem.W.Frag} {H H' : Hp}
theorem dq_mono (e : Same H H') (d : PyData) (v : V) (h : Dq K H v d) : Dq K H' v d :=
  Dq.rec (motive_1 := fun v d _ => Dq K H' v d) (motive_2 := fun vs ds _ => DqAll K H' vs ds) (motive_3 := fun ps qs _ => DqKv K H' ps qs)
    .non (fun b => .bl b) (fun i => .int i) (fun x => .str x) (fun h1 _ h2 => .lst (same_rd e h1) h2) (fun h1 _ h2 => .tup (e _ _ h1) h2) (fun h1 _ h2 => .dct (e _ _ h1) h2)
    .nil (fun _ _ a b => .cons a b) .nil (fun _ _ a b => .cons a b) h
theorem dqAll_mono (e : Same H H') (ds : List PyData) (vs : List V) (h : DqAll K H vs ds) : DqAll K H' vs ds :=
  DqAll.rec (motive_1 := fun v d _ => Dq K H' v d) (motive_2 := fun vs ds _ => DqAll K H' vs ds) (motive_3 := fun ps qs _ => DqKv K H' ps qs)
    .non (fun b => .bl b) (fun i => .int i) (fun x => .str x) (fun h1 _ h2 => .lst (same_rd e h1) h2) (fun h1 _ h2 => .tup (e _ _ h1) h2) (fun h1 _ h2 => .dct (e _ _ h1) h2)
    .nil (fun _ _ a b => .cons a b) .nil (fun _ _ a b => .cons a b) h
theorem dqKv_mono (e : Same H H') (qs : List (Key × PyData)) (ps : List (Key × V)) (h : DqKv K H ps qs) : DqKv K H' ps qs :=
  DqKv.rec (motive_1 := fun v d _ => Dq K H' v d) (motive_2 := fun vs ds _ => DqAll K H' vs ds) (motive_3 := fun ps qs _ => DqKv K H' ps qs)
    .non (fun b => .bl b) (fun i => .int i) (fun x => .str x) (fun h1 _ h2 => .lst (same_rd e h1) h2) (fun h1 _ h2 => .tup (e _ _ h1) h2) (fun h1 _ h2 => .dct (e _ _ h1) h2)
    .nil (fun _ _ a b => .cons a b) .nil (fun _ _ a b => .cons a b) h
end
mutual
theorem Dq.dp {K : PySem.W.Frag} {H : Hp} : ∀ (d : PyData) (v : V), Dq K H v d → d.canLay0 = true → L2.Dp K H v d
  | .none, _, h, _ => by cases h; exact .non
  | .bool b, _, h, _ => by cases h; exact .bl b
  | .int i, _, h, _ => by cases h; exact .int i
  | .str x, _, h, _ => by cases h; exact .str x
  | .list ds, _, h, c => by
    cases h with
    | lst hs ha => exact .lst (.inl hs) (DqAll.dp ds _ ha c)
  | .tuple ds, _, h, c => by
    cases h with
    | tup hs ha => exact .tup (.of hs) (DqAll.dp ds _ ha c)
  | .dict _, _, h, c => by simp [PyData.canLay0] at c
theorem DqAll.dp {K : PySem.W.Frag} {H : Hp} : ∀ (ds : List PyData) (vs : List V), DqAll K H vs ds → PyData.canLayAll0 ds = true → L2.DpAll K H vs ds
  | [], _, h, _ => by cases h; exact .nil
  | d :: ds, _, h, c => by
    have c1 : (d.canLay0 && PyData.canLayAll0 ds) = true := c
    rw [Bool.and_eq_true] at c1
    cases h with
    | cons h1 h2 => exact .cons (Dq.dp d _ h1 c1.1) (DqAll.dp ds _ h2 c1.2)
end
section
variable {K : PySem.W.Frag} {H : Hp}
theorem DqAll_len : ∀ {vs : List V} {ds : List PyData}, DqAll K H vs ds → vs.length = ds.length
  | _, _, .nil => rfl
  | _, _, .cons _ t => congrArg (· + 1) (DqAll_len t)
theorem DqAll_app : ∀ {vs : List V} {ds : List PyData} {ws : List V} {es : List PyData}, DqAll K H vs ds → DqAll K H ws es → DqAll K H (vs ++ ws) (ds ++ es)
  | _, _, _, _, .nil, h => h
  | _, _, _, _, .cons a t, h => .cons a (DqAll_app t h)
theorem DqAll_get : ∀ {vs : List V} {ds : List PyData} {i : Nat} {d : PyData}, DqAll K H vs ds → ds[i]? = some d → ∃ v, vs[i]? = some v ∧ Dq K H v d
  | _, _, _, _, .nil, e => by simp at e
  | _, _, 0, _, .cons a _, e => by simp at e; subst e; exact ⟨_, by simp, a⟩
  | _, _, i + 1, d, .cons _ t, e => by
    obtain ⟨v, h1, h2⟩ := DqAll_get (i := i) (d := d) t (by simpa using e)
    exact ⟨v, by simpa using h1, h2⟩
theorem DqAll_getV : ∀ {vs : List V} {ds : List PyData} {i : Nat} {v : V}, DqAll K H vs ds → vs[i]? = some v → ∃ d, ds[i]? = some d ∧ Dq K H v d
  | _, _, _, _, .nil, e => by simp at e
  | _, _, 0, _, .cons a _, e => by simp at e; subst e; exact ⟨_, by simp, a⟩
  | _, _, i + 1, v, .cons _ t, e => by
    obtain ⟨d, h1, h2⟩ := DqAll_getV (i := i) (v := v) t (by simpa using e)
    exact ⟨d, by simpa using h1, h2⟩
theorem DqAll_set : ∀ {vs : List V} {ds : List PyData} {v : V} {d : PyData} (i : Nat), DqAll K H vs ds → Dq K H v d → DqAll K H (vs.set i v) (ds.set i d)
  | _, _, _, _, _, .nil, _ => .nil
  | _, _, _, _, 0, .cons _ t, h => .cons h t
  | _, _, _, _, i + 1, .cons a t, h => .cons a (DqAll_set i t h)
theorem DqAll_take : ∀ {vs : List V} {ds : List PyData} (n : Nat), DqAll K H vs ds → DqAll K H (vs.take n) (ds.take n)
  | _, _, 0, _ => .nil
  | _, _, _ + 1, .nil => .nil
  | _, _, n + 1, .cons a t => .cons a (DqAll_take n t)
theorem DqAll_drop : ∀ {vs : List V} {ds : List PyData} (n : Nat), DqAll K H vs ds → DqAll K H (vs.drop n) (ds.drop n)
  | _, _, 0, h => h
  | _, _, _ + 1, .nil => .nil
  | _, _, n + 1, .cons _ t => DqAll_drop n t
end

/-- what a name holds: by the frozen heap, the value, the objects that it owns -/
structure Slot where
  R : PySem.W.Frag → Hp → V → Mini → Prop
  mono : ∀ (K : PySem.W.Frag) (F F' : Hp) (v : V) (m : Mini), Same F F' → R K F v m → R K F' v m
/-- data that never changes -/
def fz (d : PyData) : Slot := ⟨fun K F v m => m = [] ∧ Dq K F v d, fun _ _ _ _ _ e ⟨h1, h2⟩ => ⟨h1, dq_mono e _ _ h2⟩⟩
/-- a list that nobody else holds -/
def ow (p : Option Addr) (ds : List PyData) : Slot := ⟨fun K F v m => ∃ a vs, v = .ref a ∧ m = [(a, .lst vs)] ∧ (∀ q, p = some q → a = q) ∧ DqAll K F vs ds,
  fun _ _ _ _ _ e ⟨a, vs, h1, h2, h3, h4⟩ => ⟨a, vs, h1, h2, h3, dqAll_mono e _ _ h4⟩⟩
/-- a list that is known to the module, or handed in by the law's caller -/
def kn (ds : List PyData) : Slot := ⟨fun K F v m => m = [] ∧ ∃ a vs, v = .ref a ∧ SqL K F a vs ∧ DqAll K F vs ds, fun _ _ _ _ _ e ⟨h, a, vs, h1, h2, h3⟩ => ⟨h, a, vs, h1, e.seq h2, dqAll_mono e _ _ h3⟩⟩
abbrev Env := List (Option Slot)

structure EOk (K : PySem.W.Frag) (ρ : Env) (F : Hp) (σ : St) (H : Hp) (M : Nat → Mini) : Prop where
  len : σ.length = ρ.length
  sub : Same F H
  at_ : ∀ (i : Nat) (S : Slot), ρ[i]? = some (some S) → ∃ v, σ[i]? = some (some v) ∧ S.R K F v (M i)
  own : ∀ (i : Nat) (a : Addr) (o : HO), (a, o) ∈ M i → H a = some o ∧ F a = none
  apart : ∀ (i j : Nat) (a : Addr) (o o' : HO), (a, o) ∈ M i → (a, o') ∈ M j → i = j

/-- nothing tracked changes; what is newly frozen was not there -/
structure Ext (F H F' H' : Hp) : Prop where
  f : Same F F'
  h : Same H H'
  sub : Same F' H'
  new : ∀ a o, F' a = some o → F a = none → H a = none
theorem Ext.refl {F H : Hp} (s : Same F H) : Ext F H F H := ⟨.refl _, .refl _, s, fun a o h1 h2 => by rw [h1] at h2; cases h2⟩
theorem Ext.trans {F H F1 H1 F2 H2 : Hp} (a : Ext F H F1 H1) (b : Ext F1 H1 F2 H2) : Ext F H F2 H2 := ⟨a.f.trans b.f, a.h.trans b.h, b.sub, fun c o h1 h2 => by
  cases q : F1 c with
  | none => exact a.h.free (b.new c o h1 q)
  | some u => exact a.new c u q h2⟩
/-- a new object is frozen at once -/
theorem Ext.laid {F H : Hp} {p : Addr} {o : HO} (s : Same F H) (n : H p = none) : Ext F H (upd F p o) (upd H p o) := by
  have nf : F p = none := s.free n
  refine ⟨fun b u e => by rw [upd_ne (ne_of_none e nf)]; exact e, fun b u e => by rw [upd_ne (ne_of_none e n)]; exact e, fun b u e => ?_, fun b u e1 e2 => ?_⟩
  · by_cases hb : b = p
    · subst hb; rw [upd_same] at e ⊢; exact e
    · rw [upd_ne hb] at e ⊢; exact s b u e
  · by_cases hb : b = p
    · subst hb; exact n
    · rw [upd_ne hb] at e1; rw [e1] at e2; cases e2
/-- a new object beside the frozen part -/
theorem Ext.beside {F H : Hp} {p : Addr} {o : HO} (s : Same F H) (n : H p = none) : Ext F H F (upd H p o) :=
  ⟨.refl _, fun b u e => by rw [upd_ne (ne_of_none e n)]; exact e, fun b u e => by rw [upd_ne (ne_of_none e (s.free n))]; exact s b u e, fun b u e1 e2 => by rw [e1] at e2; cases e2⟩
/-- an object that stands beside is frozen -/
theorem Ext.freeze {F H : Hp} {p : Addr} {o : HO} {F' H' : Hp} (x : Ext F H F' H') (n : H p = none) (n' : F' p = none) (h : H' p = some o) : Ext F H (upd F' p o) H' := by
  refine ⟨fun b u e => ?_, x.h, fun b u e => ?_, fun b u e1 e2 => ?_⟩
  · rw [upd_ne (ne_of_none (x.f b u e) n')]; exact x.f b u e
  · by_cases hb : b = p
    · subst hb; rw [upd_same] at e; rw [← e]; exact h
    · rw [upd_ne hb] at e; exact x.sub b u e
  · by_cases hb : b = p
    · subst hb; exact n
    · rw [upd_ne hb] at e1; exact x.new b u e1 e2
theorem EOk.ext {K : PySem.W.Frag} {ρ : Env} {F F' H H' : Hp} {σ : St} {M : Nat → Mini} (x : EOk K ρ F σ H M) (e : Ext F H F' H') : EOk K ρ F' σ H' M where
  len := x.len
  sub := e.sub
  at_ := fun i S h => by
    obtain ⟨v, h1, h2⟩ := x.at_ i S h
    exact ⟨v, h1, S.mono K F F' v (M i) e.f h2⟩
  own := fun i a o h => by
    obtain ⟨h1, h2⟩ := x.own i a o h
    refine ⟨e.h a o h1, ?_⟩
    cases q : F' a with
    | none => rfl
    | some u =>
      have z := e.new a u q h2
      rw [z] at h1; cases h1
  apart := x.apart

/-! ### the judgements -/
abbrev Wc := Ec → St → Hp → Prop
/-- an expression: what it gives, or what it raises -/
structure EvR (X : Cx) (W : Wc) (ρ : Env) (e : Expr) (r : Except Ec PyData) : Prop where
  run : ∀ (pins : List (Addr × Obj)) (s : Shared) (σ : St) (F H : Hp) (M : Nat → Mini) (Q : VK), Inv X pins σ H s → EOk X.K ρ F σ H M →
    (∀ d, r = .ok d → ∀ v F' H', Ext F H F' H' → Dq X.K F' v d → Q v H') → (∀ c, r = .error c → ∀ F' H', Ext F H F' H' → W c σ H') →
    wpAny (model X.prog X.w) X.A (eval e X.env) (EP X pins σ Q) X.xe s
instance coEvR {X : Cx} {W : Wc} {ρ : Env} {e : Expr} {r : Except Ec PyData} : CoeFun (EvR X W ρ e r) fun _ => ∀ (pins : List (Addr × Obj)) (s : Shared) (σ : St) (F H : Hp) (M : Nat → Mini) (Q : VK), Inv X pins σ H s → EOk X.K ρ F σ H M →
    (∀ d, r = .ok d → ∀ v F' H', Ext F H F' H' → Dq X.K F' v d → Q v H') → (∀ c, r = .error c → ∀ F' H', Ext F H F' H' → W c σ H') →
    wpAny (model X.prog X.w) X.A (eval e X.env) (EP X pins σ Q) X.xe s := ⟨fun h => h.run⟩
abbrev Ev (X : Cx) (W : Wc) (ρ : Env) (e : Expr) (d : PyData) : Prop := EvR X W ρ e (.ok d)
/-- a list that is read: frozen, or owned by a name -/
def LV (K : PySem.W.Frag) (F H : Hp) (v : V) (ds : List PyData) : Prop := ∃ a vs, v = .ref a ∧ Rd H a (.lst vs) ∧ DqAll K F vs ds
/-- .. or known to the module -/
def LW (K : PySem.W.Frag) (F H : Hp) (v : V) (ds : List PyData) : Prop := ∃ a vs, v = .ref a ∧ SqL K H a vs ∧ DqAll K F vs ds
structure Bw (X : Cx) (W : Wc) (ρ : Env) (e : Expr) (ds : List PyData) : Prop where
  run : ∀ (pins : List (Addr × Obj)) (s : Shared) (σ : St) (F H : Hp) (M : Nat → Mini) (Q : VK), Inv X pins σ H s → EOk X.K ρ F σ H M →
    (∀ v F' H', Ext F H F' H' → LW X.K F' H' v ds → Q v H') →
    wpAny (model X.prog X.w) X.A (eval e X.env) (EP X pins σ Q) X.xe s
instance coBw {X : Cx} {W : Wc} {ρ : Env} {e : Expr} {ds : List PyData} : CoeFun (Bw X W ρ e ds) fun _ => ∀ (pins : List (Addr × Obj)) (s : Shared) (σ : St) (F H : Hp) (M : Nat → Mini) (Q : VK), Inv X pins σ H s → EOk X.K ρ F σ H M →
    (∀ v F' H', Ext F H F' H' → LW X.K F' H' v ds → Q v H') →
    wpAny (model X.prog X.w) X.A (eval e X.env) (EP X pins σ Q) X.xe s := ⟨fun h => h.run⟩
structure Bv (X : Cx) (W : Wc) (ρ : Env) (e : Expr) (ds : List PyData) : Prop where
  run : ∀ (pins : List (Addr × Obj)) (s : Shared) (σ : St) (F H : Hp) (M : Nat → Mini) (Q : VK), Inv X pins σ H s → EOk X.K ρ F σ H M →
    (∀ v F' H', Ext F H F' H' → LV X.K F' H' v ds → Q v H') →
    wpAny (model X.prog X.w) X.A (eval e X.env) (EP X pins σ Q) X.xe s
instance coBv {X : Cx} {W : Wc} {ρ : Env} {e : Expr} {ds : List PyData} : CoeFun (Bv X W ρ e ds) fun _ => ∀ (pins : List (Addr × Obj)) (s : Shared) (σ : St) (F H : Hp) (M : Nat → Mini) (Q : VK), Inv X pins σ H s → EOk X.K ρ F σ H M →
    (∀ v F' H', Ext F H F' H' → LV X.K F' H' v ds → Q v H') →
    wpAny (model X.prog X.w) X.A (eval e X.env) (EP X pins σ Q) X.xe s := ⟨fun h => h.run⟩
/-- a new list -/
structure Fr (X : Cx) (W : Wc) (ρ : Env) (e : Expr) (ds : List PyData) : Prop where
  run : ∀ (pins : List (Addr × Obj)) (s : Shared) (σ : St) (F H : Hp) (M : Nat → Mini) (Q : VK), Inv X pins σ H s → EOk X.K ρ F σ H M →
    (∀ a vs F' H', Ext F H F' H' → H a = none → F' a = none → H' a = some (.lst vs) → DqAll X.K F' vs ds → Q (.ref a) H') →
    wpAny (model X.prog X.w) X.A (eval e X.env) (EP X pins σ Q) X.xe s
instance coFr {X : Cx} {W : Wc} {ρ : Env} {e : Expr} {ds : List PyData} : CoeFun (Fr X W ρ e ds) fun _ => ∀ (pins : List (Addr × Obj)) (s : Shared) (σ : St) (F H : Hp) (M : Nat → Mini) (Q : VK), Inv X pins σ H s → EOk X.K ρ F σ H M →
    (∀ a vs F' H', Ext F H F' H' → H a = none → F' a = none → H' a = some (.lst vs) → DqAll X.K F' vs ds → Q (.ref a) H') →
    wpAny (model X.prog X.w) X.A (eval e X.env) (EP X pins σ Q) X.xe s := ⟨fun h => h.run⟩
/-- a test -/
structure Tst (X : Cx) (W : Wc) (ρ : Env) (e : Expr) (b : Bool) : Prop where
  run : ∀ (pins : List (Addr × Obj)) (s : Shared) (σ : St) (F H : Hp) (M : Nat → Mini) (Q : Bool → Hp → Prop), Inv X pins σ H s → EOk X.K ρ F σ H M →
    (∀ F' H', Ext F H F' H' → Q b H') →
    wpAny (model X.prog X.w) X.A (isTrue e X.env (eval e X.env)) (TP X pins σ Q) X.xe s
instance coTst {X : Cx} {W : Wc} {ρ : Env} {e : Expr} {b : Bool} : CoeFun (Tst X W ρ e b) fun _ => ∀ (pins : List (Addr × Obj)) (s : Shared) (σ : St) (F H : Hp) (M : Nat → Mini) (Q : Bool → Hp → Prop), Inv X pins σ H s → EOk X.K ρ F σ H M →
    (∀ F' H', Ext F H F' H' → Q b H') →
    wpAny (model X.prog X.w) X.A (isTrue e X.env (eval e X.env)) (TP X pins σ Q) X.xe s := ⟨fun h => h.run⟩
/-- an argument list -/
structure EvA (X : Cx) (W : Wc) (ρ : Env) (es : List Expr) (r : Except Ec (List PyData)) : Prop where
  run : ∀ (pos : Pos) (pins : List (Addr × Obj)) (s : Shared) (σ : St) (F H : Hp) (M : Nat → Mini) (Q : List V → Hp → Prop), Inv X pins σ H s → EOk X.K ρ F σ H M →
    (∀ ds, r = .ok ds → ∀ vs F' H', Ext F H F' H' → DqAll X.K F' vs ds → Q vs H') → (∀ c, r = .error c → ∀ F' H', Ext F H F' H' → W c σ H') →
    wpAny (model X.prog X.w) X.A (spliced (backTo pos (starEach es X.env))) (AP X pins σ Q) X.xe s
instance coEvA {X : Cx} {W : Wc} {ρ : Env} {es : List Expr} {r : Except Ec (List PyData)} : CoeFun (EvA X W ρ es r) fun _ => ∀ (pos : Pos) (pins : List (Addr × Obj)) (s : Shared) (σ : St) (F H : Hp) (M : Nat → Mini) (Q : List V → Hp → Prop), Inv X pins σ H s → EOk X.K ρ F σ H M →
    (∀ ds, r = .ok ds → ∀ vs F' H', Ext F H F' H' → DqAll X.K F' vs ds → Q vs H') → (∀ c, r = .error c → ∀ F' H', Ext F H F' H' → W c σ H') →
    wpAny (model X.prog X.w) X.A (spliced (backTo pos (starEach es X.env))) (AP X pins σ Q) X.xe s := ⟨fun h => h.run⟩
section
variable {X : Cx} {W : Wc} {ρ : Env} {e : Expr} {es : List Expr}
/-- the readings of these, for the rules of HandS -/
def tR (X : Cx) (W : Wc) (ρ : Env) (r : Except Ec PyData) : TE := fun σ H Q => ∃ F M, EOk X.K ρ F σ H M ∧
  (∀ d, r = .ok d → ∀ v F' H', Ext F H F' H' → Dq X.K F' v d → Q v H') ∧ (∀ c, r = .error c → ∀ F' H', Ext F H F' H' → W c σ H')
theorem EvR.pe {r : Except Ec PyData} (h : EvR X W ρ e r) : PE X e (tR X W ρ r) := ⟨fun pins s σ H Q I ⟨F, M, ok, h1, h2⟩ => h pins s σ F H M Q I ok h1 h2⟩
def tBv (X : Cx) (ρ : Env) (ds : List PyData) : TE := fun σ H Q => ∃ F M, EOk X.K ρ F σ H M ∧ (∀ v F' H', Ext F H F' H' → LV X.K F' H' v ds → Q v H')
theorem Bv.pe {ds : List PyData} (h : Bv X W ρ e ds) : PE X e (tBv X ρ ds) := ⟨fun pins s σ H Q I ⟨F, M, ok, h1⟩ => h pins s σ F H M Q I ok h1⟩
theorem Bv.bw {ds : List PyData} (h : Bv X W ρ e ds) : Bw X W ρ e ds := ⟨fun pins s σ F H M Q I ok q => h pins s σ F H M Q I ok fun v F' H' x ⟨a, vs, h1, h2, h3⟩ => q v F' H' x ⟨a, vs, h1, .inl h2, h3⟩⟩
def tBw (X : Cx) (ρ : Env) (ds : List PyData) : TE := fun σ H Q => ∃ F M, EOk X.K ρ F σ H M ∧ (∀ v F' H', Ext F H F' H' → LW X.K F' H' v ds → Q v H')
theorem Bw.pe {ds : List PyData} (h : Bw X W ρ e ds) : PE X e (tBw X ρ ds) := ⟨fun pins s σ H Q I ⟨F, M, ok, h1⟩ => h pins s σ F H M Q I ok h1⟩
def tTst (X : Cx) (ρ : Env) (b : Bool) : TT := fun σ H Q => ∃ F M, EOk X.K ρ F σ H M ∧ (∀ F' H', Ext F H F' H' → Q b H')
theorem Tst.pt {b : Bool} (h : Tst X W ρ e b) : PT X e (tTst X ρ b) := ⟨fun pins s σ H Q I ⟨F, M, ok, h1⟩ => h pins s σ F H M Q I ok h1⟩
def tEvA (X : Cx) (W : Wc) (ρ : Env) (r : Except Ec (List PyData)) : TA := fun σ H Q => ∃ F M, EOk X.K ρ F σ H M ∧
  (∀ ds, r = .ok ds → ∀ vs F' H', Ext F H F' H' → DqAll X.K F' vs ds → Q vs H') ∧ (∀ c, r = .error c → ∀ F' H', Ext F H F' H' → W c σ H')
theorem EvA.pa {r : Except Ec (List PyData)} (h : EvA X W ρ es r) : PA X es (tEvA X W ρ r) := ⟨fun pos pins s σ H Q I ⟨F, M, ok, h1, h2⟩ => h pos pins s σ F H M Q I ok h1 h2⟩

/-- from a rule of HandS: its reading, by the environment -/
theorem ev_of {t : TE} {r : Except Ec PyData} (h : PE X e t) (q : ∀ (σ : St) (F H : Hp) (M : Nat → Mini) (Q : VK), EOk X.K ρ F σ H M →
    (∀ d, r = .ok d → ∀ v F' H', Ext F H F' H' → Dq X.K F' v d → Q v H') → (∀ c, r = .error c → ∀ F' H', Ext F H F' H' → W c σ H') → t σ H Q) : EvR X W ρ e r :=
  ⟨fun pins s σ F H M Q I ok h1 h2 => h.run pins s σ H Q I (q σ F H M Q ok h1 h2)⟩
theorem ev1_of {t : TE} {d : PyData} (h : PE X e t) (q : ∀ (σ : St) (F H : Hp) (M : Nat → Mini) (Q : VK), EOk X.K ρ F σ H M →
    (∀ v F' H', Ext F H F' H' → Dq X.K F' v d → Q v H') → t σ H Q) : Ev X W ρ e d :=
  ⟨fun pins s σ F H M Q I ok h1 _ => h.run pins s σ H Q I (q σ F H M Q ok (h1 d rfl))⟩
theorem tst_of {t : TT} {b : Bool} (h : PT X e t) (q : ∀ (σ : St) (F H : Hp) (M : Nat → Mini) (Q : Bool → Hp → Prop), EOk X.K ρ F σ H M → (∀ F' H', Ext F H F' H' → Q b H') → t σ H Q) : Tst X W ρ e b :=
  ⟨fun pins s σ F H M Q I ok h1 => h.run pins s σ H Q I (q σ F H M Q ok h1)⟩
/-- the reading of a part whose value is known -/
theorem rd {d : PyData} {σ : St} {F H : Hp} {M : Nat → Mini} {Q : VK} (ok : EOk X.K ρ F σ H M) (h : ∀ v F' H', Ext F H F' H' → Dq X.K F' v d → Q v H') : tR X W ρ (.ok d) σ H Q :=
  ⟨F, M, ok, fun d' e => by cases e; exact h, fun c e => by cases e⟩

/-! ### names and constants -/
theorem ev_var (i : Nat) {x : Str} {pos : Pos} {d : PyData} (hd : ρ[i]? = some (some (fz d))) (hN : X.N[i]? = some x := by rfl) (hv : Vis X.env.scope x := by first | exact Or.inl rfl | exact Or.inr (Or.inl rfl) | exact Or.inr (Or.inr rfl))
    (h1 : (x == ("__debug__" : Str)) = false := by decide) (h2 : (x == ("__classdict__" : Str)) = false := by decide) : Ev X W ρ (.Name x pos) d :=
  ev1_of (pe_var hN hv h1 h2) fun σ F H M Q ok h => by
    obtain ⟨v, e, _, q⟩ := ok.at_ i _ hd
    exact ⟨v, e, h v F H (.refl ok.sub) q⟩
theorem bv_var (i : Nat) {x : Str} {pos : Pos} {p : Option Addr} {ds : List PyData} (hd : ρ[i]? = some (some (ow p ds))) (hN : X.N[i]? = some x := by rfl) (hv : Vis X.env.scope x := by first | exact Or.inl rfl | exact Or.inr (Or.inl rfl) | exact Or.inr (Or.inr rfl))
    (h1 : (x == ("__debug__" : Str)) = false := by decide) (h2 : (x == ("__classdict__" : Str)) = false := by decide) : Bv X W ρ (.Name x pos) ds :=
  ⟨fun pins s σ F H M Q I ok h => (pe_var hN hv h1 h2).run pins s σ H Q I (by
    obtain ⟨v, e, a, vs, rfl, em, _, q⟩ := ok.at_ i _ hd
    exact ⟨_, e, h _ F H (.refl ok.sub) ⟨a, vs, rfl, .of (ok.own i a _ (by rw [em]; exact List.mem_cons_self)).1, q⟩⟩)⟩
theorem bw_var (i : Nat) {x : Str} {pos : Pos} {ds : List PyData} (hd : ρ[i]? = some (some (kn ds))) (hN : X.N[i]? = some x := by rfl) (hv : Vis X.env.scope x := by first | exact Or.inl rfl | exact Or.inr (Or.inl rfl) | exact Or.inr (Or.inr rfl))
    (h1 : (x == ("__debug__" : Str)) = false := by decide) (h2 : (x == ("__classdict__" : Str)) = false := by decide) : Bw X W ρ (.Name x pos) ds :=
  ⟨fun pins s σ F H M Q I ok h => (pe_var hN hv h1 h2).run pins s σ H Q I (by
    obtain ⟨v, e, _, a, vs, rfl, q1, q2⟩ := ok.at_ i _ hd
    exact ⟨_, e, h _ F H (.refl ok.sub) ⟨a, vs, rfl, ok.sub.seq q1, q2⟩⟩)⟩
theorem ev_int {i : Int} {j pos} : Ev X W ρ (.Constant (.int i) j pos) (.int i) := ev1_of pe_int fun σ F H M Q ok h => h _ F H (.refl ok.sub) (.int i)
theorem ev_bl {b j pos} : Ev X W ρ (.Constant (.bool b) j pos) (.bool b) := ev1_of pe_bl fun σ F H M Q ok h => h _ F H (.refl ok.sub) (.bl b)
theorem ev_non {j pos} : Ev X W ρ (.Constant .none j pos) .none := ev1_of pe_non fun σ F H M Q ok h => h _ F H (.refl ok.sub) .non
theorem ev_str {x j pos} : Ev X W ρ (.Constant (.str x) j pos) (.str x) := ev1_of pe_str fun σ F H M Q ok h => h _ F H (.refl ok.sub) (.str x)

/-! ### two parts, by an operator on scalars -/
variable {a b : Expr} {pos : Pos}
theorem ev_op {op : Operator} {r : R2} {da db d : PyData} (ho : OpR X (binaryOp op) r) (ha : Ev X W ρ a da) (hb : Ev X W ρ b db)
    (q : ∀ (x y : V) (F H : Hp) (Q : VK), Same F H → Dq X.K F x da → Dq X.K F y db → (∀ v F' H', Ext F H F' H' → Dq X.K F' v d → Q v H') → r x y H Q) : Ev X W ρ (.BinOp a op b pos) d :=
  ev1_of (pe_op ho ha.pe hb.pe) fun σ F H M Q ok h => rd ok fun x F1 H1 e1 dx => rd (ok.ext e1) fun y F2 H2 e2 dy =>
    q x y F2 H2 Q e2.sub (dq_mono e2.f _ _ dx) dy fun v F' H' e3 dv => h v F' H' ((e1.trans e2).trans e3) dv
theorem dq_int {K : PySem.W.Frag} {F : Hp} {x : V} {i : Int} (h : Dq K F x (.int i)) : x = .int i := by cases h; rfl
theorem dq_bl {K : PySem.W.Frag} {F : Hp} {x : V} {i : Bool} (h : Dq K F x (.bool i)) : x = .bl i := by cases h; rfl
theorem dq_str {K : PySem.W.Frag} {F : Hp} {x : V} {i : Str} (h : Dq K F x (.str i)) : x = .str i := by cases h; rfl
theorem dq_non {K : PySem.W.Frag} {F : Hp} {x : V} (h : Dq K F x .none) : x = .non := by cases h; rfl
variable {i j : Int}
theorem ev_add (ha : Ev X W ρ a (.int i)) (hb : Ev X W ρ b (.int j)) : Ev X W ρ (.BinOp a .Add b pos) (.int (i + j)) :=
  ev_op op_add ha hb fun x y F H Q s dx dy h => ⟨i, j, dq_int dx, dq_int dy, h _ F H (.refl s) (.int _)⟩
theorem ev_sub (ha : Ev X W ρ a (.int i)) (hb : Ev X W ρ b (.int j)) : Ev X W ρ (.BinOp a .Sub b pos) (.int (i - j)) :=
  ev_op op_sub ha hb fun x y F H Q s dx dy h => ⟨i, j, dq_int dx, dq_int dy, h _ F H (.refl s) (.int _)⟩
theorem ev_mul (c : CMul i j) (ha : Ev X W ρ a (.int i)) (hb : Ev X W ρ b (.int j)) : Ev X W ρ (.BinOp a .Mult b pos) (.int (i * j)) :=
  ev_op op_mul ha hb fun x y F H Q s dx dy h => ⟨i, j, dq_int dx, dq_int dy, c, h _ F H (.refl s) (.int _)⟩
theorem ev_fdiv (c : 0 < j ∧ j < 1073741824) (ha : Ev X W ρ a (.int i)) (hb : Ev X W ρ b (.int j)) : Ev X W ρ (.BinOp a .FloorDiv b pos) (.int (i / j)) :=
  ev_op op_fdiv ha hb fun x y F H Q s dx dy h => ⟨i, j, dq_int dx, dq_int dy, c, h _ F H (.refl s) (.int _)⟩
theorem ev_mod (c : 0 < j) (ha : Ev X W ρ a (.int i)) (hb : Ev X W ρ b (.int j)) : Ev X W ρ (.BinOp a .Mod b pos) (.int (i % j)) :=
  ev_op op_mod ha hb fun x y F H Q s dx dy h => ⟨i, j, dq_int dx, dq_int dy, c, h _ F H (.refl s) (.int _)⟩
theorem ev_pow (c : CPow i j) (ha : Ev X W ρ a (.int i)) (hb : Ev X W ρ b (.int j)) : Ev X W ρ (.BinOp a .Pow b pos) (.int (i ^ j.toNat)) :=
  ev_op op_pow ha hb fun x y F H Q s dx dy h => ⟨i, j, dq_int dx, dq_int dy, c, h _ F H (.refl s) (.int _)⟩
theorem ev_neg (ha : Ev X W ρ a (.int i)) : Ev X W ρ (.UnaryOp .USub a pos) (.int (-i)) :=
  ev1_of (pe_un un_neg ha.pe) fun σ F H M Q ok h => rd ok fun x F1 H1 e1 dx => ⟨i, dq_int dx, h _ F1 H1 e1 (.int _)⟩
theorem ev_adds {x y : Str} (c : x.length + y.length ≤ sizeLine) (ha : Ev X W ρ a (.str x)) (hb : Ev X W ρ b (.str y)) : Ev X W ρ (.BinOp a .Add b pos) (.str (x ++ y)) :=
  ev_op op_add_str ha hb fun u v F H Q s dx dy h => ⟨x, y, dq_str dx, dq_str dy, c, h _ F H (.refl s) (.str _)⟩
end
end PV

/-! The pure-value layer: statements. -/
namespace PV
open PySem PySem.Spec PyProof.Rows L2

/-- as EOk, over what the body must leave as it is (B) and what was frozen at its entry (F0) -/
structure PInv (K : PySem.W.Frag) (B F0 : Hp) (ρ : Env) (F : Hp) (σ : St) (H : Hp) (M : Nat → Mini) : Prop where
  ok : EOk K ρ F σ H M
  base : Same B H
  f0 : Same F0 F
  nb : ∀ (a : Addr) (o : HO), F a = some o → F0 a = none → B a = none
  mb : ∀ (i : Nat) (a : Addr) (o : HO), (a, o) ∈ M i → B a = none
section
variable {K : PySem.W.Frag} {B F0 F F' H H' : Hp} {ρ : Env} {σ : St} {M : Nat → Mini}
theorem PInv.ext (x : PInv K B F0 ρ F σ H M) (e : Ext F H F' H') : PInv K B F0 ρ F' σ H' M where
  ok := x.ok.ext e
  base := x.base.trans e.h
  f0 := x.f0.trans e.f
  nb := fun a o h1 h2 => by
    cases q : F a with
    | none => exact x.base.free (e.new a o h1 q)
    | some u => exact x.nb a u q h2
  mb := x.mb
def upM (M : Nat → Mini) (i : Nat) (m : Mini) : Nat → Mini := fun j => if j = i then m else M j
theorem upM_same {i : Nat} {m : Mini} : upM M i m i = m := if_pos rfl
theorem upM_ne {i j : Nat} {m : Mini} (h : j ≠ i) : upM M i m j = M j := if_neg h
/-- a name gets a value and what it owns -/
theorem PInv.set {i : Nat} {S : Slot} {v : V} {m : Mini} (x : PInv K B F0 ρ F σ H M) (hS : S.R K F v m)
    (hm : ∀ (a : Addr) (o : HO), (a, o) ∈ m → H a = some o ∧ F a = none ∧ B a = none ∧ ∀ (j : Nat) (o' : HO), j ≠ i → (a, o') ∉ M j) : PInv K B F0 (ρ.set i (some S)) F (σ.set i (some v)) H (upM M i m) where
  ok := {
    len := by rw [List.length_set, List.length_set]; exact x.ok.len
    sub := x.ok.sub
    at_ := fun j T h => by
      by_cases hj : j = i
      · subst hj
        have hl : j < ρ.length := by
          have := (List.getElem?_eq_some_iff.mp h).1
          simpa using this
        rw [List.getElem?_set_self hl] at h
        cases h
        exact ⟨v, List.getElem?_set_self (by rw [x.ok.len]; exact hl), by rw [upM_same]; exact hS⟩
      · rw [List.getElem?_set_ne (Ne.symm hj)] at h
        obtain ⟨u, h1, h2⟩ := x.ok.at_ j T h
        exact ⟨u, by rw [List.getElem?_set_ne (Ne.symm hj)]; exact h1, by rw [upM_ne hj]; exact h2⟩
    own := fun j a o h => by
      by_cases hj : j = i
      · subst hj; rw [upM_same] at h; exact ⟨(hm a o h).1, (hm a o h).2.1⟩
      · rw [upM_ne hj] at h; exact x.ok.own j a o h
    apart := fun j k a o o' h h' => by
      by_cases hj : j = i
      · by_cases hk : k = i
        · rw [hj, hk]
        · subst hj
          rw [upM_same] at h; rw [upM_ne hk] at h'
          exact absurd h' ((hm a o h).2.2.2 k o' hk)
      · by_cases hk : k = i
        · subst hk
          rw [upM_same] at h'; rw [upM_ne hj] at h
          exact absurd h ((hm a o' h').2.2.2 j o hj)
        · rw [upM_ne hj] at h; rw [upM_ne hk] at h'
          exact x.ok.apart j k a o o' h h' }
  base := x.base
  f0 := x.f0
  nb := x.nb
  mb := fun j a o h => by
    by_cases hj : j = i
    · subst hj; rw [upM_same] at h; exact (hm a o h).2.2.1
    · rw [upM_ne hj] at h; exact x.mb j a o h
theorem PInv.setF {i : Nat} {d : PyData} {v : V} (x : PInv K B F0 ρ F σ H M) (hd : Dq K F v d) : PInv K B F0 (ρ.set i (some (fz d))) F (σ.set i (some v)) H (upM M i []) :=
  x.set ⟨rfl, hd⟩ fun a o h => nomatch h
/-- a list that is new behind an expression -/
theorem PInv.setO {i : Nat} {a : Addr} {vs : List V} {ds : List PyData} (x : PInv K B F0 ρ F σ H M) (e : Ext F H F' H') (n : H a = none) (n' : F' a = none) (h : H' a = some (.lst vs)) (q : DqAll K F' vs ds) :
    PInv K B F0 (ρ.set i (some (ow none ds))) F' (σ.set i (some (.ref a))) H' (upM M i [(a, .lst vs)]) :=
  (x.ext e).set ⟨a, vs, rfl, rfl, (fun q h => nomatch h), q⟩ fun b o hb => by
    have hb' : (b, o) = (a, HO.lst vs) := by simpa using hb
    cases hb'
    refine ⟨h, n', x.base.free n, fun j o' hj hm => ?_⟩
    have z := (x.ok.own j _ o' hm).1
    rw [n] at z; cases z
/-- ρ' knows less -/
def Wk (ρ ρ' : Env) : Prop := ρ'.length = ρ.length ∧ ∀ (i : Nat) (S : Slot), ρ'[i]? = some (some S) → ρ[i]? = some (some S)
theorem PInv.weak {ρ' : Env} (x : PInv K B F0 ρ F σ H M) (w : Wk ρ ρ') : PInv K B F0 ρ' F σ H M where
  ok := ⟨by rw [w.1]; exact x.ok.len, x.ok.sub, fun i S h => x.ok.at_ i S (w.2 i S h), x.ok.own, x.ok.apart⟩
  base := x.base
  f0 := x.f0
  nb := x.nb
  mb := x.mb
/-- an owned list changes -/
theorem PInv.mut {i : Nat} {p : Option Addr} {ds es : List PyData} {a : Addr} {vs ws : List V} (x : PInv K B F0 ρ F σ H M) (hi : ρ[i]? = some (some (ow p ds))) (hσ : σ[i]? = some (some (.ref a))) (hp : ∀ q, p = some q → a = q)
    (hM : M i = [(a, .lst vs)]) (q : DqAll K F ws es) : PInv K B F0 (ρ.set i (some (ow p es))) F σ (upd H a (.lst ws)) (upM M i [(a, .lst ws)]) := by
  have hmem : (a, HO.lst vs) ∈ M i := by rw [hM]; exact List.mem_cons_self
  have hF : F a = none := (x.ok.own i a _ hmem).2
  have hB : B a = none := x.mb i a _ hmem
  refine ⟨⟨by rw [List.length_set]; exact x.ok.len, fun b u e => ?_, fun j T h => ?_, fun j b o h => ?_, fun j k b o o' h h' => ?_⟩, fun b u e => ?_, x.f0, x.nb, fun j b o h => ?_⟩
  · rw [upd_ne (ne_of_none e hF)]; exact x.ok.sub b u e
  · by_cases hj : j = i
    · subst hj
      have hl : j < ρ.length := (List.getElem?_eq_some_iff.mp hi).1
      rw [List.getElem?_set_self hl] at h
      cases h
      exact ⟨_, hσ, a, ws, rfl, upM_same, hp, q⟩
    · rw [List.getElem?_set_ne (Ne.symm hj)] at h
      obtain ⟨u, h1, h2⟩ := x.ok.at_ j T h
      exact ⟨u, h1, by rw [upM_ne hj]; exact h2⟩
  · by_cases hj : j = i
    · subst hj
      rw [upM_same] at h
      have h' : (b, o) = (a, HO.lst ws) := by simpa using h
      cases h'
      exact ⟨upd_same, hF⟩
    · rw [upM_ne hj] at h
      have hb : b ≠ a := fun z => by subst z; exact hj (x.ok.apart j i b _ _ h hmem)
      rw [upd_ne hb]
      exact x.ok.own j b o h
  · have key : ∀ (l : Nat) (u : HO), (b, u) ∈ upM M i [(a, HO.lst ws)] l → ∃ u', (b, u') ∈ M l := fun l u hl => by
      by_cases hi' : l = i
      · subst hi'
        rw [upM_same] at hl
        have h' : (b, u) = (a, HO.lst ws) := by simpa using hl
        cases h'
        exact ⟨_, hmem⟩
      · rw [upM_ne hi'] at hl; exact ⟨u, hl⟩
    obtain ⟨u1, q1⟩ := key j o h
    obtain ⟨u2, q2⟩ := key k o' h'
    exact x.ok.apart j k b u1 u2 q1 q2
  · rw [upd_ne (ne_of_none e hB)]; exact x.base b u e
  · by_cases hj : j = i
    · subst hj
      rw [upM_same] at h
      have h' : (b, o) = (a, HO.lst ws) := by simpa using h
      cases h'
      exact hB
    · rw [upM_ne hj] at h; exact x.mb j b o h
/-- an owned list is frozen -/
theorem PInv.freeze {i : Nat} {p : Option Addr} {ds : List PyData} (x : PInv K B F0 ρ F σ H M) (hi : ρ[i]? = some (some (ow p ds))) : ∃ F' M', PInv K B F0 (ρ.set i (some (fz (.list ds)))) F' σ H M' := by
  obtain ⟨v, hσ, a, vs, rfl, hM, hp, q⟩ := x.ok.at_ i _ hi
  have hmem : (a, HO.lst vs) ∈ M i := by rw [hM]; exact List.mem_cons_self
  obtain ⟨hH, hF⟩ := x.ok.own i a _ hmem
  have hB : B a = none := x.mb i a _ hmem
  have sF : Same F (upd F a (.lst vs)) := fun b u e => by rw [upd_ne (ne_of_none e hF)]; exact e
  refine ⟨upd F a (.lst vs), upM M i [], ⟨⟨by rw [List.length_set]; exact x.ok.len, fun b u e => ?_, fun j T h => ?_, fun j b o h => ?_, fun j k b o o' h h' => ?_⟩, x.base, x.f0.trans sF, fun b u h1 h2 => ?_, fun j b o h => ?_⟩⟩
  · by_cases hb : b = a
    · subst hb; rw [upd_same] at e; rw [← e]; exact hH
    · rw [upd_ne hb] at e; exact x.ok.sub b u e
  · by_cases hj : j = i
    · subst hj
      have hl : j < ρ.length := (List.getElem?_eq_some_iff.mp hi).1
      rw [List.getElem?_set_self hl] at h
      cases h
      exact ⟨_, hσ, upM_same, .lst (.of upd_same) (dqAll_mono sF _ _ q)⟩
    · rw [List.getElem?_set_ne (Ne.symm hj)] at h
      obtain ⟨u, h1, h2⟩ := x.ok.at_ j T h
      exact ⟨u, h1, by rw [upM_ne hj]; exact T.mono K F _ u _ sF h2⟩
  · by_cases hj : j = i
    · subst hj; rw [upM_same] at h; cases h
    · rw [upM_ne hj] at h
      have hb : b ≠ a := fun z => by subst z; exact hj (x.ok.apart j i b _ _ h hmem)
      rw [upd_ne hb]
      exact x.ok.own j b o h
  · by_cases hj : j = i
    · subst hj; rw [upM_same] at h; cases h
    · by_cases hk : k = i
      · subst hk; rw [upM_same] at h'; cases h'
      · rw [upM_ne hj] at h; rw [upM_ne hk] at h'
        exact x.ok.apart j k b o o' h h'
  · by_cases hb : b = a
    · subst hb; exact hB
    · rw [upd_ne hb] at h1; exact x.nb b u h1 h2
  · by_cases hj : j = i
    · subst hj; rw [upM_same] at h; cases h
    · rw [upM_ne hj] at h; exact x.mb j b o h
/-- a value in front of the names -/
def shM (m : Mini) (M : Nat → Mini) : Nat → Mini
  | 0 => m
  | i + 1 => M i
theorem PInv.push {S : Slot} {v : V} {m : Mini} (x : PInv K B F0 ρ F σ H M) (hS : S.R K F v m)
    (hm : ∀ (a : Addr) (o : HO), (a, o) ∈ m → H a = some o ∧ F a = none ∧ B a = none ∧ ∀ (j : Nat) (o' : HO), (a, o') ∉ M j) : PInv K B F0 (some S :: ρ) F (some v :: σ) H (shM m M) where
  ok := {
    len := by simpa using x.ok.len
    sub := x.ok.sub
    at_ := fun j T h => by
      cases j with
      | zero => simp at h; subst h; exact ⟨v, rfl, hS⟩
      | succ j => exact x.ok.at_ j T (by simpa using h)
    own := fun j a o h => by
      cases j with
      | zero => exact ⟨(hm a o h).1, (hm a o h).2.1⟩
      | succ j => exact x.ok.own j a o h
    apart := fun j k a o o' h h' => by
      cases j with
      | zero =>
        cases k with
        | zero => rfl
        | succ k => exact absurd h' ((hm a o h).2.2.2 k o')
      | succ j =>
        cases k with
        | zero => exact absurd h ((hm a o' h').2.2.2 j o)
        | succ k => exact congrArg (· + 1) (x.ok.apart j k a o o' h h') }
  base := x.base
  f0 := x.f0
  nb := x.nb
  mb := fun j a o h => by
    cases j with
    | zero => exact (hm a o h).2.2.1
    | succ j => exact x.mb j a o h
theorem PInv.pushF {d : PyData} {v : V} (x : PInv K B F0 ρ F σ H M) (hd : Dq K F v d) : PInv K B F0 (some (fz d) :: ρ) F (some v :: σ) H (shM [] M) := x.push ⟨rfl, hd⟩ fun a o h => nomatch h
/-- what a name owns goes to the front -/
theorem PInv.pull {i : Nat} {S : Slot} {v : V} (x : PInv K B F0 ρ F σ H M) (hi : ρ[i]? = some (some S)) (hv : σ[i]? = some (some v)) : ∃ M', PInv K B F0 (some S :: ρ.set i none) F (some v :: σ) H M' := by
  obtain ⟨w, e, q⟩ := x.ok.at_ i S hi
  rw [hv] at e; cases e
  have y : PInv K B F0 (ρ.set i none) F σ H (upM M i []) := by
    refine ⟨⟨by rw [List.length_set]; exact x.ok.len, x.ok.sub, fun j T h => ?_, fun j a o h => ?_, fun j k a o o' h h' => ?_⟩, x.base, x.f0, x.nb, fun j a o h => ?_⟩
    · by_cases hj : j = i
      · subst hj
        have hl : j < ρ.length := (List.getElem?_eq_some_iff.mp hi).1
        rw [List.getElem?_set_self hl] at h
        cases h
      · rw [List.getElem?_set_ne (Ne.symm hj)] at h
        rw [upM_ne hj]; exact x.ok.at_ j T h
    · by_cases hj : j = i
      · subst hj; rw [upM_same] at h; cases h
      · rw [upM_ne hj] at h; exact x.ok.own j a o h
    · by_cases hj : j = i
      · subst hj; rw [upM_same] at h; cases h
      · by_cases hk : k = i
        · subst hk; rw [upM_same] at h'; cases h'
        · rw [upM_ne hj] at h; rw [upM_ne hk] at h'
          exact x.ok.apart j k a o o' h h'
    · by_cases hj : j = i
      · subst hj; rw [upM_same] at h; cases h
      · rw [upM_ne hj] at h; exact x.mb j a o h
  refine ⟨_, y.push q fun a o h => ⟨(x.ok.own i a o h).1, (x.ok.own i a o h).2, x.mb i a o h, fun j o' h' => ?_⟩⟩
  by_cases hj : j = i
  · subst hj; rw [upM_same] at h'; cases h'
  · rw [upM_ne hj] at h'; exact hj (x.ok.apart j i a o' o h' h)
end

inductive Out where
  | next (ρ : Env) | ret (S : Slot) (ρ : Env) | brk (ρ : Env) | cont (ρ : Env) | raise (c : Ec) (ρ : Env)
def EndOk (K : PySem.W.Frag) (W : Wc) (B F0 : Hp) (D : Ends) : Out → Prop
  | .next ρ => ∀ F σ H M, PInv K B F0 ρ F σ H M → D.nx σ H
  | .ret S ρ => ∀ v F σ H M, PInv K B F0 (some S :: ρ) F (some v :: σ) H M → D.rt v H
  | .brk ρ => ∀ F σ H M, PInv K B F0 ρ F σ H M → D.bk σ H
  | .cont ρ => ∀ F σ H M, PInv K B F0 ρ F σ H M → D.ct σ H
  | .raise c ρ => ∀ F σ H M, PInv K B F0 ρ F σ H M → W c σ H
/-- a block ends as Φ tells -/
structure Sxs (X : Cx) (W : Wc) (sts : List Stmt) (ρ : Env) (Φ : Out → Prop) : Prop where
  run : ∀ (pins : List (Addr × Obj)) (s : Shared) (σ : St) (F H : Hp) (M : Nat → Mini) (B F0 : Hp) (D : Ends), Inv X pins σ H s → PInv X.K B F0 ρ F σ H M → (∀ o, Φ o → EndOk X.K W B F0 D o) →
    wpAny (model X.prog X.w) X.A (execs sts X.env) (SP X pins D) X.xe s
instance coSxs {X : Cx} {W : Wc} {sts : List Stmt} {ρ : Env} {Φ : Out → Prop} : CoeFun (Sxs X W sts ρ Φ) fun _ => ∀ (pins : List (Addr × Obj)) (s : Shared) (σ : St) (F H : Hp) (M : Nat → Mini) (B F0 : Hp) (D : Ends), Inv X pins σ H s → PInv X.K B F0 ρ F σ H M → (∀ o, Φ o → EndOk X.K W B F0 D o) →
    wpAny (model X.prog X.w) X.A (execs sts X.env) (SP X pins D) X.xe s := ⟨fun h => h.run⟩
def tSxs (X : Cx) (W : Wc) (sts : List Stmt) : TS := fun D σ H => ∃ ρ Φ F M B F0, Sxs X W sts ρ Φ ∧ PInv X.K B F0 ρ F σ H M ∧ (∀ o, Φ o → EndOk X.K W B F0 D o)
theorem pss_Sxs (X : Cx) (W : Wc) (sts : List Stmt) : PSs X sts (tSxs X W sts) := ⟨fun pins s σ H D I ⟨ρ, Φ, F, M, B, F0, h, ok, q⟩ => h pins s σ F H M B F0 D I ok q⟩
/-- what a block is to reach so that rest follows -/
def thenS (X : Cx) (W : Wc) (rest : List Stmt) (Φ : Out → Prop) : Out → Prop
  | .next ρ => Sxs X W rest ρ Φ
  | o => Φ o
section
variable {X : Cx} {W : Wc} {ρ : Env} {st : Stmt} {rest : List Stmt} {Φ : Out → Prop} {e : Expr} {pos : Pos}
theorem sxs_nil (h : Φ (.next ρ)) : Sxs X W [] ρ Φ := ⟨fun pins s σ F H M B F0 D I ok q => wpAny_execs_nil ⟨σ, H, I, q _ h F σ H M ok⟩⟩
theorem sxs_of {t : TS} (h1 : PS X st t)
    (k : ∀ (σ : St) (F H : Hp) (M : Nat → Mini) (B F0 : Hp) (D : Ends), PInv X.K B F0 ρ F σ H M → (∀ o, Φ o → EndOk X.K W B F0 D o) → t { D with nx := tSxs X W rest D } σ H) : Sxs X W (st :: rest) ρ Φ :=
  ⟨fun pins s σ F H M B F0 D I ok q => (pss_cons h1 (pss_Sxs X W rest)).run pins s σ H D I (k σ F H M B F0 D ok q)⟩
theorem thenS_ok {D : Ends} {B F0 : Hp} (q : ∀ o, Φ o → EndOk X.K W B F0 D o) : ∀ o, thenS X W rest Φ o → EndOk X.K W B F0 { D with nx := tSxs X W rest D } o
  | .next ρ', h => fun F σ H M ok => ⟨ρ', Φ, F, M, B, F0, h, ok, q⟩
  | .ret S ρ', h => q (.ret S ρ') h
  | .brk ρ', h => q (.brk ρ') h
  | .cont ρ', h => q (.cont ρ') h
  | .raise c ρ', h => q (.raise c ρ') h
theorem sxs_weak {sts : List Stmt} {ρ' : Env} (w : Wk ρ ρ') (h : Sxs X W sts ρ' Φ) : Sxs X W sts ρ Φ := ⟨fun pins s σ F H M B F0 D I ok q => h pins s σ F H M B F0 D I (ok.weak w) q⟩
theorem sxs_mono {sts : List Stmt} {Φ' : Out → Prop} (h : Sxs X W sts ρ Φ) (m : ∀ o, Φ o → Φ' o) : Sxs X W sts ρ Φ' := ⟨fun pins s σ F H M B F0 D I ok q => h pins s σ F H M B F0 D I ok fun o z => q o (m o z)⟩
theorem sxs_freeze {sts : List Stmt} (i : Nat) {p : Option Addr} {ds : List PyData} (hi : ρ[i]? = some (some (ow p ds))) (h : Sxs X W sts (ρ.set i (some (fz (.list ds)))) Φ) : Sxs X W sts ρ Φ := ⟨fun pins s σ F H M B F0 D I ok q => by
  obtain ⟨F', M', ok'⟩ := ok.freeze hi
  exact h pins s σ F' H M' B F0 D I ok' q⟩
/-- the reading of a frozen value within a statement -/
theorem rdR {r : Except Ec PyData} {σ : St} {F H B F0 : Hp} {M : Nat → Mini} {D : Ends} {Q : VK} (ok : PInv X.K B F0 ρ F σ H M) (q : ∀ o, Φ o → EndOk X.K W B F0 D o)
    (h : ∀ d, r = .ok d → ∀ v F' H', PInv X.K B F0 ρ F' σ H' M → Dq X.K F' v d → Q v H') (hr : ∀ c, r = .error c → Φ (.raise c ρ)) : tR X W ρ r σ H Q :=
  ⟨F, M, ok.ok, fun d hd v F' H' x dv => h d hd v F' H' (ok.ext x) dv, fun c hc F' H' x => q _ (hr c hc) F' σ H' M (ok.ext x)⟩
/-- x = e -/
theorem sxs_setR (i : Nat) {x : Str} {pos' : Pos} {r : Except Ec PyData} (he : EvR X W ρ e r) (k : ∀ d, r = .ok d → Sxs X W rest (ρ.set i (some (fz d))) Φ) (kr : ∀ c, r = .error c → Φ (.raise c ρ))
    (hN : X.N.Nodup) (hi : X.N[i]? = some x) (hx : Loc X.env.scope x) (hs : swapsWith e (some (.Name x pos')) pos.line X.env = pure false) (hf : X.fn x = true ∨ X.env.scope.names.lookup x = some .local) :
    Sxs X W (.Assign [.Name x pos'] e pos :: rest) ρ Φ :=
  sxs_of (ps_set hN hi hx he.pe hs hf) fun σ F H M B F0 D ok q => rdR ok q (fun d hd v F' H' ok' dv => ⟨_, Φ, F', _, B, F0, k d hd, ok'.setF dv, q⟩) kr
theorem sxs_set (i : Nat) {x : Str} {pos' : Pos} {d : PyData} (he : Ev X W ρ e d) (k : Sxs X W rest (ρ.set i (some (fz d))) Φ) (hN : X.N.Nodup)
    (hi : X.N[i]? = some x := by rfl) (hx : Loc X.env.scope x := by first | exact Or.inl rfl | exact Or.inr rfl) (hs : swapsWith e (some (.Name x pos')) pos.line X.env = pure false := by rfl)
    (hf : X.fn x = true ∨ X.env.scope.names.lookup x = some .local := by first | exact .inl rfl | exact .inr rfl) :
    Sxs X W (.Assign [.Name x pos'] e pos :: rest) ρ Φ := sxs_setR i he (fun d' hd => by cases hd; exact k) (fun c hc => nomatch hc) hN hi hx hs hf
def tFr (X : Cx) (ρ : Env) (ds : List PyData) : TE := fun σ H Q => ∃ F M, EOk X.K ρ F σ H M ∧ (∀ a vs F' H', Ext F H F' H' → H a = none → F' a = none → H' a = some (.lst vs) → DqAll X.K F' vs ds → Q (.ref a) H')
theorem Fr.pe {ds : List PyData} (h : Fr X W ρ e ds) : PE X e (tFr X ρ ds) := ⟨fun pins s σ H Q I ⟨F, M, ok, h1⟩ => h pins s σ F H M Q I ok h1⟩
/-- x = a new list, owned from then on -/
theorem sxs_setF (i : Nat) {x : Str} {pos' : Pos} {ds : List PyData} (he : Fr X W ρ e ds) (k : Sxs X W rest (ρ.set i (some (ow none ds))) Φ) (hN : X.N.Nodup)
    (hi : X.N[i]? = some x := by rfl) (hx : Loc X.env.scope x := by first | exact Or.inl rfl | exact Or.inr rfl) (hs : swapsWith e (some (.Name x pos')) pos.line X.env = pure false := by rfl)
    (hf : X.fn x = true ∨ X.env.scope.names.lookup x = some .local := by first | exact .inl rfl | exact .inr rfl) :
    Sxs X W (.Assign [.Name x pos'] e pos :: rest) ρ Φ :=
  sxs_of (ps_set hN hi hx he.pe hs hf) fun σ F H M B F0 D ok q => ⟨F, M, ok.ok, fun a vs F' H' x n n' ha dv => ⟨_, Φ, F', _, B, F0, k, ok.setO x n n' ha dv, q⟩⟩
/-- e; its value dropped -/
theorem sxs_exprR {r : Except Ec PyData} (he : EvR X W ρ e r) (k : ∀ d, r = .ok d → Sxs X W rest ρ Φ) (kr : ∀ c, r = .error c → Φ (.raise c ρ)) (hs : swapsWith e none pos.line X.env = pure false := by rfl) : Sxs X W (.Expr e pos :: rest) ρ Φ :=
  sxs_of (ps_expr he.pe hs) fun σ F H M B F0 D ok q => rdR ok q (fun d hd v F' H' ok' dv => ⟨_, Φ, F', _, B, F0, k d hd, ok', q⟩) kr
/-- return e -/
theorem sxs_retR {r : Except Ec PyData} (he : EvR X W ρ e r) (k : ∀ d, r = .ok d → Φ (.ret (fz d) ρ)) (kr : ∀ c, r = .error c → Φ (.raise c ρ)) : Sxs X W (.Return (some e) pos :: rest) ρ Φ :=
  sxs_of (ps_ret he.pe) fun σ F H M B F0 D ok q => rdR ok q (fun d hd v F' H' ok' dv => q _ (k d hd) v F' σ H' _ (ok'.pushF dv)) kr
theorem sxs_ret {d : PyData} (he : Ev X W ρ e d) (k : Φ (.ret (fz d) ρ)) : Sxs X W (.Return (some e) pos :: rest) ρ Φ := sxs_retR he (fun d' hd => by cases hd; exact k) fun c hc => nomatch hc
theorem sxs_retN (k : Φ (.ret (fz .none) ρ)) : Sxs X W (.Return none pos :: rest) ρ Φ :=
  sxs_of ps_retN fun σ F H M B F0 D ok q => q _ k .non F σ H _ (ok.pushF .non)
/-- return of a new list; of an owned one -/
theorem sxs_retF {ds : List PyData} (he : Fr X W ρ e ds) (k : Φ (.ret (ow none ds) ρ)) : Sxs X W (.Return (some e) pos :: rest) ρ Φ :=
  sxs_of (ps_ret he.pe) fun σ F H M B F0 D ok q => ⟨F, M, ok.ok, fun a vs F' H' x n n' ha dv => q _ k (.ref a) F' σ H' _ ((ok.ext x).push ⟨a, vs, rfl, rfl, (fun q h => nomatch h), dv⟩ fun b o hb => by
    have hb' : (b, o) = (a, HO.lst vs) := by simpa using hb
    cases hb'
    refine ⟨ha, n', ok.base.free n, fun j o' hm => ?_⟩
    have z := (ok.ok.own j _ o' hm).1
    rw [n] at z; cases z)⟩
theorem sxs_retO (i : Nat) {x : Str} {pos' : Pos} {S : Slot} (hd : ρ[i]? = some (some S)) (k : Φ (.ret S (ρ.set i none))) (hN : X.N[i]? = some x := by rfl) (hv : Vis X.env.scope x := by first | exact Or.inl rfl | exact Or.inr (Or.inl rfl) | exact Or.inr (Or.inr rfl))
    (h1 : (x == ("__debug__" : Str)) = false := by decide) (h2 : (x == ("__classdict__" : Str)) = false := by decide) : Sxs X W (.Return (some (.Name x pos')) pos :: rest) ρ Φ :=
  sxs_of (ps_ret (pe_var hN hv h1 h2)) fun σ F H M B F0 D ok q => by
    obtain ⟨v, e, _⟩ := ok.ok.at_ i _ hd
    obtain ⟨M', ok'⟩ := ok.pull hd e
    exact ⟨v, e, q _ k v F σ H M' ok'⟩
theorem sxs_pass (k : Sxs X W rest ρ Φ) : Sxs X W (.Pass pos :: rest) ρ Φ := sxs_of ps_pass fun σ F H M B F0 D ok q => ⟨ρ, Φ, F, M, B, F0, k, ok, q⟩
theorem sxs_break (k : Φ (.brk ρ)) : Sxs X W (.Break pos :: rest) ρ Φ := sxs_of ps_break fun σ F H M B F0 D ok q => q _ k F σ H M ok
theorem sxs_continue (k : Φ (.cont ρ)) : Sxs X W (.Continue pos :: rest) ρ Φ := sxs_of ps_continue fun σ F H M B F0 D ok q => q _ k F σ H M ok
theorem sxs_doc {x j pos'} (k : Sxs X W rest ρ Φ) : Sxs X W (.Expr (.Constant (.str x) j pos) pos' :: rest) ρ Φ := sxs_of ps_doc fun σ F H M B F0 D ok q => ⟨ρ, Φ, F, M, B, F0, k, ok, q⟩
/-- if c: a else: b -/
theorem sxs_if {c : Expr} {a b : List Stmt} {t : Bool} (hc : Tst X W ρ c t) (ha : t = true → Sxs X W a ρ (thenS X W rest Φ)) (hb : t = false → Sxs X W b ρ (thenS X W rest Φ)) : Sxs X W (.If c a b pos :: rest) ρ Φ :=
  sxs_of (ps_if hc.pt (pss_Sxs X W a) (pss_Sxs X W b)) fun σ F H M B F0 D ok q => ⟨F, M, ok.ok, fun F' H' x => by
    cases t with
    | true => exact iteT ⟨ρ, _, F', M, B, F0, ha rfl, ok.ext x, thenS_ok q⟩
    | false => exact iteF ⟨ρ, _, F', M, B, F0, hb rfl, ok.ext x, thenS_ok q⟩⟩
/-- .. both ways lead to one environment -/
def joinS (ρ' : Env) (Φ : Out → Prop) : Out → Prop
  | .next ρ => Wk ρ ρ'
  | o => Φ o
theorem sxs_ifJ (ρ' : Env) {c : Expr} {a b : List Stmt} {t : Bool} (hc : Tst X W ρ c t) (ha : t = true → Sxs X W a ρ (joinS ρ' Φ)) (hb : t = false → Sxs X W b ρ (joinS ρ' Φ)) (k : Sxs X W rest ρ' Φ) : Sxs X W (.If c a b pos :: rest) ρ Φ := by
  have m : ∀ o, joinS ρ' Φ o → thenS X W rest Φ o := fun o h => by
    cases o with
    | next ρ1 => exact sxs_weak h k
    | _ => exact h
  exact sxs_if hc (fun h => sxs_mono (ha h) m) fun h => sxs_mono (hb h) m
theorem Wk.refl (ρ : Env) : Wk ρ ρ := ⟨rfl, fun _ _ h => h⟩
end
end PV

/-! The pure-value layer: expressions. -/
namespace PV
open PySem PySem.Spec PyProof.Rows L2

/-- what every body brings along: C where the classes of errors stand, k the room for calls -/
structure Ctx (X : Cx) (C : Ec → Addr) (W : Wc) (k : Nat) : Prop where
  calm : X.calm = true
  room : Room k X.A
  nd : X.N.Nodup
  po : PassesOwn (model X.prog X.w) X.A X.env X.xe
  tk : Takes X (fun cls d σ H => ∃ c, cls = .ref (C c) ∧ d = none ∧ W c σ H)
theorem Ctx.mono {X : Cx} {C : Ec → Addr} {W : Wc} {j k : Nat} (c : Ctx X C W k) (h : j ≤ k) : Ctx X C W j := ⟨c.calm, c.room.mono h, c.nd, c.po, c.tk⟩
/-- the built-ins that no name of the module hides -/
structure Blt (mg : Str → Option Value) : Prop where
  len : mg "len" = none
  range : mg "range" = none
  max : mg "max" = none
  min : mg "min" = none
  enumerate : mg "enumerate" = none
  zip : mg "zip" = none
  isinstance : mg "isinstance" = none
  list : mg "list" = none
  dict : mg "dict" = none
  int : mg "int" = none
  str : mg "str" = none
  bool : mg "bool" = none
  tuple : mg "tuple" = none
  sum : mg "sum" = none
  any : mg "any" = none
  all : mg "all" = none
  sorted : mg "sorted" = none

theorem dq_lst {K : PySem.W.Frag} {F : Hp} {v : V} {ds : List PyData} (h : Dq K F v (.list ds)) : ∃ a vs, v = .ref a ∧ Rd F a (.lst vs) ∧ DqAll K F vs ds := by
  cases h with
  | lst h1 h2 => exact ⟨_, _, rfl, h1, h2⟩
theorem dq_tupH {K : PySem.W.Frag} {F : Hp} {v : V} {ds : List PyData} (h : Dq K F v (.tuple ds)) : ∃ a vs, v = .ref a ∧ F a = some (.tup vs) ∧ DqAll K F vs ds := by
  cases h with
  | tup h1 h2 => exact ⟨_, _, rfl, h1, h2⟩
theorem dq_tup {K : PySem.W.Frag} {F : Hp} {v : V} {ds : List PyData} (h : Dq K F v (.tuple ds)) : ∃ a vs, v = .ref a ∧ SqT K F a vs ∧ DqAll K F vs ds := by
  cases h with
  | tup h1 h2 => exact ⟨_, _, rfl, .of h1, h2⟩
section
variable {X : Cx} {W : Wc} {ρ : Env} {e a b : Expr} {es : List Expr} {pos : Pos} {C : Ec → Addr} {k : Nat}
theorem Ev.bv {ds : List PyData} (h : Ev X W ρ e (.list ds)) : Bv X W ρ e ds := ⟨fun pins s σ F H M Q I ok q => h pins s σ F H M Q I ok (fun d hd v F' H' x dv => by
  cases hd
  obtain ⟨p, vs, rfl, h1, h2⟩ := dq_lst dv
  exact q _ F' H' x ⟨p, vs, rfl, same_rd x.sub h1, h2⟩) fun c hc => nomatch hc⟩
theorem Fr.bv {ds : List PyData} (h : Fr X W ρ e ds) : Bv X W ρ e ds := ⟨fun pins s σ F H M Q I ok q => h pins s σ F H M Q I ok fun p vs F' H' x n n' hp dv => q _ F' H' x ⟨p, vs, rfl, .of hp, dv⟩⟩
theorem Fr.ev {ds : List PyData} (h : Fr X W ρ e ds) : Ev X W ρ e (.list ds) := ⟨fun pins s σ F H M Q I ok q _ => h pins s σ F H M Q I ok fun p vs F' H' x n n' hp dv => by
  have x' := x.freeze n n' hp
  refine q _ rfl _ _ H' x' (.lst (.of upd_same) (dqAll_mono (fun b u e => ?_) _ _ dv))
  rw [upd_ne (ne_of_none e n')]; exact e⟩
/-- readable in the heap as it is -/
structure Rv (X : Cx) (W : Wc) (ρ : Env) (e : Expr) (d : PyData) : Prop where
  run : ∀ (pins : List (Addr × Obj)) (s : Shared) (σ : St) (F H : Hp) (M : Nat → Mini) (Q : VK), Inv X pins σ H s → EOk X.K ρ F σ H M →
    (∀ v F' H', Ext F H F' H' → Dq X.K H' v d → Q v H') →
    wpAny (model X.prog X.w) X.A (eval e X.env) (EP X pins σ Q) X.xe s
instance coRv {X : Cx} {W : Wc} {ρ : Env} {e : Expr} {d : PyData} : CoeFun (Rv X W ρ e d) fun _ => ∀ (pins : List (Addr × Obj)) (s : Shared) (σ : St) (F H : Hp) (M : Nat → Mini) (Q : VK), Inv X pins σ H s → EOk X.K ρ F σ H M →
    (∀ v F' H', Ext F H F' H' → Dq X.K H' v d → Q v H') →
    wpAny (model X.prog X.w) X.A (eval e X.env) (EP X pins σ Q) X.xe s := ⟨fun h => h.run⟩
theorem Ev.rv {d : PyData} (h : Ev X W ρ e d) : Rv X W ρ e d := ⟨fun pins s σ F H M Q I ok q => h pins s σ F H M Q I ok (fun d' hd v F' H' x dv => by
  cases hd
  exact q v F' H' x (dq_mono x.sub _ _ dv)) fun c hc => nomatch hc⟩
theorem Bv.rv {ds : List PyData} (h : Bv X W ρ e ds) : Rv X W ρ e (.list ds) := ⟨fun pins s σ F H M Q I ok q => h pins s σ F H M Q I ok fun v F' H' x ⟨p, vs, e1, h1, h2⟩ => by
  subst e1
  exact q _ F' H' x (.lst h1 (dqAll_mono x.sub _ _ h2))⟩
def tRv (X : Cx) (ρ : Env) (d : PyData) : TE := fun σ H Q => ∃ F M, EOk X.K ρ F σ H M ∧ (∀ v F' H', Ext F H F' H' → Dq X.K H' v d → Q v H')
theorem Rv.pe {d : PyData} (h : Rv X W ρ e d) : PE X e (tRv X ρ d) := ⟨fun pins s σ H Q I ⟨F, M, ok, h1⟩ => h pins s σ F H M Q I ok h1⟩

/-! ### arguments, displays -/
theorem eva_nil : EvA X W ρ [] (.ok []) := ⟨fun pos pins s σ F H M Q I ok h _ => pa_nil.run pos pins s σ H Q I (h _ rfl _ F H (.refl ok.sub) .nil)⟩
theorem eva_cons {d : PyData} {ds : List PyData} (ha : Ev X W ρ e d) (hr : EvA X W ρ es (.ok ds)) (hs : starEach (e :: es) X.env = (false, eval e X.env) :: starEach es X.env := by rfl) : EvA X W ρ (e :: es) (.ok (d :: ds)) :=
  ⟨fun pos pins s σ F H M Q I ok h _ => (pa_cons ha.pe hr.pa hs).run pos pins s σ H Q I (rd ok fun v F1 H1 x1 dv => ⟨F1, M, ok.ext x1, fun ds' hd vs F2 H2 x2 dvs => by
    cases hd
    exact h _ rfl _ F2 H2 (x1.trans x2) (.cons (dq_mono x2.f _ _ dv) dvs), fun c hc => nomatch hc⟩)⟩
/-- .. where one may raise -/
theorem eva_consR {r : Except Ec PyData} {g : PyData → Except Ec (List PyData)} (ha : EvR X W ρ e r) (hr : ∀ d, r = .ok d → EvA X W ρ es (g d)) (hs : starEach (e :: es) X.env = (false, eval e X.env) :: starEach es X.env := by rfl) :
    EvA X W ρ (e :: es) (r.bind fun d => (g d).map (d :: ·)) := by
  refine ⟨?_⟩
  intro pos pins s σ F H M Q I ok h hE
  cases r with
  | ok d =>
    exact (pa_cons ha.pe (hr d rfl).pa hs).run pos pins s σ H Q I (rd ok fun v F1 H1 x1 dv => ⟨F1, M, ok.ext x1, fun ds hd vs F2 H2 x2 dvs => by
      refine h (d :: ds) ?_ _ F2 H2 (x1.trans x2) (.cons (dq_mono x2.f _ _ dv) dvs)
      show (g d).map (d :: ·) = _
      rw [hd]; rfl, fun c hc F2 H2 x2 => by
      refine hE c ?_ F2 H2 (x1.trans x2)
      show (g d).map (d :: ·) = _
      rw [hc]; rfl⟩)
  | error c =>
    have hp : PE X e (fun σ H Q => ∃ F M, EOk X.K ρ F σ H M ∧ ∀ F' H', Ext F H F' H' → W c σ H') := ⟨fun pins s σ H Q I ⟨F, M, ok, z⟩ => ha pins s σ F H M Q I ok (fun d hd => nomatch hd) fun c' hc => by cases hc; exact z⟩
    exact (pa_cons hp (t := fun _ _ _ => False) ⟨fun _ _ _ _ _ _ _ z => z.elim⟩ hs).run pos pins s σ H Q I ⟨F, M, ok, fun F' H' x => hE c rfl F' H' x⟩
/-- arguments of which nothing is kept: readable ones -/
structure RvA (X : Cx) (W : Wc) (ρ : Env) (es : List Expr) (ds : List PyData) : Prop where
  run : ∀ (pos : Pos) (pins : List (Addr × Obj)) (s : Shared) (σ : St) (F H : Hp) (M : Nat → Mini) (Q : List V → Hp → Prop), Inv X pins σ H s → EOk X.K ρ F σ H M →
    (∀ vs F' H', Ext F H F' H' → DqAll X.K H' vs ds → Q vs H') → wpAny (model X.prog X.w) X.A (spliced (backTo pos (starEach es X.env))) (AP X pins σ Q) X.xe s
instance coRvA {X : Cx} {W : Wc} {ρ : Env} {es : List Expr} {ds : List PyData} : CoeFun (RvA X W ρ es ds) fun _ => ∀ (pos : Pos) (pins : List (Addr × Obj)) (s : Shared) (σ : St) (F H : Hp) (M : Nat → Mini) (Q : List V → Hp → Prop), Inv X pins σ H s → EOk X.K ρ F σ H M →
    (∀ vs F' H', Ext F H F' H' → DqAll X.K H' vs ds → Q vs H') → wpAny (model X.prog X.w) X.A (spliced (backTo pos (starEach es X.env))) (AP X pins σ Q) X.xe s := ⟨fun h => h.run⟩
def tRvA (X : Cx) (ρ : Env) (ds : List PyData) : TA := fun σ H Q => ∃ F M, EOk X.K ρ F σ H M ∧ (∀ vs F' H', Ext F H F' H' → DqAll X.K H' vs ds → Q vs H')
theorem RvA.pa {ds : List PyData} (h : RvA X W ρ es ds) : PA X es (tRvA X ρ ds) := ⟨fun pos pins s σ H Q I ⟨F, M, ok, h1⟩ => h pos pins s σ F H M Q I ok h1⟩
theorem rva_nil : RvA X W ρ [] [] := ⟨fun pos pins s σ F H M Q I ok h => pa_nil.run pos pins s σ H Q I (h _ F H (.refl ok.sub) .nil)⟩
theorem rva_cons {d : PyData} {ds : List PyData} (ha : Rv X W ρ e d) (hr : RvA X W ρ es ds) (hs : starEach (e :: es) X.env = (false, eval e X.env) :: starEach es X.env := by rfl) : RvA X W ρ (e :: es) (d :: ds) :=
  ⟨fun pos pins s σ F H M Q I ok h => (pa_cons ha.pe hr.pa hs).run pos pins s σ H Q I ⟨F, M, ok, fun v F1 H1 x1 dv => ⟨F1, M, ok.ext x1, fun vs F2 H2 x2 dvs => h _ F2 H2 (x1.trans x2) (.cons (dq_mono x2.h _ _ dv) dvs)⟩⟩⟩
theorem sz_of {K : PySem.W.Frag} {H : Hp} {vs : List V} {ds : List PyData} (h : DqAll K H vs ds) (c : ds.length ≤ sizeLine) : vs.length ≤ sizeLine := by rw [DqAll_len h]; exact c
theorem small {n : Nat} (h : n ≤ 1000) : n ≤ sizeLine := Nat.le_trans h (by decide)
theorem ev_tup {kk : Nat} {ds : List PyData} (ha : EvA X W ρ es (.ok ds)) (c : ds.length ≤ sizeLine := by exact PV.small (by simp)) : Ev X W ρ (.Tuple es kk pos) (.tuple ds) :=
  ev1_of (pe_tup ha.pa) fun σ F H M Q ok h => ⟨F, M, ok, fun ds' hd vs F' H' x dvs => by
    cases hd
    refine ⟨sz_of dvs c, fun p hp => ?_⟩
    have y := Ext.laid (o := .tup vs) x.sub hp
    exact h _ _ _ (x.trans y) (.tup upd_same (dqAll_mono y.f _ _ dvs)), fun c hc => nomatch hc⟩
theorem fr_lst {ds : List PyData} (ha : EvA X W ρ es (.ok ds)) (c : ds.length ≤ sizeLine := by exact PV.small (by simp)) : Fr X W ρ (.List es pos) ds :=
  ⟨fun pins s σ F H M Q I ok h => (pe_lst ha.pa).run pins s σ H Q I ⟨F, M, ok, fun ds' hd vs F' H' x dvs => by
    cases hd
    refine ⟨sz_of dvs c, fun p hp => ?_⟩
    exact h p vs F' _ (x.trans (.beside x.sub hp)) (x.h.free hp) (x.sub.free hp) upd_same dvs, fun c hc => nomatch hc⟩⟩

/-! ### subscripts -/
theorem atI_dq {K : PySem.W.Frag} {H : Hp} {vs : List V} {ds : List PyData} {i : Int} {d : PyData} (h : DqAll K H vs ds) (e : atI ds i = some d) : ∃ v, atI vs i = some v ∧ Dq K H v d := by
  unfold atI at e ⊢
  rw [DqAll_len h]
  cases q : ixN ds.length i with
  | none => rw [q] at e; cases e
  | some j =>
    rw [q] at e
    obtain ⟨v, h1, h2⟩ := DqAll_get h (show ds[j]? = some d from e)
    exact ⟨v, h1, h2⟩
theorem ev_ixT {ds : List PyData} {i : Int} {d : PyData} (ha : Ev X W ρ a (.tuple ds)) (hb : Ev X W ρ b (.int i)) (e : atI ds i = some d) (hs : PlainIx b := by exact fun _ _ => rfl) : Ev X W ρ (.Subscript a b pos) d :=
  ev1_of (pe_ix ix_tup ha.pe hb.pe hs) fun σ F H M Q ok h => rd ok fun x F1 H1 e1 dx => rd (ok.ext e1) fun y F2 H2 e2 dy => by
    obtain ⟨p, vs, rfl, h1, h2⟩ := dq_tup dx
    obtain ⟨v, h3, h4⟩ := atI_dq h2 e
    exact ⟨p, vs, i, v, rfl, dq_int dy, same_seqT (e2.f.trans e2.sub) h1, h3, h v F2 H2 (e1.trans e2) (dq_mono e2.f _ _ h4)⟩
theorem ev_ixL {ds : List PyData} {i : Int} {d : PyData} (ha : Bw X W ρ a ds) (hb : Ev X W ρ b (.int i)) (e : atI ds i = some d) (hs : PlainIx b := by exact fun _ _ => rfl) : Ev X W ρ (.Subscript a b pos) d :=
  ev1_of (pe_ix ix_list ha.pe hb.pe hs) fun σ F H M Q ok h => ⟨F, M, ok, fun x F1 H1 e1 ⟨p, vs, ex, h1, h2⟩ => rd (ok.ext e1) fun y F2 H2 e2 dy => by
    subst ex
    obtain ⟨v, h3, h4⟩ := atI_dq h2 e
    exact ⟨p, vs, i, v, rfl, dq_int dy, e2.h.seq h1, h3, h v F2 H2 (e1.trans e2) (dq_mono e2.f _ _ h4)⟩⟩
theorem ev_ixS {z : Str} {i : Int} {c : Nat} (ha : Ev X W ρ a (.str z)) (hb : Ev X W ρ b (.int i)) (hz : z.length ≤ sizeLine) (e : atI z.cps.toList i = some c) (hs : PlainIx b := by exact fun _ _ => rfl) : Ev X W ρ (.Subscript a b pos) (.str ⟨#[c]⟩) :=
  ev1_of (pe_ix ix_str ha.pe hb.pe hs) fun σ F H M Q ok h => rd ok fun x F1 H1 e1 dx => rd (ok.ext e1) fun y F2 H2 e2 dy =>
    ⟨z, i, c, dq_str dx, dq_int dy, hz, e, h _ F2 H2 (e1.trans e2) (.str _)⟩
/-- the parts of a slice -/
def EvO (X : Cx) (W : Wc) (ρ : Env) (e : Option Expr) (o : Option Int) : Prop := match e, o with
  | none, none => True
  | some e, some i => Ev X W ρ e (.int i)
  | _, _ => False
def tEvO (X : Cx) (ρ : Env) (o : Option Int) : TO := fun σ H Q => ∃ F M, EOk X.K ρ F σ H M ∧ ∀ F' H', Ext F H F' H' → Q o H'
theorem EvO.po {e : Option Expr} {o : Option Int} (h : EvO X W ρ e o) : PO X e (tEvO X ρ o) := by
  cases e with
  | none =>
    cases o with
    | none => exact ⟨fun pins s σ H Q I ⟨F, M, ok, z⟩ => po_none.run pins s σ H Q I (z F H (.refl ok.sub))⟩
    | some i => exact h.elim
  | some e =>
    cases o with
    | none => exact h.elim
    | some i =>
      have h' : Ev X W ρ e (.int i) := h
      exact ⟨fun pins s σ H Q I ⟨F, M, ok, z⟩ => (po_some h'.pe).run pins s σ H Q I (rd ok fun v F' H' x dv => ⟨i, dq_int dv, z F' H' x⟩)⟩
def cutD (xs : List PyData) (lo hi : Option Int) : List PyData := (xs.drop (HT.sIx xs.length 0 lo)).take (HT.sIx xs.length xs.length hi - HT.sIx xs.length 0 lo)
theorem fr_slice {ds : List PyData} {lo hi : Option Expr} {l u : Option Int} {p2 : Pos} (ha : Bw X W ρ a ds) (hl : EvO X W ρ lo l) (hu : EvO X W ρ hi u) : Fr X W ρ (.Subscript a (.Slice lo hi none p2) pos) (cutD ds l u) :=
  ⟨fun pins s σ F H M Q I ok h => (pe_slice sl_list ha.pe hl.po hu.po).run pins s σ H Q I ⟨F, M, ok, fun x F1 H1 e1 ⟨p, vs, ex, h1, h2⟩ => ⟨F1, M, ok.ext e1, fun F2 H2 e2 => ⟨F2, M, (ok.ext e1).ext e2, fun F3 H3 e3 => by
    subst ex
    refine ⟨p, vs, rfl, (e2.h.trans e3.h).seq h1, fun q hq => ?_⟩
    have x := (e1.trans e2).trans e3
    have e : DqAll X.K F3 (cutV vs l u) (cutD ds l u) := by
      unfold cutV cutD
      rw [DqAll_len h2]
      exact DqAll_take _ (DqAll_drop _ (dqAll_mono (e2.f.trans e3.f) _ _ h2))
    exact h q _ F3 _ (x.trans (.beside x.sub hq)) (x.h.free hq) (x.sub.free hq) upd_same e⟩⟩⟩⟩
theorem ev_sliceS {z : Str} {lo hi : Option Expr} {l u : Option Int} {p2 : Pos} (ha : Ev X W ρ a (.str z)) (hl : EvO X W ρ lo l) (hu : EvO X W ρ hi u) (c : z.length ≤ sizeLine) : Ev X W ρ (.Subscript a (.Slice lo hi none p2) pos) (.str (cutS z l u)) :=
  ev1_of (pe_slice sl_str ha.pe hl.po hu.po) fun σ F H M Q ok h => rd ok fun x F1 H1 e1 dx => ⟨F1, M, ok.ext e1, fun F2 H2 e2 => ⟨F2, M, (ok.ext e1).ext e2, fun F3 H3 e3 =>
    ⟨z, dq_str dx, c, h _ F3 H3 ((e1.trans e2).trans e3) (.str _)⟩⟩⟩

/-! ### lists put together -/
def rCatR : R2 := fun x y H Q => ∃ l b xs zs, x = .ref l ∧ y = .ref b ∧ Rd H l (.lst xs) ∧ Rd H b (.lst zs) ∧ xs.length + zs.length ≤ sizeLine ∧ ∀ p, H p = none → Q (.ref p) (upd H p (.lst (xs ++ zs)))
theorem rd_obj {pins : List (Addr × Obj)} {σ : St} {H : Hp} {s : Shared} {a : Addr} {xs : List V} (I : Inv X pins σ H s) (h : Rd H a (.lst xs)) : ∃ (its : List Value) (n : Nat), Vals xs its ∧ xs.length = its.length ∧ s.heap.get? a = some { cls := .type "list", data := .seq its.toArray n } ∧ xs.length ≤ sizeLine := by
  obtain ⟨z, its, n, r, e⟩ : ObjOk X.prog X.w H s.heap a (.lst xs) := h.ok I.hok
  exact ⟨its, n, r, r.length, e, z⟩
theorem op_catR : OpR X (binaryOp .Add) rCatR := by
  intro pins s σ H x y v u Q I rx ry h
  obtain ⟨l, b, xs, zs, rfl, rfl, hH, hB, hz, q⟩ := h
  cases rx
  cases ry
  obtain ⟨its, n, r, hl, e, z⟩ := rd_obj I hH
  obtain ⟨its2, n2, r2, hl2, e2, z2⟩ := rd_obj I hB
  refine PySem.P.add_list e e2 ?_ (by rw [List.size_toArray, List.size_toArray]; omega)
  have ea : its.toArray ++ its2.toArray = (its ++ its2).toArray := by simp
  rw [ea]
  exact ⟨.ref _, _, I.lnew (t' := s.toks) (r.append r2) (by rw [List.length_append]; omega), rfl, q _ I.fresh⟩
theorem fr_cat {ds es : List PyData} (ha : Bv X W ρ a ds) (hb : Bv X W ρ b es) (c : ds.length + es.length ≤ sizeLine) : Fr X W ρ (.BinOp a .Add b pos) (ds ++ es) :=
  ⟨fun pins s σ F H M Q I ok h => (pe_op op_catR ha.pe hb.pe).run pins s σ H Q I ⟨F, M, ok, fun x F1 H1 e1 ⟨p, vs, ex, h1, h2⟩ => ⟨F1, M, ok.ext e1, fun y F2 H2 e2 ⟨q, ws, ey, h3, h4⟩ => by
    subst ex ey
    have x := e1.trans e2
    refine ⟨p, q, vs, ws, rfl, rfl, same_rd e2.h h1, h3, by rw [DqAll_len h2, DqAll_len h4]; exact c, fun l hl => ?_⟩
    exact h l _ F2 _ (x.trans (.beside x.sub hl)) (x.h.free hl) (x.sub.free hl) upd_same (DqAll_app (dqAll_mono e2.f _ _ h2) h4)⟩⟩⟩
/-- list(x) -/
theorem fr_list {p : Pos} {ds : List PyData} (B : Blt X.mg) (ha : Bw X W ρ a ds) (hg : Gl X "list" := by rfl) (he : starEach (a :: []) X.env = (false, eval a X.env) :: starEach [] X.env := by rfl) : Fr X W ρ (.Call (.Name "list" p) [a] [] pos) ds :=
  ⟨fun pins s σ F H M Q I ok h => (pe_callTy call_list_of hg B.list (by decide +kernel) (pa_cons ha.pe pa_nil he) (he := he)).run pins s σ H Q I ⟨F, M, ok, fun x F1 H1 e1 ⟨p, vs, ex, h1, h2⟩ => by
    subst ex
    exact ⟨p, vs, rfl, .inl h1, fun l hl => h l _ F1 _ (e1.trans (.beside e1.sub hl)) (e1.h.free hl) (e1.sub.free hl) upd_same h2⟩⟩⟩
/-- len(x) -/
theorem ev_len {p : Pos} {ds : List PyData} (B : Blt X.mg) (ha : Bw X W ρ a ds) (hg : Gl X "len" := by rfl) (he : starEach (a :: []) X.env = (false, eval a X.env) :: starEach [] X.env := by rfl) : Ev X W ρ (.Call (.Name "len" p) [a] [] pos) (.int ds.length) :=
  ev1_of (pe_callB call_len_seq hg B.len PySem.boot_len (pa_cons ha.pe pa_nil he) (he := he)) fun σ F H M Q ok h => ⟨F, M, ok, fun x F1 H1 e1 ⟨p, vs, ex, h1, h2⟩ => by
    subst ex
    refine ⟨p, vs, rfl, .inl h1, ?_⟩
    rw [DqAll_len h2]
    exact h _ F1 H1 e1 (.int _)⟩
theorem ev_lenS {p : Pos} {z : Str} (B : Blt X.mg) (ha : Ev X W ρ a (.str z)) (c : z.length ≤ sizeLine) (hg : Gl X "len" := by rfl) (he : starEach (a :: []) X.env = (false, eval a X.env) :: starEach [] X.env := by rfl) : Ev X W ρ (.Call (.Name "len" p) [a] [] pos) (.int z.length) :=
  ev1_of (pe_callB call_len_str hg B.len PySem.boot_len (pa_cons ha.pe pa_nil he) (he := he)) fun σ F H M Q ok h => rd ok fun x F1 H1 e1 dx => ⟨z, by rw [dq_str dx], c, h _ F1 H1 e1 (.int _)⟩
theorem ev_lenT {p : Pos} {ds : List PyData} (B : Blt X.mg) (ha : Ev X W ρ a (.tuple ds)) (hg : Gl X "len" := by rfl) (he : starEach (a :: []) X.env = (false, eval a X.env) :: starEach [] X.env := by rfl) : Ev X W ρ (.Call (.Name "len" p) [a] [] pos) (.int ds.length) :=
  ev1_of (pe_callB call_len_seq hg B.len PySem.boot_len (pa_cons ha.pe pa_nil he) (he := he)) fun σ F H M Q ok h => rd ok fun x F1 H1 e1 dx => by
    obtain ⟨p, vs, rfl, h1, h2⟩ := dq_tup dx
    refine ⟨p, vs, rfl, .inr (same_seqT e1.sub h1), ?_⟩
    rw [DqAll_len h2]
    exact h _ F1 H1 e1 (.int _)
/-- max(a, b), min(a, b) -/
theorem ev_max {p : Pos} {i j : Int} (c : Ctx X C W k) (B : Blt X.mg) (ha : Ev X W ρ a (.int i)) (hb : Ev X W ρ b (.int j)) (hg : Gl X "max" := by rfl) (he : starEach (a :: [b]) X.env = (false, eval a X.env) :: starEach [b] X.env := by rfl)
    (he2 : starEach (b :: []) X.env = (false, eval b X.env) :: starEach [] X.env := by rfl) (hpl : (backTo pos (starEach [b] X.env)).any (·.1) = false := by rfl) : Ev X W ρ (.Call (.Name "max" p) [a, b] [] pos) (.int (max i j)) :=
  ev1_of (pe_callB (call_max2 c.calm) hg B.max (by decide +kernel) (pa_cons ha.pe (pa_cons hb.pe pa_nil he2) he) (he := he) (hpl := hpl)) fun σ F H M Q ok h => rd ok fun x F1 H1 e1 dx => rd (ok.ext e1) fun y F2 H2 e2 dy => by
    refine ⟨i, j, by rw [dq_int dx, dq_int dy], ?_⟩
    have e : (if j > i then j else i) = max i j := by rw [Int.max_def]; split <;> split <;> omega
    rw [e]
    exact h _ F2 H2 (e1.trans e2) (.int _)
theorem ev_min {p : Pos} {i j : Int} (c : Ctx X C W k) (B : Blt X.mg) (ha : Ev X W ρ a (.int i)) (hb : Ev X W ρ b (.int j)) (hg : Gl X "min" := by rfl) (he : starEach (a :: [b]) X.env = (false, eval a X.env) :: starEach [b] X.env := by rfl)
    (he2 : starEach (b :: []) X.env = (false, eval b X.env) :: starEach [] X.env := by rfl) (hpl : (backTo pos (starEach [b] X.env)).any (·.1) = false := by rfl) : Ev X W ρ (.Call (.Name "min" p) [a, b] [] pos) (.int (min i j)) :=
  ev1_of (pe_callB (call_min2 c.calm) hg B.min (by decide +kernel) (pa_cons ha.pe (pa_cons hb.pe pa_nil he2) he) (he := he) (hpl := hpl)) fun σ F H M Q ok h => rd ok fun x F1 H1 e1 dx => rd (ok.ext e1) fun y F2 H2 e2 dy => by
    refine ⟨i, j, by rw [dq_int dx, dq_int dy], ?_⟩
    have e : (if j < i then j else i) = min i j := by rw [Int.min_def]; split <;> split <;> omega
    rw [e]
    exact h _ F2 H2 (e1.trans e2) (.int _)
/-- str(n) of a number that is not too long -/
theorem ev_strI {p : Pos} {i : Int} (B : Blt X.mg) (ha : Ev X W ρ a (.int i)) (c : i.natAbs.log2 < 1920) (hg : Gl X "str" := by rfl) (he : starEach (a :: []) X.env = (false, eval a X.env) :: starEach [] X.env := by rfl) : Ev X W ρ (.Call (.Name "str" p) [a] [] pos) (.str (toString i)) :=
  ev1_of (pe_callTy call_str_int hg B.str (by decide +kernel) (pa_cons ha.pe pa_nil he) (he := he)) fun σ F H M Q ok h => rd ok fun x F1 H1 e1 dx => ⟨i, by rw [dq_int dx], c, h _ F1 H1 e1 (.str _)⟩
/-- int(b), int(text) -/
theorem ev_intB {p : Pos} {t : Bool} (B : Blt X.mg) (ha : Ev X W ρ a (.bool t)) (hg : Gl X "int" := by rfl) (he : starEach (a :: []) X.env = (false, eval a X.env) :: starEach [] X.env := by rfl) : Ev X W ρ (.Call (.Name "int" p) [a] [] pos) (.int (if t then 1 else 0)) :=
  ev1_of (pe_callTy call_int1 hg B.int (by decide +kernel) (pa_cons ha.pe pa_nil he) (he := he)) fun σ F H M Q ok h => rd ok fun x F1 H1 e1 dx => .inr ⟨t, by rw [dq_bl dx], h _ F1 H1 e1 (.int _)⟩
theorem ev_intS {p : Pos} {z : Str} {n : Int} (B : Blt X.mg) (ha : Ev X W ρ a (.str z)) (c : PySem.intText? z = some n) (c2 : z.length ≤ 640) (hg : Gl X "int" := by rfl) (he : starEach (a :: []) X.env = (false, eval a X.env) :: starEach [] X.env := by rfl) : Ev X W ρ (.Call (.Name "int" p) [a] [] pos) (.int n) :=
  ev1_of (pe_callTy call_int_str hg B.int (by decide +kernel) (pa_cons ha.pe pa_nil he) (he := he)) fun σ F H M Q ok h => rd ok fun x F1 H1 e1 dx => ⟨z, n, by rw [dq_str dx], c, c2, h _ F1 H1 e1 (.int _)⟩

/-! ### comparisons: of two parts, what comes of them -/
structure Cm (X : Cx) (W : Wc) (ρ : Env) (op : CmpOp) (a b : Expr) (y : Bool) : Prop where
  run : ∀ (pins : List (Addr × Obj)) (s : Shared) (σ : St) (F H : Hp) (M : Nat → Mini) (Q : VK), Inv X pins σ H s → EOk X.K ρ F σ H M → (∀ F' H', Ext F H F' H' → Q (.bl y) H') →
    wpAny (model X.prog X.w) X.A (eval a X.env) (fun v s₁ => wpAny (model X.prog X.w) X.A (eval b X.env) (fun u s₂ => wpAny (model X.prog X.w) X.A (compareOp op v u) (EP X pins σ Q) X.xe s₂) X.xe s₁) X.xe s
instance coCm {X : Cx} {W : Wc} {ρ : Env} {op : CmpOp} {a b : Expr} {y : Bool} : CoeFun (Cm X W ρ op a b y) fun _ => ∀ (pins : List (Addr × Obj)) (s : Shared) (σ : St) (F H : Hp) (M : Nat → Mini) (Q : VK), Inv X pins σ H s → EOk X.K ρ F σ H M → (∀ F' H', Ext F H F' H' → Q (.bl y) H') →
    wpAny (model X.prog X.w) X.A (eval a X.env) (fun v s₁ => wpAny (model X.prog X.w) X.A (eval b X.env) (fun u s₂ => wpAny (model X.prog X.w) X.A (compareOp op v u) (EP X pins σ Q) X.xe s₂) X.xe s₁) X.xe s := ⟨fun h => h.run⟩
def tCm (X : Cx) (ρ : Env) (y : Bool) : TE := fun σ H Q => ∃ F M, EOk X.K ρ F σ H M ∧ ∀ F' H', Ext F H F' H' → Q (.bl y) H'
theorem Cm.pc {op : CmpOp} {y : Bool} (h : Cm X W ρ op a b y) : PC X op a b (tCm X ρ y) := ⟨fun pins s σ H Q I ⟨F, M, ok, q⟩ => h pins s σ F H M Q I ok q⟩
/-- as a value, as a test -/
theorem ev_cm {op : CmpOp} {y : Bool} (h : Cm X W ρ op a b y) (h1 : behindInMarks op b = false := by first | exact nobehind _ (by decide) (by decide) | rfl) : Ev X W ρ (.Compare a [op] [b] pos) (.bool y) :=
  ev1_of (pe_cmp h.pc h1) fun σ F H M Q ok q => ⟨F, M, ok, fun F' H' x => q _ F' H' x (.bl _)⟩
theorem tst_cm {op : CmpOp} {y : Bool} (h : Cm X W ρ op a b y) (h1 : behindInMarks op b = false := by first | exact nobehind _ (by decide) (by decide) | rfl) : Tst X W ρ (.Compare a [op] [b] pos) y :=
  tst_of (pt_cmp h.pc h1) fun σ F H M Q ok q => ⟨F, M, ok, fun F' H' x => ⟨y, rfl, q F' H' x⟩⟩
theorem cm_of {op : CmpOp} {r : R2} {da db : PyData} {y : Bool} (ho : OpR X (compareOp op) r) (ha : Rv X W ρ a da) (hb : Rv X W ρ b db)
    (q : ∀ (x z : V) (H : Hp) (Q : VK), Dq X.K H x da → Dq X.K H z db → Q (.bl y) H → r x z H Q) : Cm X W ρ op a b y := ⟨fun pins s σ F H M Q I ok h =>
  binT ha.pe hb.pe I (R := fun x z H2 => r x z H2 Q) ⟨F, M, ok, fun x F1 H1 e1 dx => ⟨F1, M, ok.ext e1, fun z F2 H2 e2 dz => q x z H2 Q (dq_mono e2.h _ _ dx) dz (h F2 H2 (e1.trans e2))⟩⟩
    fun v u s2 x y H2 I2 rx ry q => ho pins s2 σ H2 x y v u Q I2 rx ry q⟩
variable {i j : Int} {x y : Str}
theorem cm_lt (ha : Ev X W ρ a (.int i)) (hb : Ev X W ρ b (.int j)) : Cm X W ρ .Lt a b (decide (i < j)) := cm_of op_lt ha.rv hb.rv fun x y H Q dx dy h => ⟨i, j, dq_int dx, dq_int dy, h⟩
theorem cm_le (ha : Ev X W ρ a (.int i)) (hb : Ev X W ρ b (.int j)) : Cm X W ρ .LtE a b (decide (i ≤ j)) := cm_of op_le ha.rv hb.rv fun x y H Q dx dy h => ⟨i, j, dq_int dx, dq_int dy, h⟩
theorem cm_gt (ha : Ev X W ρ a (.int i)) (hb : Ev X W ρ b (.int j)) : Cm X W ρ .Gt a b (decide (j < i)) := cm_of op_gt ha.rv hb.rv fun x y H Q dx dy h => ⟨i, j, dq_int dx, dq_int dy, h⟩
theorem cm_ge (ha : Ev X W ρ a (.int i)) (hb : Ev X W ρ b (.int j)) : Cm X W ρ .GtE a b (decide (j ≤ i)) := cm_of op_ge ha.rv hb.rv fun x y H Q dx dy h => ⟨i, j, dq_int dx, dq_int dy, h⟩
theorem dec_I : decide (V.int i = V.int j) = decide (i = j) := by rw [Bool.eq_iff_iff]; simp
theorem dec_S : decide (V.str x = V.str y) = decide (x = y) := by rw [Bool.eq_iff_iff]; simp
theorem cm_eq (ha : Ev X W ρ a (.int i)) (hb : Ev X W ρ b (.int j)) : Cm X W ρ .Eq a b (decide (i = j)) := cm_of op_eq ha.rv hb.rv fun x y H Q dx dy h => by
  rw [dq_int dx, dq_int dy]
  exact ⟨rfl, by rw [dec_I]; exact h⟩
theorem cm_ne (ha : Ev X W ρ a (.int i)) (hb : Ev X W ρ b (.int j)) : Cm X W ρ .NotEq a b (!decide (i = j)) := cm_of op_ne ha.rv hb.rv fun x y H Q dx dy h => by
  rw [dq_int dx, dq_int dy]
  exact ⟨rfl, by rw [dec_I]; exact h⟩
theorem cm_eqS (ha : Ev X W ρ a (.str x)) (hb : Ev X W ρ b (.str y)) : Cm X W ρ .Eq a b (decide (x = y)) := cm_of op_eq ha.rv hb.rv fun x y H Q dx dy h => by
  rw [dq_str dx, dq_str dy]
  exact ⟨rfl, by rw [dec_S]; exact h⟩
theorem cm_neS (ha : Ev X W ρ a (.str x)) (hb : Ev X W ρ b (.str y)) : Cm X W ρ .NotEq a b (!decide (x = y)) := cm_of op_ne ha.rv hb.rv fun x y H Q dx dy h => by
  rw [dq_str dx, dq_str dy]
  exact ⟨rfl, by rw [dec_S]; exact h⟩
theorem can0_of_shaped {d : PyData} (h : SeqAt.shaped d = true) : d.canLay0 = true := by
  unfold SeqAt.shaped at h
  rw [Bool.and_eq_true] at h
  exact h.1
theorem cm_eqD {da db : PyData} (c : Ctx X C W k) (ha : Rv X W ρ a da) (hb : Rv X W ρ b db) (sa : SeqAt.shaped da = true) (sb : SeqAt.shaped db = true) : Cm X W ρ .Eq a b (PyData.eqv da db) :=
  cm_of (op_eqD c.room.units) ha hb fun x z H Q h1 h2 q => ⟨da, db, h1.dp _ _ (can0_of_shaped sa), h2.dp _ _ (can0_of_shaped sb), sa, sb, q⟩
theorem cm_neD {da db : PyData} (c : Ctx X C W k) (ha : Rv X W ρ a da) (hb : Rv X W ρ b db) (sa : SeqAt.shaped da = true) (sb : SeqAt.shaped db = true) : Cm X W ρ .NotEq a b (!PyData.eqv da db) :=
  cm_of (op_neD c.room.units) ha hb fun x z H Q h1 h2 q => ⟨da, db, h1.dp _ _ (can0_of_shaped sa), h2.dp _ _ (can0_of_shaped sb), sa, sb, q⟩
def isNone : PyData → Bool
  | .none => true
  | _ => false
theorem dq_none {K : PySem.W.Frag} {F : Hp} {v : V} {d : PyData} (h : Dq K F v d) : decide (v = .non) = isNone d := by cases h <;> simp [isNone, dctD]
theorem cm_isN {d : PyData} {j pos'} (ha : Ev X W ρ a d) : Cm X W ρ .Is a (.Constant .none j pos') (isNone d) := ⟨fun pins s σ F H M Q I ok h => (pc_isN ha.pe).run pins s σ H Q I (rd ok fun x F1 H1 e1 dx => by
  rw [dq_none dx]
  exact h F1 H1 e1)⟩
theorem cm_notN {d : PyData} {j pos'} (ha : Ev X W ρ a d) : Cm X W ρ .IsNot a (.Constant .none j pos') (!isNone d) := ⟨fun pins s σ F H M Q I ok h => (pc_notN ha.pe).run pins s σ H Q I (rd ok fun x F1 H1 e1 dx => by
  rw [dq_none dx]
  exact h F1 H1 e1)⟩
/-! in, not in -/
theorem cm_inS (ha : Ev X W ρ a (.str x)) (hb : Ev X W ρ b (.str y)) : Cm X W ρ .In a b (!(Builtin.Str.occurrences y x 0 y.length 1).isEmpty) := cm_of op_in_str ha.rv hb.rv fun u v H Q dx dy h => ⟨x, y, dq_str dx, dq_str dy, h⟩
theorem cm_ninS (ha : Ev X W ρ a (.str x)) (hb : Ev X W ρ b (.str y)) : Cm X W ρ .NotIn a b (!(!(Builtin.Str.occurrences y x 0 y.length 1).isEmpty)) := cm_of op_notin_str ha.rv hb.rv fun u v H Q dx dy h => ⟨x, y, dq_str dx, dq_str dy, h⟩
/-- a text of one sign in a text -/
theorem cm_in1 {c : Nat} (ha : Ev X W ρ a (.str ⟨#[c]⟩)) (hb : Ev X W ρ b (.str y)) : Cm X W ρ .In a b (decide (c ∈ y.cps.toList)) := cm_of op_in_sign ha.rv hb.rv fun u v H Q dx dy h => ⟨c, y, dq_str dx, dq_str dy, h⟩
theorem cm_nin1 {c : Nat} (ha : Ev X W ρ a (.str ⟨#[c]⟩)) (hb : Ev X W ρ b (.str y)) : Cm X W ρ .NotIn a b (!decide (c ∈ y.cps.toList)) := cm_of op_notIn_sign ha.rv hb.rv fun u v H Q dx dy h => ⟨c, y, dq_str dx, dq_str dy, h⟩
/-! a chain of two -/
theorem ev_chain {c : Expr} {op op' : CmpOp} {i j l : Int} {f g : Int → Int → Bool} (ho : OpR X (compareOp op) (rI0 fun i j => .bl (f i j))) (ho' : OpR X (compareOp op') (rI0 fun i j => .bl (g i j))) (ha : Ev X W ρ a (.int i)) (hb : Ev X W ρ b (.int j)) (hc : Ev X W ρ c (.int l))
    (hm : lastMarks [op, op'] [b, c] = false := by with_unfolding_all rfl) : Ev X W ρ (.Compare a [op, op'] [b, c] pos) (.bool (f i j && g j l)) :=
  ev1_of (pe_chain ho ho' ha.pe hb.pe hc.pe hm) fun σ F H M Q ok h => rd ok fun x F1 H1 e1 dx => rd (ok.ext e1) fun y F2 H2 e2 dy => ⟨i, j, dq_int dx, dq_int dy, _, rfl, by
    cases q : f i j with
    | false => exact iteF (by rw [q] at h; exact h _ F2 H2 (e1.trans e2) (.bl _))
    | true => exact iteT (rd ((ok.ext e1).ext e2) fun z F3 H3 e3 dz => ⟨j, l, dq_int dy, dq_int dz, by rw [q] at h; exact h _ F3 H3 ((e1.trans e2).trans e3) (.bl _)⟩)⟩
theorem tst_chain {c : Expr} {op op' : CmpOp} {i j l : Int} {f g : Int → Int → Bool} (ho : OpR X (compareOp op) (rI0 fun i j => .bl (f i j))) (ho' : OpR X (compareOp op') (rI0 fun i j => .bl (g i j))) (ha : Ev X W ρ a (.int i)) (hb : Ev X W ρ b (.int j)) (hc : Ev X W ρ c (.int l))
    (hm : lastMarks [op, op'] [b, c] = false := by with_unfolding_all rfl) : Tst X W ρ (.Compare a [op, op'] [b, c] pos) (f i j && g j l) :=
  tst_of (pt_chain ho ho' ha.pe hb.pe hc.pe hm) fun σ F H M Q ok h => rd ok fun x F1 H1 e1 dx => rd (ok.ext e1) fun y F2 H2 e2 dy => ⟨i, j, dq_int dx, dq_int dy, _, rfl, by
    cases q : f i j with
    | false => exact iteF ⟨_, rfl, by rw [q] at h; exact h F2 H2 (e1.trans e2)⟩
    | true => exact iteT (rd ((ok.ext e1).ext e2) fun z F3 H3 e3 dz => ⟨j, l, dq_int dy, dq_int dz, _, rfl, by rw [q] at h; exact h F3 H3 ((e1.trans e2).trans e3)⟩)⟩

/-! ### tests, and, or, not -/
theorem tst_val {b : Bool} (h : Ev X W ρ e (.bool b)) (he : ∀ whole, isTrue e X.env whole = (do let v ← whole; standAt e.pos; holding [v] (truthy v)) := by intro _; rfl) : Tst X W ρ e b :=
  tst_of (pt_val h.pe he) fun σ F H M Q ok q => rd ok fun v F1 H1 e1 dv => ⟨b, dq_bl dv, q F1 H1 e1⟩
structure Tws (X : Cx) (W : Wc) (ρ : Env) (e : Expr) (b : Bool) : Prop where
  run : ∀ (whole : Sem Value) (pins : List (Addr × Obj)) (s : Shared) (σ : St) (F H : Hp) (M : Nat → Mini) (Q : Bool → Hp → Prop), Inv X pins σ H s → EOk X.K ρ F σ H M → (∀ F' H', Ext F H F' H' → Q b H') → wpAny (model X.prog X.w) X.A (isTrue e X.env whole) (TP X pins σ Q) X.xe s
instance coTws {X : Cx} {W : Wc} {ρ : Env} {e : Expr} {b : Bool} : CoeFun (Tws X W ρ e b) fun _ => ∀ (whole : Sem Value) (pins : List (Addr × Obj)) (s : Shared) (σ : St) (F H : Hp) (M : Nat → Mini) (Q : Bool → Hp → Prop), Inv X pins σ H s → EOk X.K ρ F σ H M → (∀ F' H', Ext F H F' H' → Q b H') → wpAny (model X.prog X.w) X.A (isTrue e X.env whole) (TP X pins σ Q) X.xe s := ⟨fun h => h.run⟩
theorem Tws.pw {b : Bool} (h : Tws X W ρ e b) : PW X e (tTst X ρ b) := ⟨fun wh pins s σ H Q I ⟨F, M, ok, q⟩ => h wh pins s σ F H M Q I ok q⟩
theorem Tws.tst {b : Bool} (h : Tws X W ρ e b) : Tst X W ρ e b := ⟨h _⟩
variable {p q : Bool} {rest : List Expr}
theorem tw_and1 (h : Tst X W ρ a p) : Tws X W ρ (.BoolOp .And [a] pos) p := ⟨fun wh pins s σ F H M Q I ok z => (pw_and1 h.pt).run wh pins s σ H Q I ⟨F, M, ok, z⟩⟩
theorem tw_or1 (h : Tst X W ρ a p) : Tws X W ρ (.BoolOp .Or [a] pos) p := ⟨fun wh pins s σ F H M Q I ok z => (pw_or1 h.pt).run wh pins s σ H Q I ⟨F, M, ok, z⟩⟩
theorem pw_none {b : Expr} {rest : List Expr} {op : BoolOp} : PW X (.BoolOp op (b :: rest) pos) (fun _ _ _ => False) := ⟨fun _ _ _ _ _ _ _ z => z.elim⟩
theorem tw_and (h : Tst X W ρ a p) (h2 : p = true → Tws X W ρ (.BoolOp .And (b :: rest) pos) q) : Tws X W ρ (.BoolOp .And (a :: b :: rest) pos) (p && q) := ⟨fun wh pins s σ F H M Q I ok z => by
  cases p with
  | false => exact (pw_and h.pt pw_none).run wh pins s σ H Q I ⟨F, M, ok, fun F' H' x => iteF (z F' H' x)⟩
  | true => exact (pw_and h.pt (h2 rfl).pw).run wh pins s σ H Q I ⟨F, M, ok, fun F' H' x => iteT ⟨F', M, ok.ext x, fun F2 H2 x2 => z F2 H2 (x.trans x2)⟩⟩⟩
theorem tw_or (h : Tst X W ρ a p) (h2 : p = false → Tws X W ρ (.BoolOp .Or (b :: rest) pos) q) : Tws X W ρ (.BoolOp .Or (a :: b :: rest) pos) (p || q) := ⟨fun wh pins s σ F H M Q I ok z => by
  cases p with
  | true => exact (pw_or h.pt pw_none).run wh pins s σ H Q I ⟨F, M, ok, fun F' H' x => iteT (z F' H' x)⟩
  | false => exact (pw_or h.pt (h2 rfl).pw).run wh pins s σ H Q I ⟨F, M, ok, fun F' H' x => iteF ⟨F', M, ok.ext x, fun F2 H2 x2 => z F2 H2 (x.trans x2)⟩⟩⟩
theorem tst_not (h : Tst X W ρ a p) : Tst X W ρ (.UnaryOp .Not a pos) (!p) := tst_of (pt_not h.pt) fun σ F H M Q ok z => ⟨F, M, ok, z⟩
/-! .. as values -/
theorem ev_bo1 {op : BoolOp} {d : PyData} (h : Ev X W ρ a d) : Ev X W ρ (.BoolOp op [a] pos) d := ev1_of (pe_one h.pe) fun σ F H M Q ok z => rd ok z
theorem pe_none {b : Expr} {rest : List Expr} {op : BoolOp} : PE X (.BoolOp op (b :: rest) pos) (fun _ _ _ => False) := ⟨fun _ _ _ _ _ _ z => z.elim⟩
theorem ev_and (h : Ev X W ρ a (.bool p)) (h2 : p = true → Ev X W ρ (.BoolOp .And (b :: rest) pos) (.bool q)) : Ev X W ρ (.BoolOp .And (a :: b :: rest) pos) (.bool (p && q)) := by
  cases p with
  | false => exact ev1_of (pe_and h.pe pe_none) fun σ F H M Q ok z => rd ok fun v F1 H1 e1 dv => ⟨false, dq_bl dv, iteF (z _ F1 H1 e1 (.bl _))⟩
  | true => exact ev1_of (pe_and h.pe (h2 rfl).pe) fun σ F H M Q ok z => rd ok fun v F1 H1 e1 dv => ⟨true, dq_bl dv, iteT (rd (ok.ext e1) fun w F2 H2 e2 dw => z _ F2 H2 (e1.trans e2) dw)⟩
theorem ev_or (h : Ev X W ρ a (.bool p)) (h2 : p = false → Ev X W ρ (.BoolOp .Or (b :: rest) pos) (.bool q)) : Ev X W ρ (.BoolOp .Or (a :: b :: rest) pos) (.bool (p || q)) := by
  cases p with
  | true => exact ev1_of (pe_or h.pe pe_none) fun σ F H M Q ok z => rd ok fun v F1 H1 e1 dv => ⟨true, dq_bl dv, iteT (z _ F1 H1 e1 (.bl _))⟩
  | false => exact ev1_of (pe_or h.pe (h2 rfl).pe) fun σ F H M Q ok z => rd ok fun v F1 H1 e1 dv => ⟨false, dq_bl dv, iteF (rd (ok.ext e1) fun w F2 H2 e2 dw => z _ F2 H2 (e1.trans e2) dw)⟩
theorem ev_not (h : Ev X W ρ a (.bool p)) : Ev X W ρ (.UnaryOp .Not a pos) (.bool (!p)) := ev1_of (pe_not h.pe) fun σ F H M Q ok z => rd ok fun v F1 H1 e1 dv => ⟨p, dq_bl dv, z _ F1 H1 e1 (.bl _)⟩
/-- a if t else b -/
theorem ev_if {t : Expr} {d : PyData} (h : Tst X W ρ t p) (ha : p = true → Ev X W ρ a d) (hb : p = false → Ev X W ρ b d) : Ev X W ρ (.IfExp t a b pos) d := by
  cases p with
  | true => exact ev1_of (pe_ifExp (tb := fun _ _ _ => False) h.pt (ha rfl).pe ⟨fun _ _ _ _ _ _ z => z.elim⟩) fun σ F H M Q ok z => ⟨F, M, ok, fun F' H' x => iteT (rd (ok.ext x) fun v F1 H1 e1 dv => z v F1 H1 (x.trans e1) dv)⟩
  | false => exact ev1_of (pe_ifExp (ta := fun _ _ _ => False) h.pt ⟨fun _ _ _ _ _ _ z => z.elim⟩ (hb rfl).pe) fun σ F H M Q ok z => ⟨F, M, ok, fun F' H' x => iteF (rd (ok.ext x) fun v F1 H1 e1 dv => z v F1 H1 (x.trans e1) dv)⟩
end
end PV

/-! The pure-value layer: targets, loops, comprehensions, calls. -/
namespace PV
open PySem PySem.Spec PyProof.Rows L2

/-! ### targets -/
/-- the names with these numbers get these data -/
def setAll : Env → List Nat → List PyData → Env
  | ρ, i :: is, d :: ds => setAll (ρ.set i (some (fz d))) is ds
  | ρ, _, _ => ρ
def setAllV : St → List Nat → List V → St
  | σ, i :: is, v :: vs => setAllV (σ.set i (some v)) is vs
  | σ, _, _ => σ
/-- what a target takes of an item: itself, or the items of the tuple that it is -/
def tgItems : Bool → PyData → List PyData
  | false, d => [d]
  | true, .tuple ds => ds
  | true, _ => []
def tgFit (t : Bool) (is : List Nat) (d : PyData) : Prop := (t = true → ∃ ds, d = .tuple ds) ∧ (tgItems t d).length = is.length
/-- a target of the names with the numbers is -/
def gNames : List Nat → TGs
  | [] => gNil
  | i :: is => gCons (gName i) (gNames is)
def gOf (K : PySem.W.Frag) : Bool → List Nat → TG
  | true, is => gTup K is.length (gNames is)
  | false, i :: _ => gName i
  | false, [] => fun _ _ _ _ => False
def TgOk (X : Cx) (tg : Expr) (t : Bool) (is : List Nat) : Prop := PG X tg (gOf X.K t is)
def TgsOk (X : Cx) (ts : List Expr) (is : List Nat) : Prop := PGs X ts (gNames is)
theorem gNames_ok : ∀ (is : List Nat) (vs : List V) (σ : St) (H : Hp) (Q : St → Hp → Prop), vs.length = is.length → Q (setAllV σ is vs) H → gNames is vs σ H Q
  | [], [], σ, H, Q, _, q => ⟨rfl, q⟩
  | i :: is, v :: vs, σ, H, Q, hl, q => ⟨v, vs, rfl, gNames_ok is vs _ H Q (by simpa using hl) q⟩
theorem gOf_ok {K : PySem.W.Frag} {t : Bool} {is : List Nat} {v : V} {d : PyData} {σ : St} {F H : Hp} {Q : St → Hp → Prop} (s : Same F H) (h : Dq K F v d) (f : tgFit t is d) (z : ∀ vs, DqAll K F vs (tgItems t d) → Q (setAllV σ is vs) H) : gOf K t is v σ H Q := by
  obtain ⟨f1, f2⟩ := f
  cases t with
  | true =>
    obtain ⟨ds, rfl⟩ := f1 rfl
    obtain ⟨p, vs, rfl, h1, h2⟩ := dq_tup h
    have hl : vs.length = is.length := (DqAll_len h2).trans f2
    exact ⟨p, vs, rfl, same_seqT s h1, hl, gNames_ok is vs σ H Q hl (z vs h2)⟩
  | false =>
    match is, f2 with
    | [i], _ => exact z [v] (.cons h .nil)
section
variable {K : PySem.W.Frag} {B F0 F F' H H' : Hp} {M : Nat → Mini}
theorem PInv.setAll : ∀ {is : List Nat} {ds : List PyData} {vs : List V} {ρ : Env} {σ : St} {M : Nat → Mini}, PInv K B F0 ρ F σ H M → DqAll K F vs ds → ∃ M', PInv K B F0 (PV.setAll ρ is ds) F (setAllV σ is vs) H M'
  | [], _, _, _, _, M, x, _ => ⟨M, by
    cases ‹DqAll K F _ _› <;> exact x⟩
  | i :: is, [], _, _, _, M, x, .nil => ⟨M, x⟩
  | i :: is, d :: ds, v :: vs, _, _, M, x, .cons h t => by
    have y := PInv.setAll (is := is) (PInv.setF (i := i) x h) t
    exact y
theorem EOk.setF {i : Nat} {d : PyData} {v : V} {ρ : Env} {σ : St} (x : EOk K ρ F σ H M) (hd : Dq K F v d) : EOk K (ρ.set i (some (fz d))) F (σ.set i (some v)) H (upM M i []) :=
  (PInv.setF (K := K) (B := fun _ => none) (F0 := fun _ => none) ⟨x, (fun _ _ h => nomatch h), (fun _ _ h => nomatch h), (fun _ _ _ _ => rfl), (fun _ _ _ _ => rfl)⟩ hd).ok
theorem EOk.setAll {is : List Nat} {ds : List PyData} {vs : List V} {ρ : Env} {σ : St} (x : EOk K ρ F σ H M) (hd : DqAll K F vs ds) : ∃ M', EOk K (PV.setAll ρ is ds) F (setAllV σ is vs) H M' := by
  obtain ⟨M', y⟩ := PInv.setAll (K := K) (B := fun _ => none) (F0 := fun _ => none) (is := is) ⟨x, (fun _ _ h => nomatch h), (fun _ _ h => nomatch h), (fun _ _ _ _ => rfl), (fun _ _ _ _ => rfl)⟩ hd
  exact ⟨M', y.ok⟩
end
section
variable {X : Cx} {pos : Pos}
theorem tg_name (i : Nat) {x : Str} (nd : X.N.Nodup) (hi : X.N[i]? = some x := by rfl) (hx : Loc X.env.scope x := by first | exact Or.inl rfl | exact Or.inr rfl) (hf : X.fn x = true ∨ X.env.scope.names.lookup x = some .local := by first | exact .inl rfl | exact .inr rfl) : TgOk X (.Name x pos) false [i] :=
  pg_name nd hi hx hf
theorem tgs_nil : TgsOk X [] [] := pgs_nil
theorem tgs_cons (i : Nat) {x : Str} {ts : List Expr} {is : List Nat} (nd : X.N.Nodup) (ht : TgsOk X ts is) (hi : X.N[i]? = some x := by rfl) (hx : Loc X.env.scope x := by first | exact Or.inl rfl | exact Or.inr rfl) (hf : X.fn x = true ∨ X.env.scope.names.lookup x = some .local := by first | exact .inl rfl | exact .inr rfl)
    (hs : (assignEach (.Name x pos :: ts) X.env).map (·.2) = assign (.Name x pos) X.env :: (assignEach ts X.env).map (·.2) := by rfl) : TgsOk X (.Name x pos :: ts) (i :: is) := pgs_cons (pg_name nd hi hx hf) ht hs
theorem tg_tup {ts : List Expr} {is : List Nat} {kk : Nat} (hc : X.calm = true) (ht : TgsOk X ts is) (hn : (assignEach ts X.env).length = is.length := by rfl) (hst : (assignEach ts X.env).findIdx? (·.1) = none := by rfl) : TgOk X (.Tuple ts kk pos) true is := pg_tup hc ht hn hst
end

/-! ### what is walked -/
/-- the walk J gives the data ds, one by one, whatever is frozen besides -/
structure Walks (K : PySem.W.Frag) (J : It) (F : Hp) (ds : List PyData) : Prop where
  go : ∀ (i : Nat) (F1 H1 : Hp), Same F F1 → Same F1 H1 → i < ds.length → J.go i H1
  yld : ∀ (i : Nat) (F1 H1 : Hp) (x : V) (H2 : Hp), Same F F1 → Same F1 H1 → i < ds.length → J.yld i H1 x H2 → ∃ F2 d, Ext F1 H1 F2 H2 ∧ ds[i]? = some d ∧ Dq K F2 x d
  stop : ∀ (F1 H1 : Hp), Same F F1 → Same F1 H1 → J.stop ds.length H1
/-- iter walks ds -/
def Iv (X : Cx) (W : Wc) (ρ : Env) (tg iter : Expr) (ds : List PyData) : Prop :=
  ∃ wi : TI, PI X tg iter wi ∧ ∀ (σ : St) (F H : Hp) (M : Nat → Mini) (R : It → Hp → Prop), EOk X.K ρ F σ H M → (∀ J F' H', Ext F H F' H' → Walks X.K J F' ds → R J H') → wi σ H R
section
variable {X : Cx} {W : Wc} {ρ : Env} {tg a b : Expr} {pos p : Pos}
theorem walks_list {K : PySem.W.Frag} {F : Hp} {a : Addr} {vs : List V} {ds : List PyData} (h : SqL K F a vs) (q : DqAll K F vs ds) : Walks K (Itl K a) F ds where
  go := fun i F1 H1 s1 s2 hi => by
    obtain ⟨v, hv, _⟩ := DqAll_get q (List.getElem?_eq_getElem hi)
    exact ⟨vs, v, s2.seq (s1.seq h), hv⟩
  yld := fun i F1 H1 x H2 s1 s2 hi y => by
    obtain ⟨rfl, y⟩ := y
    obtain ⟨d, h1, h2⟩ := DqAll_getV q (y vs (s2.seq (s1.seq h)))
    exact ⟨F1, d, .refl s2, h1, dq_mono s1 _ _ h2⟩
  stop := fun F1 H1 s1 s2 => ⟨vs, s2.seq (s1.seq h), Nat.le_of_eq (DqAll_len q)⟩
/-- a list that stands frozen -/
theorem iv_list {ds : List PyData} (ha : Ev X W ρ a (.list ds)) : Iv X W ρ tg a ds := ⟨_, pi_list ha.pe, fun σ F H M R ok h => rd ok fun v F1 H1 e1 dv => by
  obtain ⟨p, vs, rfl, h1, h2⟩ := dq_lst dv
  exact ⟨p, rfl, ⟨vs, .inl (same_rd e1.sub h1)⟩, h _ F1 H1 e1 (walks_list (.inl h1) h2)⟩⟩
/-- a name that is known -/
theorem iv_kn (i : Nat) {x : Str} {ds : List PyData} (hd : ρ[i]? = some (some (kn ds))) (hN : X.N[i]? = some x := by rfl) (hv : Vis X.env.scope x := by first | exact Or.inl rfl | exact Or.inr (Or.inl rfl) | exact Or.inr (Or.inr rfl))
    (h1 : (x == ("__debug__" : Str)) = false := by decide) (h2 : (x == ("__classdict__" : Str)) = false := by decide) : Iv X W ρ tg (.Name x pos) ds :=
  ⟨_, pi_list (pe_var hN hv h1 h2), fun σ F H M R ok h => by
    obtain ⟨v, e, _, a, vs, rfl, q1, q2⟩ := ok.at_ i _ hd
    exact ⟨_, e, a, rfl, ⟨vs, ok.sub.seq q1⟩, h _ F H (.refl ok.sub) (walks_list q1 q2)⟩⟩
theorem iv_tup {ds : List PyData} (ha : Ev X W ρ a (.tuple ds)) : Iv X W ρ tg a ds := ⟨_, pi_tup ha.pe, fun σ F H M R ok h => rd ok fun v F1 H1 e1 dv => by
  obtain ⟨p, vs, rfl, h1, h2⟩ := dq_tup dv
  refine ⟨p, rfl, ⟨vs, same_seqT e1.sub h1⟩, h _ F1 H1 e1 ⟨fun i F2 H2 s1 s2 hi => ?_, fun i F2 H2 x H3 s1 s2 hi y => ?_, fun F2 H2 s1 s2 => ?_⟩⟩
  · obtain ⟨v, hv, _⟩ := DqAll_get h2 (List.getElem?_eq_getElem hi)
    exact ⟨vs, v, same_seqT (s1.trans s2) h1, hv⟩
  · obtain ⟨rfl, y⟩ := y
    obtain ⟨d, q1, q2⟩ := DqAll_getV h2 (y vs (same_seqT (s1.trans s2) h1))
    exact ⟨F2, d, .refl s2, q1, dq_mono s1 _ _ q2⟩
  · exact ⟨vs, same_seqT (s1.trans s2) h1, Nat.le_of_eq (DqAll_len h2)⟩⟩
/-- the numbers from lo on, n of them -/
def nums (lo : Int) : Nat → List PyData
  | 0 => []
  | n + 1 => .int lo :: nums (lo + 1) n
theorem nums_length : ∀ (n : Nat) (lo : Int), (nums lo n).length = n
  | 0, _ => rfl
  | n + 1, lo => congrArg (· + 1) (nums_length n (lo + 1))
theorem nums_get : ∀ (n : Nat) (lo : Int) (i : Nat), i < n → (nums lo n)[i]? = some (.int (lo + i))
  | 0, _, _, h => by omega
  | n + 1, lo, 0, _ => by simp [nums]
  | n + 1, lo, i + 1, h => by
    show (nums (lo + 1) n)[i]? = _
    rw [nums_get n (lo + 1) i (by omega)]
    congr 2
    push_cast
    omega
theorem nums_eq : ∀ (n : Nat) (lo : Int), nums lo n = (List.range n).map fun (i : Nat) => PyData.int (lo + i) := by
  intro n lo
  apply List.ext_getElem?
  intro i
  by_cases h : i < n
  · rw [nums_get n lo i h]; simp [h]
  · rw [List.getElem?_eq_none (by rw [nums_length]; omega), List.getElem?_eq_none (by simp; omega)]
theorem walks_range {K : PySem.W.Frag} {F : Hp} {lo : Int} {n : Nat} : Walks K (Itr lo n) F (nums lo n) where
  go := fun i F1 H1 s1 s2 hi => by rw [nums_length] at hi; exact hi
  yld := fun i F1 H1 x H2 s1 s2 hi y => by
    rw [nums_length] at hi
    obtain ⟨rfl, rfl⟩ := y
    exact ⟨F1, _, .refl s2, nums_get n lo i hi, .int _⟩
  stop := fun F1 H1 s1 s2 => Nat.le_of_eq (nums_length n lo).symm
theorem iv_range1 {j : Int} (B : Blt X.mg) (ha : Ev X W ρ a (.int j)) (h1 : -(2 ^ 62) ≤ j) (h2 : j < 2 ^ 62) (hg : Gl X "range" := by rfl) (hs : starEach [a] X.env = [(false, eval a X.env)] := by rfl) : Iv X W ρ tg (.Call (.Name "range" p) [a] [] pos) (nums 0 j.toNat) :=
  ⟨_, pi_range1 hg B.range (pa_cons ha.pe pa_nil hs) hs, fun σ F H M R ok h => rd ok fun v F1 H1 e1 dv => ⟨j, by rw [dq_int dv], h1, h2, h _ F1 H1 e1 walks_range⟩⟩
theorem iv_range2 {i j : Int} (B : Blt X.mg) (ha : Ev X W ρ a (.int i)) (hb : Ev X W ρ b (.int j)) (h1 : -(2 ^ 62) ≤ i ∧ i < 2 ^ 62 ∧ -(2 ^ 62) ≤ j ∧ j < 2 ^ 62) (hg : Gl X "range" := by rfl)
    (hs : starEach [a, b] X.env = [(false, eval a X.env), (false, eval b X.env)] := by rfl) (hs2 : starEach [b] X.env = [(false, eval b X.env)] := by rfl) (hs3 : starEach [a, b] X.env = (false, eval a X.env) :: starEach [b] X.env := by rfl) : Iv X W ρ tg (.Call (.Name "range" p) [a, b] [] pos) (nums i (j - i).toNat) :=
  ⟨_, pi_range2 hg B.range (pa_cons ha.pe (pa_cons hb.pe pa_nil hs2) hs3) hs hs2, fun σ F H M R ok h => rd ok fun v F1 H1 e1 dv => rd (ok.ext e1) fun w F2 H2 e2 dw => ⟨i, j, by rw [dq_int dv, dq_int dw], h1, h _ F2 H2 (e1.trans e2) walks_range⟩⟩
/-- (0, x), (1, y), .. -/
def enums : Int → List PyData → List PyData
  | _, [] => []
  | i, d :: ds => .tuple [.int i, d] :: enums (i + 1) ds
theorem enums_length : ∀ (ds : List PyData) (i : Int), (enums i ds).length = ds.length
  | [], _ => rfl
  | d :: ds, i => congrArg (· + 1) (enums_length ds (i + 1))
theorem enums_get : ∀ (ds : List PyData) (i : Int) (j : Nat) (d : PyData), ds[j]? = some d → (enums i ds)[j]? = some (.tuple [.int (i + j), d])
  | [], _, _, _, h => by simp at h
  | d :: ds, i, 0, e, h => by simp at h; subst h; simp [enums]
  | d :: ds, i, j + 1, e, h => by
    show (enums (i + 1) ds)[j]? = _
    rw [enums_get ds (i + 1) j e (by simpa using h)]
    congr 4
    push_cast
    omega
theorem iv_enum {elts : List Expr} {kk : Nat} {tpos : Pos} {ds : List PyData} (B : Blt X.mg) (ha : Ev X W ρ a (.list ds)) (hg : Gl X "enumerate" := by rfl) (hs : starEach [a] X.env = [(false, eval a X.env)] := by rfl) : Iv X W ρ (.Tuple elts kk tpos) (.Call (.Name "enumerate" p) [a] [] pos) (enums 0 ds) :=
  ⟨_, pi_enum hg B.enumerate (pa_cons ha.pe pa_nil hs) hs, fun σ F H M R ok h => rd ok fun v F1 H1 e1 dv => by
    obtain ⟨p, vs, rfl, h1, h2⟩ := dq_lst dv
    refine ⟨p, vs, rfl, .inl (same_rd e1.sub h1), h _ F1 H1 e1 ⟨fun i F2 H2 s1 s2 hi => ?_, fun i F2 H2 x H3 s1 s2 hi y => ?_, fun F2 H2 s1 s2 => ?_⟩⟩
    · rw [enums_length] at hi
      obtain ⟨v, hv, _⟩ := DqAll_get h2 (List.getElem?_eq_getElem hi)
      exact ⟨vs, v, .inl (same_rd (s1.trans s2) h1), hv⟩
    · obtain ⟨T, y1, rfl, hT, rfl, hy⟩ := y
      obtain ⟨d, q1, q2⟩ := DqAll_getV h2 (hy vs (.inl (same_rd (s1.trans s2) h1)))
      have x := Ext.laid (o := .tup [.int (i : Nat), y1]) s2 hT
      refine ⟨_, _, x, enums_get ds 0 i d q1, .tup upd_same (.cons ?_ (.cons (dq_mono (s1.trans x.f) _ _ q2) .nil))⟩
      rw [Int.zero_add]
      exact .int _
    · exact ⟨vs, .inl (same_rd (s1.trans s2) h1), by rw [enums_length]; exact Nat.le_of_eq (DqAll_len h2)⟩⟩
/-- (x, y) of two lists -/
def zips : List PyData → List PyData → List PyData
  | d :: ds, e :: es => .tuple [d, e] :: zips ds es
  | _, _ => []
theorem zips_length : ∀ (ds es : List PyData), (zips ds es).length = min ds.length es.length
  | [], es => by simp [zips]
  | d :: ds, [] => by simp [zips]
  | d :: ds, e :: es => by simp [zips, zips_length ds es, Nat.succ_min_succ]
theorem zips_get : ∀ (ds es : List PyData) (j : Nat) (d e : PyData), ds[j]? = some d → es[j]? = some e → (zips ds es)[j]? = some (.tuple [d, e])
  | [], _, _, _, _, h, _ => by simp at h
  | d :: ds, [], _, _, _, _, h => by simp at h
  | d :: ds, e :: es, 0, x, y, h, h' => by simp at h h'; subst h h'; simp [zips]
  | d :: ds, e :: es, j + 1, x, y, h, h' => by
    show (zips ds es)[j]? = _
    exact zips_get ds es j x y (by simpa using h) (by simpa using h')
theorem iv_zip {elts : List Expr} {kk : Nat} {tpos : Pos} {ds es : List PyData} (B : Blt X.mg) (ha : Ev X W ρ a (.list ds)) (hb : Ev X W ρ b (.list es)) (hg : Gl X "zip" := by rfl) (hs : starEach [a, b] X.env = (false, eval a X.env) :: starEach [b] X.env := by rfl)
    (hs2 : starEach [b] X.env = (false, eval b X.env) :: starEach [] X.env := by rfl) (hpl : (backTo pos (starEach [b] X.env)).any (·.1) = false := by rfl) : Iv X W ρ (.Tuple elts kk tpos) (.Call (.Name "zip" p) [a, b] [] pos) (zips ds es) :=
  ⟨_, pi_zip hg B.zip (pa_cons ha.pe (pa_cons hb.pe pa_nil hs2) hs) hs hpl, fun σ F H M R ok h => rd ok fun v F1 H1 e1 dv => rd (ok.ext e1) fun w F2 H2 e2 dw => by
    obtain ⟨p, vs, rfl, h1, h2⟩ := dq_lst dv
    obtain ⟨q, ws, rfl, h3, h4⟩ := dq_lst dw
    have h1' := same_rd e2.f h1
    have h2' := dqAll_mono e2.f _ _ h2
    refine ⟨p, q, vs, ws, rfl, .inl (same_rd e2.sub h1'), .inl (same_rd e2.sub h3), h _ F2 H2 (e1.trans e2) ⟨fun i F3 H3 s1 s2 hi => ?_, fun i F3 H3 x H4 s1 s2 hi y => ?_, fun F3 H3 s1 s2 => ?_⟩⟩
    · rw [zips_length] at hi
      obtain ⟨v, hv, _⟩ := DqAll_get h2' (List.getElem?_eq_getElem (show i < ds.length by omega))
      obtain ⟨w, hw, _⟩ := DqAll_get h4 (List.getElem?_eq_getElem (show i < es.length by omega))
      exact ⟨vs, ws, v, w, .inl (same_rd (s1.trans s2) h1'), .inl (same_rd (s1.trans s2) h3), hv, hw⟩
    · obtain ⟨T, y1, y2, rfl, hT, rfl, hy1, hy2⟩ := y
      obtain ⟨d, q1, q2⟩ := DqAll_getV h2' (hy1 vs (.inl (same_rd (s1.trans s2) h1')))
      obtain ⟨e, q3, q4⟩ := DqAll_getV h4 (hy2 ws (.inl (same_rd (s1.trans s2) h3)))
      have x := Ext.laid (o := .tup [y1, y2]) s2 hT
      exact ⟨_, _, x, zips_get ds es i d e q1 q3, .tup upd_same (.cons (dq_mono (s1.trans x.f) _ _ q2) (.cons (dq_mono (s1.trans x.f) _ _ q4) .nil))⟩
    · refine ⟨vs, ws, .inl (same_rd (s1.trans s2) h1'), .inl (same_rd (s1.trans s2) h3), ?_⟩
      rw [zips_length, DqAll_len h2', DqAll_len h4]
      omega⟩
/-- the signs of a text -/
theorem iv_str {z : Str} (ha : Ev X W ρ a (.str z)) : Iv X W ρ tg a (z.cps.toList.map fun c => .str ⟨#[c]⟩) := ⟨_, pi_str ha.pe, fun σ F H M R ok h => rd ok fun v F1 H1 e1 dv =>
  ⟨z, dq_str dv, h _ F1 H1 e1 ⟨fun i F2 H2 s1 s2 hi => (by simpa using hi : i < z.cps.size), fun i F2 H2 x H3 s1 s2 hi y => by
    obtain ⟨rfl, c, hc, rfl⟩ := y
    refine ⟨F2, .str ⟨#[c]⟩, .refl s2, ?_, .str _⟩
    rw [List.getElem?_map, Array.getElem?_toList, hc]
    rfl, fun F2 H2 s1 s2 => by
    show z.cps.size ≤ _
    simp⟩⟩⟩

theorem PInv.based {K : PySem.W.Frag} {B F0 F H : Hp} {ρ : Env} {σ : St} {M : Nat → Mini} (x : PInv K B F0 ρ F σ H M) : PInv K B F ρ F σ H M :=
  ⟨x.ok, x.base, .refl _, (fun a o h1 h2 => by rw [h1] at h2; cases h2), x.mb⟩
theorem PInv.rebase {K : PySem.W.Frag} {B F0 F H F' H' : Hp} {ρ ρ' : Env} {σ σ' : St} {M M' : Nat → Mini} (x : PInv K B F0 ρ F σ H M) (y : PInv K B F ρ' F' σ' H' M') : PInv K B F0 ρ' F' σ' H' M' :=
  .mk (mb := y.mb) y.ok y.base (x.f0.trans y.f0) fun a o h1 h2 => by
    cases e : F a with
    | none => exact y.nb a o h1 e
    | some u => exact x.nb a u e h2

/-! ### for -/
/-- what a turn is to reach -/
def turnS (P : Env → Prop) (X : Cx) (W : Wc) (rest : List Stmt) (Φ : Out → Prop) : Out → Prop
  | .next ρ => ∃ ρ', Wk ρ ρ' ∧ P ρ'
  | .cont ρ => ∃ ρ', Wk ρ ρ' ∧ P ρ'
  | .brk ρ => Sxs X W rest ρ Φ
  | o => Φ o
theorem sxs_for {C : Ec → Addr} {k : Nat} {t : Bool} {is : List Nat} {ds : List PyData} {body rest : List Stmt} {Φ : Out → Prop} (c : Ctx X C W k) (P : Nat → Env → Prop) (hi : Iv X W ρ tg a ds) (hg : TgOk X tg t is) (h0 : P 0 ρ)
    (step : ∀ i d ρ, ds[i]? = some d → P i ρ → tgFit t is d ∧ Sxs X W body (setAll ρ is (tgItems t d)) (turnS (P (i + 1)) X W rest Φ))
    (done : ∀ ρ, P ds.length ρ → Sxs X W rest ρ Φ) (hs : ∀ x, foldedSetIterable a X.env x = pure x := by intro _; rfl) : Sxs X W (.For tg a body [] pos :: rest) ρ Φ := by
  obtain ⟨wi, hwi, qi⟩ := hi
  refine sxs_of (ps_for c.po c.calm hwi hg (pss_Sxs X W body) hs) fun σ F H M B F0 D ok q => ?_
  refine qi σ F H M _ ok.ok fun J F1 H1 x1 wk => ?_
  refine ⟨fun i m σ H => m = ds.length - i ∧ i ≤ ds.length ∧ ∃ ρ F M, P i ρ ∧ PInv X.K B F0 ρ F σ H M ∧ Same F1 F, ⟨_, rfl, Nat.zero_le _, ρ, F1, M, h0, ok.ext x1, .refl _⟩, ?_⟩
  rintro i m σ2 H2 ⟨rfl, hle, ρ2, F2, M2, p2, ok2, s2⟩
  by_cases hlt : i < ds.length
  · refine .inr ⟨wk.go i F2 H2 s2 ok2.ok.sub hlt, fun σ' H' => i + 1 ≤ ds.length ∧ ∃ ρ F M, P (i + 1) ρ ∧ PInv X.K B F0 ρ F σ' H' M ∧ Same F1 F, fun σ' H' ⟨a1, a2⟩ => ⟨ds.length - (i + 1), by omega, rfl, a1, a2⟩, fun x H3 y => ?_⟩
    obtain ⟨F3, d, x3, hd, dv⟩ := wk.yld i F2 H2 x H3 s2 ok2.ok.sub hlt y
    obtain ⟨fit, body⟩ := step i d ρ2 hd p2
    refine gOf_ok x3.sub dv fit fun vs dvs => ?_
    obtain ⟨M4, ok4⟩ := PInv.setAll (is := is) (ok2.ext x3) dvs
    refine ⟨_, _, F3, M4, B, F3, body, ok4.based, fun o ho => ?_⟩
    have again : ∀ ρ', (∃ ρ'', Wk ρ' ρ'' ∧ P (i + 1) ρ'') → ∀ F σ H M, PInv X.K B F3 ρ' F σ H M → i + 1 ≤ ds.length ∧ ∃ ρ F M, P (i + 1) ρ ∧ PInv X.K B F0 ρ F σ H M ∧ Same F1 F := fun ρ' ⟨ρ'', w, p⟩ F σ H M ok5 =>
      ⟨hlt, ρ'', F, M, p, (ok4.rebase ok5).weak w, (s2.trans x3.f).trans ok5.f0⟩
    cases o with
    | next ρ' => exact again ρ' ho
    | cont ρ' => exact again ρ' ho
    | brk ρ' => exact fun F σ H M ok5 => ⟨ρ', Φ, F, M, B, F0, ho, ok4.rebase ok5, q⟩
    | ret S ρ' => exact fun v F σ H M ok5 => q _ ho v F σ H M (ok4.rebase ok5)
    | raise c ρ' => exact fun F σ H M ok5 => q _ ho F σ H M (ok4.rebase ok5)
  · have e : i = ds.length := by omega
    subst e
    exact .inl ⟨wk.stop F2 H2 s2 ok2.ok.sub, ⟨ρ2, Φ, F2, M2, B, F0, done ρ2 p2, ok2, q⟩⟩
end
end PV

/-! The pure-value layer: while, lists that change, comprehensions, defs and their calls. -/
namespace PV
open PySem PySem.Spec PyProof.Rows L2
section
variable {X : Cx} {W : Wc} {ρ : Env} {e a b : Expr} {es : List Expr} {pos p : Pos} {C : Ec → Addr} {k : Nat} {rest : List Stmt} {Φ : Out → Prop}

/-! ### while -/
def tTsts (X : Cx) (W : Wc) (e : Expr) : TT := fun σ H Q => ∃ ρ b F M, Tst X W ρ e b ∧ EOk X.K ρ F σ H M ∧ (∀ F' H', Ext F H F' H' → Q b H')
theorem pt_tsts : PT X e (tTsts X W e) := ⟨fun pins s σ H Q I ⟨ρ, b, F, M, h, ok, q⟩ => h pins s σ F H M Q I ok q⟩
theorem sxs_while {body : List Stmt} (c : Ctx X C W k) (P : Nat → Env → Prop) {m0 : Nat} (h0 : P m0 ρ)
    (step : ∀ m ρ, P m ρ → ∃ b, Tst X W ρ e b ∧ (b = true → Sxs X W body ρ (turnS (fun ρ' => ∃ m', m' < m ∧ P m' ρ') X W rest Φ)) ∧ (b = false → Sxs X W rest ρ Φ)) : Sxs X W (.While e body [] pos :: rest) ρ Φ := by
  refine sxs_of (ps_while c.po (pt_tsts (W := W)) (pss_Sxs X W body)) fun σ F H M B F0 D ok q => ?_
  refine ⟨fun m σ H => ∃ ρ F M, P m ρ ∧ PInv X.K B F0 ρ F σ H M, ⟨m0, ρ, F, M, h0, ok⟩, ?_⟩
  rintro m σ2 H2 ⟨ρ2, F2, M2, p2, ok2⟩
  obtain ⟨b, hb, h1, h2⟩ := step m ρ2 p2
  refine ⟨ρ2, b, F2, M2, hb, ok2.ok, fun F' H' x => ?_⟩
  have ok3 := ok2.ext x
  cases b with
  | false => exact iteF ⟨ρ2, Φ, F', M2, B, F0, h2 rfl, ok3, q⟩
  | true =>
    refine iteT ⟨fun σ' H' => ∃ m', m' < m ∧ ∃ ρ F M, P m' ρ ∧ PInv X.K B F0 ρ F σ' H' M, fun σ' H' h => h, ρ2, _, F', M2, B, F0, h1 rfl, ok3, fun o ho => ?_⟩
    have again : ∀ ρ', (∃ ρ'', Wk ρ' ρ'' ∧ ∃ m', m' < m ∧ P m' ρ'') → ∀ F σ H M, PInv X.K B F0 ρ' F σ H M → ∃ m', m' < m ∧ ∃ ρ F M, P m' ρ ∧ PInv X.K B F0 ρ F σ H M := fun ρ' ⟨ρ'', w, m', hm, p⟩ F σ H M ok5 => ⟨m', hm, ρ'', F, M, p, ok5.weak w⟩
    cases o with
    | next ρ' => exact again ρ' ho
    | cont ρ' => exact again ρ' ho
    | brk ρ' => exact fun F σ H M ok5 => ⟨ρ', Φ, F, M, B, F0, ho, ok5, q⟩
    | ret S ρ' => exact q _ ho
    | raise c ρ' => exact q _ ho

/-! ### lists that change -/
theorem ty_lst {K : PySem.W.Frag} {H : Hp} {l : Addr} {xs : List V} (h : H l = some (.lst xs)) : tyV K "list" (.ref l) H := .inl ⟨rfl, _, SqL.of h⟩
/-- x.append(e), x a name that owns its list -/
theorem sxs_append (i : Nat) {x : Str} {px pa : Pos} {pq : Option Addr} {ds : List PyData} {d : PyData} (hd : ρ[i]? = some (some (ow pq ds))) (he : Ev X W ρ e d) (c : ds.length < sizeLine) (k : Sxs X W rest (ρ.set i (some (ow pq (ds ++ [d])))) Φ)
    (hp : ∀ t, PE X e t → PE X (.Call (.Attribute (.Name x px) "append" pa) [e] [] p) (tBM X.K "list" rAppend (tVar i) (tCons t tNil)) := by exact fun t h => pe_bm PySem.F.plainAttrs_list PySem.F.slot_list_append PySem.F.type_list_append mt_append (pv _) (pa_cons h pa_nil))
    (hs : swapsWith (.Call (.Attribute (.Name x px) "append" pa) [e] [] p) none pos.line X.env = pure false := by rfl) : Sxs X W (.Expr (.Call (.Attribute (.Name x px) "append" pa) [e] [] p) pos :: rest) ρ Φ :=
  sxs_of (ps_expr (hp _ he.pe) hs) fun σ F H M B F0 D ok q => by
    obtain ⟨v, hσ, a, vs, rfl, hM, hpq, dvs⟩ := ok.ok.at_ i _ hd
    have hH : H a = some (.lst vs) := (ok.ok.own i a _ (by rw [hM]; exact List.mem_cons_self)).1
    refine ⟨.ref a, hσ, ty_lst hH, rd ok.ok fun w F1 H1 e1 dw => ?_⟩
    have ok1 := ok.ext e1
    exact ⟨a, vs, w, rfl, rfl, e1.h a _ hH, by rw [DqAll_len dvs]; exact c, _, Φ, F1, _, B, F0, k, ok1.mut hd hσ hpq hM (DqAll_app (dqAll_mono e1.f _ _ dvs) (.cons dw .nil)), q⟩
/-- x[j] = e -/
theorem sxs_setItem (i : Nat) {x : Str} {px pb : Pos} {pq : Option Addr} {ds : List PyData} {d : PyData} {j : Int} {n : Nat} (hd : ρ[i]? = some (some (ow pq ds))) (he : Ev X W ρ e d) (hb : Ev X W ρ b (.int j)) (hj : ixN ds.length j = some n) (k : Sxs X W rest (ρ.set i (some (ow pq (ds.set n d)))) Φ)
    (hp : ∀ t u, PE X e t → PE X b u → PS X (.Assign [.Subscript (.Name x px) b pb] e pos) (tAsg t (gSub (tVar i) u rSetL)) := by exact fun t u h h' => ps_asg h (pg_sub (pv _) h' set_list)) :
    Sxs X W (.Assign [.Subscript (.Name x px) b pb] e pos :: rest) ρ Φ :=
  sxs_of (hp _ _ he.pe hb.pe) fun σ F H M B F0 D ok q => by
    obtain ⟨v, hσ, a, vs, rfl, hM, hpq, dvs⟩ := ok.ok.at_ i _ hd
    have hH : H a = some (.lst vs) := (ok.ok.own i a _ (by rw [hM]; exact List.mem_cons_self)).1
    refine rd ok.ok fun w F1 H1 e1 dw => ⟨.ref a, hσ, rd (ok.ok.ext e1) fun y F2 H2 e2 dy => ?_⟩
    have ok2 := ok.ext (e1.trans e2)
    exact ⟨a, vs, j, n, rfl, dq_int dy, (e1.trans e2).h a _ hH, by rw [DqAll_len dvs]; exact hj, _, Φ, F2, _, B, F0, k, ok2.mut hd hσ hpq hM (DqAll_set n (dqAll_mono (e1.trans e2).f _ _ dvs) (dq_mono e2.f _ _ dw)), q⟩
/-- x.clear() -/
theorem sxs_clear (i : Nat) {x : Str} {px pa : Pos} {pq : Option Addr} {ds : List PyData} (hd : ρ[i]? = some (some (ow pq ds))) (k : Sxs X W rest (ρ.set i (some (ow pq []))) Φ)
    (hp : PE X (.Call (.Attribute (.Name x px) "clear" pa) [] [] p) (tBM0 X.K "list" rClear (tVar i)) := by exact pe_bm0 PySem.F.plainAttrs_list PySem.F.slot_list_clear PySem.F.type_list_clear mt_clear (pv _))
    (hs : swapsWith (.Call (.Attribute (.Name x px) "clear" pa) [] [] p) none pos.line X.env = pure false := by rfl) : Sxs X W (.Expr (.Call (.Attribute (.Name x px) "clear" pa) [] [] p) pos :: rest) ρ Φ :=
  sxs_of (ps_expr hp hs) fun σ F H M B F0 D ok q => by
    obtain ⟨v, hσ, a, vs, rfl, hM, hpq, dvs⟩ := ok.ok.at_ i _ hd
    have hH : H a = some (.lst vs) := (ok.ok.own i a _ (by rw [hM]; exact List.mem_cons_self)).1
    exact ⟨.ref a, hσ, ty_lst hH, a, vs, rfl, rfl, hH, _, Φ, F, _, B, F0, k, ok.mut hd hσ hpq hM .nil, q⟩

/-! ### built-ins over a list -/
theorem dqAll_ints {K : PySem.W.Frag} {F : Hp} : ∀ {ns : List Int} {vs : List V}, DqAll K F vs (ns.map PyData.int) → vs = ns.map V.int
  | [], _, h => by cases h; rfl
  | n :: ns, _, h => by
    cases h with
    | cons h t => rw [dq_int h, dqAll_ints t]; rfl
theorem dqAll_bls {K : PySem.W.Frag} {F : Hp} : ∀ {ns : List Bool} {vs : List V}, DqAll K F vs (ns.map PyData.bool) → vs = ns.map V.bl
  | [], _, h => by cases h; rfl
  | n :: ns, _, h => by
    cases h with
    | cons h t => rw [dq_bl h, dqAll_bls t]; rfl
theorem dqAll_strs {K : PySem.W.Frag} {F : Hp} : ∀ {ns : List Str} {vs : List V}, DqAll K F vs (ns.map PyData.str) → vs = ns.map V.str
  | [], _, h => by cases h; rfl
  | n :: ns, _, h => by
    cases h with
    | cons h t => rw [dq_str h, dqAll_strs t]; rfl
theorem strs_dqAll {K : PySem.W.Frag} {F : Hp} : ∀ (ns : List Str), DqAll K F (ns.map V.str) (ns.map PyData.str)
  | [] => .nil
  | n :: ns => .cons (.str n) (strs_dqAll ns)
theorem ints_dqAll {K : PySem.W.Frag} {F : Hp} : ∀ (ns : List Int), DqAll K F (ns.map V.int) (ns.map PyData.int)
  | [] => .nil
  | n :: ns => .cons (.int n) (ints_dqAll ns)
section
variable (c : Ctx X C W k) (B : Blt X.mg)
include c B
theorem ev_sum {ns : List Int} (ha : Bw X W ρ a (ns.map PyData.int)) (hg : Gl X "sum" := by rfl) (he : starEach (a :: []) X.env = (false, eval a X.env) :: starEach [] X.env := by rfl) : Ev X W ρ (.Call (.Name "sum" p) [a] [] pos) (.int ns.sum) :=
  ev1_of (pe_callB (cr_sum c.calm) hg B.sum (by decide +kernel) (pa_cons ha.pe pa_nil he) (he := he)) fun σ F H M Q ok h => ⟨F, M, ok, fun x F1 H1 e1 ⟨p, vs, ex, h1, h2⟩ => by
    subst ex
    rw [dqAll_ints h2] at h1
    exact ⟨p, ns, rfl, h1, h _ F1 H1 e1 (.int _)⟩⟩
theorem ev_any {ns : List Bool} (ha : Bw X W ρ a (ns.map PyData.bool)) (hg : Gl X "any" := by rfl) (he : starEach (a :: []) X.env = (false, eval a X.env) :: starEach [] X.env := by rfl) : Ev X W ρ (.Call (.Name "any" p) [a] [] pos) (.bool (ns.any id)) :=
  ev1_of (pe_callB (cr_any c.calm) hg B.any (by decide +kernel) (pa_cons ha.pe pa_nil he) (he := he)) fun σ F H M Q ok h => ⟨F, M, ok, fun x F1 H1 e1 ⟨p, vs, ex, h1, h2⟩ => by
    subst ex
    rw [dqAll_bls h2] at h1
    exact ⟨p, ns, rfl, h1, h _ F1 H1 e1 (.bl _)⟩⟩
theorem ev_all {ns : List Bool} (ha : Bw X W ρ a (ns.map PyData.bool)) (hg : Gl X "all" := by rfl) (he : starEach (a :: []) X.env = (false, eval a X.env) :: starEach [] X.env := by rfl) : Ev X W ρ (.Call (.Name "all" p) [a] [] pos) (.bool (ns.all id)) :=
  ev1_of (pe_callB (cr_all c.calm) hg B.all (by decide +kernel) (pa_cons ha.pe pa_nil he) (he := he)) fun σ F H M Q ok h => ⟨F, M, ok, fun x F1 H1 e1 ⟨p, vs, ex, h1, h2⟩ => by
    subst ex
    rw [dqAll_bls h2] at h1
    exact ⟨p, ns, rfl, h1, h _ F1 H1 e1 (.bl _)⟩⟩
/-- the greatest of a list -/
theorem ev_maxL {ns : List Int} {m : Int} (ha : Bw X W ρ a (ns.map PyData.int)) (h0 : 0 < ns.length) (hm : ∀ m', m' ∈ ns → (∀ y, y ∈ ns → y ≤ m') → m' = m) (hg : Gl X "max" := by rfl) (he : starEach (a :: []) X.env = (false, eval a X.env) :: starEach [] X.env := by rfl) : Ev X W ρ (.Call (.Name "max" p) [a] [] pos) (.int m) :=
  ev1_of (pe_callB (cr_max c.calm) hg B.max (by decide +kernel) (pa_cons ha.pe pa_nil he) (he := he)) fun σ F H M Q ok h => ⟨F, M, ok, fun x F1 H1 e1 ⟨p, vs, ex, h1, h2⟩ => by
    subst ex
    rw [dqAll_ints h2] at h1
    exact ⟨p, ns, rfl, h1, h0, fun m' i1 i2 => by rw [hm m' i1 i2]; exact h _ F1 H1 e1 (.int _)⟩⟩
end

/-! ### isinstance of a built-in class -/
/-- the name of a datum's class -/
def clsOf : PyData → String
  | .none => "NoneType"
  | .bool _ => "bool"
  | .int _ => "int"
  | .str _ => "str"
  | .list _ => "list"
  | .tuple _ => "tuple"
  | .dict _ => "dict"
def isDictD : PyData → Bool
  | .dict _ => true
  | _ => false
theorem tyx_of {K : PySem.W.Frag} {H : Hp} {v : V} {d : PyData} (h : Dq K H v d) (hn : d ≠ .none) (hd : isDictD d = false) : TyX K H v (.type (clsOf d)) := by
  cases h with
  | non => exact absurd rfl hn
  | bl b => exact .base (.bl b)
  | int i => exact .base (.int i)
  | str x => exact .base (.str x)
  | lst h1 _ =>
    rcases h1 with h1 | ⟨o, h1⟩
    · exact .base (.lst h1)
    · exact .base (.frz h1)
  | tup h1 _ => exact .base (.tup h1)
  | dct _ _ => cases hd
theorem tyx_non {K : PySem.W.Frag} {H : Hp} : TyX K H .non (.type "NoneType") := .base .non
theorem ev_isi {T : Str} {T0 : String} {p2 : Pos} {d : PyData} {r : Bool} (B : Blt X.mg) (ha : Ev X W ρ a d) (hT : bootBuiltins T = some (.type T0)) (hmT : X.mg T = none) (hk : kitB (clsOf d) T0 = some r) (hgT : Gl X T := by rfl) (hg : Gl X "isinstance" := by rfl)
    (he : starEach (a :: [.Name T p2]) X.env = (false, eval a X.env) :: starEach [.Name T p2] X.env := by rfl) (he2 : starEach (.Name T p2 :: []) X.env = (false, eval (.Name T p2) X.env) :: starEach [] X.env := by rfl) (hpl : (backTo pos (starEach [.Name T p2] X.env)).any (·.1) = false := by rfl)
    (hn1 : T ≠ "__name__" := by decide) (hn2 : (T == ("__debug__" : Str)) = false := by decide) (hdct : isDictD d = false := by rfl) : Ev X W ρ (.Call (.Name "isinstance" p) [a, .Name T p2] [] pos) (.bool r) :=
  ev1_of (pe_callB call_isi hg B.isinstance (by decide +kernel) (pa_cons ha.pe (pa_cons (pe_bltn (v := .ty T0) hgT hmT hT rfl hn1 hn2) pa_nil he2) he) (he := he) (hpl := hpl)) fun σ F H M Q ok h => rd ok fun x F1 H1 e1 dx => by
    refine ⟨x, .ty T0, .type (clsOf d), .type T0, r, rfl, .ty T0, ?_, kit_ty hk, h _ F1 H1 e1 (.bl _)⟩
    by_cases hd : d = .none
    · subst hd
      rw [dq_non dx]
      exact tyx_non
    · exact tyx_of (dq_mono e1.sub _ _ dx) hd hdct

/-! ### texts -/
theorem ev_join {pa : Pos} {z : Str} {ys : List Str} (ha : Ev X W ρ a (.str z)) (hb : Bw X W ρ b (ys.map PyData.str)) (c : (ys.map (·.length)).sum + ys.length * z.length ≤ 16777216) (hs : starEach [b] X.env = [(false, eval b X.env)] := by rfl) (hbase : attributeBase a "join" X.env (eval a X.env) = eval a X.env := by rfl)
    (hline : (pa.endLine == pos.line) = true := by rfl) : Ev X W ρ (.Call (.Attribute a "join" pa) [b] [] pos) (.str (Txt.join z ys)) :=
  ev1_of (pe_join ha.pe hb.pe hs hbase hline) fun σ F H M Q ok h => rd ok fun x F1 H1 e1 dx => ⟨⟨z, dq_str dx⟩, F1, M, ok.ext e1, fun y F2 H2 e2 ⟨p, vs, ey, h1, h2⟩ => by
    subst ey
    rw [dqAll_strs h2] at h1
    exact ⟨z, p, ys, dq_str dx, rfl, .inl h1, c, h _ F2 H2 (e1.trans e2) (.str _)⟩⟩
theorem fr_split {pa : Pos} {z y : Str} (ha : Ev X W ρ a (.str z)) (hb : Ev X W ρ b (.str y)) (c : (y.length == 0) = false) (c2 : z.length + 2 ≤ sizeLine) (hs : starEach [b] X.env = [(false, eval b X.env)] := by rfl) (hbase : attributeBase a "split" X.env (eval a X.env) = eval a X.env := by rfl)
    (hline : (pa.endLine == pos.line) = true := by rfl) : Fr X W ρ (.Call (.Attribute a "split" pa) [b] [] pos) ((Txt.split z y).map PyData.str) :=
  ⟨fun pins s σ F H M Q I ok h => (pe_split ha.pe hb.pe hs hbase hline).run pins s σ H Q I (rd ok fun x F1 H1 e1 dx => ⟨⟨z, dq_str dx⟩, rd (ok.ext e1) fun w F2 H2 e2 dw => by
    have x := e1.trans e2
    exact ⟨z, y, dq_str dx, by rw [dq_str dw], c, c2, fun l hl => h l _ F2 _ (x.trans (.beside x.sub hl)) (x.h.free hl) (x.sub.free hl) upd_same (strs_dqAll _)⟩⟩)⟩
/-- a text n times -/
def repS (z : Str) (n : Int) : Str := ⟨((List.replicate n.toNat z.cps.toList).flatten).toArray⟩
theorem foldl_app (x : Array Nat) : ∀ (n : Nat) (acc : Array Nat), (List.replicate n x).foldl (· ++ ·) acc = acc ++ ((List.replicate n x.toList).flatten).toArray
  | 0, acc => by simp
  | n + 1, acc => by
    rw [List.replicate_succ, List.foldl_cons, foldl_app x n, List.replicate_succ, List.flatten_cons]
    apply Array.ext'
    simp
def rMulS : R2 := fun x y H Q => ∃ z n, x = .str z ∧ y = .int n ∧ -(2 ^ 63) ≤ n ∧ n < 2 ^ 62 ∧ z.length * n.toNat ≤ 16777216 ∧ Q (.str (repS z n)) H
end
end PV

/-! The pure-value layer: comprehensions, defs and their calls. -/
namespace PV
open PySem PySem.Spec PyProof.Rows L2
def wipeE (ρ : Env) : List Nat → Env
  | [] => ρ
  | v :: vs => (wipeE ρ vs).set v none
theorem wipeE_some {ρ : Env} {i : Nat} {S : Slot} : ∀ {vs : List Nat}, (wipeE ρ vs)[i]? = some (some S) → ρ[i]? = some (some S) ∧ i ∉ vs
  | [], h => ⟨h, by simp⟩
  | v :: vs, h => by
    have h : ((wipeE ρ vs).set v none)[i]? = some (some S) := h
    by_cases e : v = i
    · subst e
      by_cases hl : v < (wipeE ρ vs).length
      · rw [List.getElem?_set_self hl] at h; cases h
      · rw [List.getElem?_eq_none (by simpa using hl)] at h; cases h
    · rw [List.getElem?_set_ne e] at h
      obtain ⟨h1, h2⟩ := wipeE_some h
      exact ⟨h1, by simp [h2, Ne.symm e]⟩
theorem wipeE_length (ρ : Env) : ∀ vs : List Nat, (wipeE ρ vs).length = ρ.length
  | [] => rfl
  | v :: vs => by unfold wipeE; rw [List.length_set, wipeE_length ρ vs]
theorem EOk.wipe {K : PySem.W.Frag} {ρ : Env} {F H : Hp} {σ : St} {M : Nat → Mini} (x : EOk K ρ F σ H M) (vs : List Nat) : EOk K (wipeE ρ vs) F (L2.wipe σ vs) H M where
  len := by rw [wipe_length, wipeE_length]; exact x.len
  sub := x.sub
  at_ := fun i S h => by
    obtain ⟨h1, h2⟩ := wipeE_some h
    rw [wipe_out h2]
    exact x.at_ i S h1
  own := x.own
  apart := x.apart
theorem wipe_set_in {σ : St} {i : Nat} {v : Option V} : ∀ {vs : List Nat}, i ∈ vs → L2.wipe (σ.set i v) vs = L2.wipe σ vs
  | v' :: vs, h => by
    show (L2.wipe (σ.set i v) vs).set v' none = (L2.wipe σ vs).set v' none
    by_cases hv : i ∈ vs
    · rw [wipe_set_in hv]
    · have e : i = v' := by
        rcases List.mem_cons.mp h with e | e
        · exact e
        · exact absurd e hv
      subst e
      have key : ∀ (ws : List Nat) (σ : St), i ∉ ws → L2.wipe (σ.set i v) ws = (L2.wipe σ ws).set i v := by
        intro ws
        induction ws with
        | nil => intro σ _; rfl
        | cons w ws ih =>
          intro σ hn
          have hw : i ≠ w := fun e => hn (by simp [e])
          show (L2.wipe (σ.set i v) ws).set w none = ((L2.wipe σ ws).set w none).set i v
          rw [ih σ (fun z => hn (List.mem_cons_of_mem _ z)), List.set_comm _ _ hw]
      rw [key vs σ hv, List.set_set]
theorem wipe_setAllV : ∀ {is : List Nat} {xs : List V} {σ : St} {vs : List Nat}, (∀ i ∈ is, i ∈ vs) → L2.wipe (setAllV σ is xs) vs = L2.wipe σ vs
  | [], _, _, _, _ => by cases ‹List V› <;> rfl
  | i :: is, [], _, _, _ => rfl
  | i :: is, x :: xs, σ, vs, h => by
    show L2.wipe (setAllV (σ.set i (some x)) is xs) vs = _
    rw [wipe_setAllV fun j hj => h j (List.mem_cons_of_mem _ hj), wipe_set_in (h i List.mem_cons_self)]
theorem wipe_wipe {σ : St} {vs : List Nat} : L2.wipe (L2.wipe σ vs) vs = L2.wipe σ vs := by
  have key : ∀ (ws : List Nat), (∀ w ∈ ws, w ∈ vs) → ∀ σ : St, L2.wipe (L2.wipe σ ws) vs = L2.wipe σ vs := by
    intro ws
    induction ws with
    | nil => intro _ σ; rfl
    | cons w ws ih =>
      intro h σ
      show L2.wipe ((L2.wipe σ ws).set w none) vs = _
      rw [wipe_set_in (h w List.mem_cons_self), ih fun x hx => h x (List.mem_cons_of_mem _ hx)]
  exact key vs (fun _ h => h) σ

section
variable {X : Cx} {W : Wc} {ρ : Env} {e a b elt tg iter : Expr} {es : List Expr} {pos p : Pos} {C : Ec → Addr} {k : Nat} {rest : List Stmt} {Φ : Out → Prop} {scope : Scope}
/-- no error leaves -/
abbrev W0 : Wc := fun _ _ _ => False
abbrev bl (X : Cx) (scope : Scope) (s : Shared) (H : Hp) (Cc : Addr) (cl : List (Str × Addr)) (fp : List Addr) : Cx := X.blk s H scope (compEnvC scope cl Cc X.env) fp
theorem Ctx.blk (c : Ctx X C W k) (s : Shared) (H : Hp) (Cc : Addr) (cl : List (Str × Addr)) (fp : List Addr) : Ctx (bl X scope s H Cc cl fp) C W0 k :=
  ⟨c.calm, c.room, c.nd, PassesOwn.never, fun u s' ⟨_, _, _, _, _, _, _, _, _, _, _, _, _, _, _, _, z⟩ => by
    obtain ⟨_, _, _, z⟩ := z
    exact z.elim⟩
/-- within the block -/
def EvB (X : Cx) (scope : Scope) (ρ : Env) (e : Expr) (d : PyData) : Prop := ∀ (s : Shared) (H : Hp) (Cc : Addr) (cl : List (Str × Addr)) (fp : List Addr), Ev (bl X scope s H Cc cl fp) W0 ρ e d
def TstB (X : Cx) (scope : Scope) (ρ : Env) (e : Expr) (b : Bool) : Prop := ∀ (s : Shared) (H : Hp) (Cc : Addr) (cl : List (Str × Addr)) (fp : List Addr), Tst (bl X scope s H Cc cl fp) W0 ρ e b
def tEvB (X : Cx) (scope : Scope) (e : Expr) : TE := fun σ H Q => ∃ ρ d F M, EvB X scope ρ e d ∧ EOk X.K ρ F σ H M ∧ ∀ v F' H', Ext F H F' H' → Dq X.K F' v d → Q v H'
theorem pe_evB (s : Shared) (H : Hp) (Cc : Addr) (cl : List (Str × Addr)) (fp : List Addr) : PE (bl X scope s H Cc cl fp) e (tEvB X scope e) :=
  ⟨fun pins s1 σ H1 Q I ⟨ρ, d, F, M, h, ok, q⟩ => h s H Cc cl fp pins s1 σ F H1 M Q I ok (fun d' hd => by cases hd; exact q) fun c hc => nomatch hc⟩
def tTstB (X : Cx) (scope : Scope) (e : Expr) : TT := fun σ H Q => ∃ ρ b F M, TstB X scope ρ e b ∧ EOk X.K ρ F σ H M ∧ ∀ F' H', Ext F H F' H' → Q b H'
theorem pt_tstB (s : Shared) (H : Hp) (Cc : Addr) (cl : List (Str × Addr)) (fp : List Addr) : PT (bl X scope s H Cc cl fp) e (tTstB X scope e) :=
  ⟨fun pins s1 σ H1 Q I ⟨ρ, b, F, M, h, ok, q⟩ => h s H Cc cl fp pins s1 σ F H1 M Q I ok q⟩
/-- the tests of a clause: none, or one -/
def IfB (X : Cx) (scope : Scope) (ρ : Env) (ifs : List Expr) (b : Bool) : Prop := match ifs with
  | [] => b = true
  | [c] => TstB X scope ρ c b
  | _ => False
def tIfB (X : Cx) (scope : Scope) (ifs : List Expr) : TT := match ifs with
  | [] => tYes
  | [c] => tTstB X scope c
  | _ => fun _ _ _ => False
theorem pts_ifB {ifs : List Expr} (s : Shared) (H : Hp) (Cc : Addr) (cl : List (Str × Addr)) (fp : List Addr) : PTs (bl X scope s H Cc cl fp) ifs (tIfB X scope ifs) := by
  match ifs with
  | [] => exact pts_nil
  | [c] => exact pts_one (pt_tstB s H Cc cl fp)
  | _ :: _ :: _ => exact ⟨fun _ _ _ _ _ _ z => z.elim⟩
/-- the reading of a comprehension: ks tells of each item what comes of it -/
theorem lc_read {t : Bool} {is vs : List Nat} {ds : List PyData} {ks : List (Option PyData)} {ifs : List Expr} {wi : TI} {σ : St} {F H : Hp} {M : Nat → Mini} {Q : VK} (ok : EOk X.K ρ F σ H M)
    (qi : ∀ (σ : St) (F H : Hp) (M : Nat → Mini) (R : It → Hp → Prop), EOk X.K ρ F σ H M → (∀ J F' H', Ext F H F' H' → Walks X.K J F' ds → R J H') → wi σ H R) (hin : ∀ i ∈ is, i ∈ vs) (hz : ds.length ≤ sizeLine) (hk : ks.length = ds.length)
    (he : ∀ (i : Nat) (d : PyData) (r : Option PyData), ds[i]? = some d → ks[i]? = some r → tgFit t is d ∧ ∃ b, IfB X scope (setAll (wipeE ρ vs) is (tgItems t d)) ifs b ∧ (b = false → r = none) ∧ (b = true → ∃ x, r = some x ∧ EvB X scope (setAll (wipeE ρ vs) is (tgItems t d)) elt x))
    (h : ∀ a ws F' H', Ext F H F' H' → H a = none → F' a = none → H' a = some (.lst ws) → DqAll X.K F' ws (ks.filterMap id) → Q (.ref a) H') : tLc wi (gOf X.K t is) (tIfB X scope ifs) (tEvB X scope elt) vs σ H Q := by
  refine qi σ F H M _ ok fun J F1 H1 x1 wk => ?_
  intro D hD
  have nF1 : F1 D = none := x1.sub.free hD
  refine ⟨fun i m H' => m = ds.length - i ∧ i ≤ ds.length ∧ ∃ F' ws, Ext F1 H1 F' H' ∧ F' D = none ∧ H' D = some (.lst ws) ∧ ws.length ≤ i ∧ DqAll X.K F' ws ((ks.take i).filterMap id), ⟨_, rfl, Nat.zero_le _, F1, [], .beside x1.sub hD, nF1, upd_same, Nat.le_refl _, .nil⟩, ?_⟩
  rintro i m H2 ⟨rfl, hle, F2, ws, x2, n2, h2, hw, dws⟩
  by_cases hlt : i < ds.length
  · refine .inr ⟨wk.go i F2 H2 x2.f x2.sub hlt, fun H' => i + 1 ≤ ds.length ∧ ∃ F' ws, Ext F1 H1 F' H' ∧ F' D = none ∧ H' D = some (.lst ws) ∧ ws.length ≤ i + 1 ∧ DqAll X.K F' ws ((ks.take (i + 1)).filterMap id), fun H' ⟨a1, a2⟩ => ⟨ds.length - (i + 1), by omega, rfl, a1, a2⟩, fun x H3 y => ?_⟩
    obtain ⟨F3, d, x3, hd, dv⟩ := wk.yld i F2 H2 x H3 x2.f x2.sub hlt y
    obtain ⟨r, hr⟩ : ∃ r, ks[i]? = some r := ⟨ks[i], List.getElem?_eq_getElem (by omega)⟩
    obtain ⟨fit, b, hb, hf, ht⟩ := he i d r hd hr
    have n3 : F3 D = none := by
      cases q : F3 D with
      | none => rfl
      | some u =>
        have z := x3.new D u q n2
        rw [z] at h2; cases h2
    have tk : ks.take (i + 1) = ks.take i ++ [r] := by
      have hi : i < ks.length := by omega
      rw [List.take_add_one, hr]
      rfl
    refine gOf_ok x3.sub dv fit fun xs dxs => ⟨by rw [wipe_setAllV hin, wipe_wipe], ?_⟩
    obtain ⟨M4, ok4⟩ := EOk.setAll (is := is) ((((ok.ext x1).wipe vs).ext x2).ext x3) dxs
    have go : ∀ F4 H4, Ext F3 H3 F4 H4 → (if b = true then tEvB X scope elt (setAllV (L2.wipe σ vs) is xs) H4 fun y H5 => ∃ acc, H5 D = some (.lst acc) ∧ acc.length < sizeLine ∧ (i + 1 ≤ ds.length ∧ ∃ F' ws, Ext F1 H1 F' (upd H5 D (.lst (acc ++ [y]))) ∧ F' D = none ∧ (upd H5 D (.lst (acc ++ [y]))) D = some (.lst ws) ∧ ws.length ≤ i + 1 ∧ DqAll X.K F' ws ((ks.take (i + 1)).filterMap id))
        else (i + 1 ≤ ds.length ∧ ∃ F' ws, Ext F1 H1 F' H4 ∧ F' D = none ∧ H4 D = some (.lst ws) ∧ ws.length ≤ i + 1 ∧ DqAll X.K F' ws ((ks.take (i + 1)).filterMap id))) := fun F4 H4 x4 => by
      have h3 : H3 D = some (.lst ws) := x3.h _ _ h2
      have n4 : F4 D = none := by
        cases q : F4 D with
        | none => rfl
        | some u =>
          have z := x4.new D u q n3
          rw [z] at h3; cases h3
      cases b with
      | false =>
        refine iteF ⟨hlt, F4, ws, (x2.trans x3).trans x4, n4, x4.h _ _ h3, Nat.le_succ_of_le hw, ?_⟩
        rw [tk, hf rfl, List.filterMap_append]
        simpa using dqAll_mono (x3.f.trans x4.f) _ _ dws
      | true =>
        obtain ⟨z, rfl, hz'⟩ := ht rfl
        refine iteT ⟨_, z, F4, M4, hz', ok4.ext x4, fun v F5 H5 x5 dz => ?_⟩
        have h4 : H4 D = some (.lst ws) := x4.h _ _ h3
        have n5 : F5 D = none := by
          cases q : F5 D with
          | none => rfl
          | some u =>
            have z := x5.new D u q n4
            rw [z] at h4; cases h4
        have x6 := ((x2.trans x3).trans x4).trans x5
        refine ⟨ws, x5.h _ _ h4, by omega, hlt, F5, ws ++ [v], ⟨x6.f, fun b u e => ?_, fun b u e => ?_, x6.new⟩, n5, upd_same, by rw [List.length_append]; simpa using hw, ?_⟩
        · rw [upd_ne (ne_of_none e hD)]; exact x6.h b u e
        · rw [upd_ne (ne_of_none e n5)]; exact x6.sub b u e
        · rw [tk, List.filterMap_append]
          exact DqAll_app (dqAll_mono ((x3.f.trans x4.f).trans x5.f) _ _ dws) (by simpa using DqAll.cons dz .nil)
    match ifs, hb with
    | [], hb =>
      have hb' : b = true := hb
      subst hb'
      exact go F3 H3 (.refl x3.sub)
    | [c], hb => exact ⟨_, b, F3, M4, hb, ok4, fun F' H' x => go F' H' x⟩
  · have e : i = ds.length := by omega
    subst e
    refine .inl ⟨wk.stop F2 H2 x2.f x2.sub, h D ws F2 H2 (x1.trans x2) (x1.h.free hD) n2 h2 ?_⟩
    rw [← hk, List.take_length] at dws
    exact dws
/-- [elt for tg in iter if ..] -/
theorem fr_lc {t : Bool} {is : List Nat} {ds : List PyData} {ks : List (Option PyData)} {ifs : List Expr} (own : List (Str × Nat)) (c : Ctx X C W k) (hi : Iv X W ρ tg iter ds) (hg : ∀ s H Cc cl fp, TgOk (bl X scope s H Cc cl fp) tg t is) (hz : ds.length ≤ sizeLine) (hk : ks.length = ds.length)
    (he : ∀ (i : Nat) (d : PyData) (r : Option PyData), ds[i]? = some d → ks[i]? = some r → tgFit t is d ∧ ∃ b, IfB X scope (setAll (wipeE ρ (own.map (·.2))) is (tgItems t d)) ifs b ∧ (b = false → r = none) ∧ (b = true → ∃ x, r = some x ∧ EvB X scope (setAll (wipeE ρ (own.map (·.2))) is (tgItems t d)) elt x))
    (hin : ∀ i ∈ is, i ∈ own.map (·.2) := by decide) (ok : BlkOk X.N X.env.scope scope own := by exact blkOk_by (by rfl)) (hs : ∀ x, foldedSetIterable iter X.env x = pure x := by intro _; rfl) : Fr X W ρ (.ListComp elt [⟨tg, iter, ifs, 0⟩] scope pos) (ks.filterMap id) := by
  obtain ⟨wi, hwi, qi⟩ := hi
  exact ⟨fun pins s σ F H M Q I ok' h => (pe_lc (own := own) (g := gOf X.K t is) c.calm c.nd hwi ok hg (fun s H Cc cl fp => pts_ifB s H Cc cl fp) (fun s H Cc cl fp => pe_evB s H Cc cl fp) hs).run pins s σ H Q I (lc_read ok' qi hin hz hk he h)⟩
/-- x = [elt for tg in iter if ..], owned; x a local that no block reads -/
theorem sxs_setLc (j : Nat) {x : Str} {pos' spos : Pos} {t : Bool} {is : List Nat} {ds : List PyData} {ks : List (Option PyData)} {ifs : List Expr} (own : List (Str × Nat)) (c : Ctx X C W k) (hi : Iv X W ρ tg iter ds) (hg : ∀ s H Cc cl fp, TgOk (bl X scope s H Cc cl fp) tg t is) (hz : ds.length ≤ sizeLine) (hk : ks.length = ds.length)
    (he : ∀ (i : Nat) (d : PyData) (r : Option PyData), ds[i]? = some d → ks[i]? = some r → tgFit t is d ∧ ∃ b, IfB X scope (setAll (wipeE ρ (own.map (·.2))) is (tgItems t d)) ifs b ∧ (b = false → r = none) ∧ (b = true → ∃ x, r = some x ∧ EvB X scope (setAll (wipeE ρ (own.map (·.2))) is (tgItems t d)) elt x))
    (kk : Sxs X W rest (ρ.set j (some (ow none (ks.filterMap id)))) Φ)
    (hin : ∀ i ∈ is, i ∈ own.map (·.2) := by decide) (ok : BlkOk X.N X.env.scope scope own := by exact blkOk_by (by rfl)) (hs : ∀ x, foldedSetIterable iter X.env x = pure x := by intro _; rfl)
    (hy : X.N[j]? = some x := by rfl) (hyl : X.env.scope.names.lookup x = some .local := by rfl) (hsw : swapsWith (.ListComp elt [⟨tg, iter, ifs, 0⟩] scope pos) (some (.Name x pos')) spos.line X.env = pure true := by exact sw_true rfl rfl rfl (by rfl)) :
    Sxs X W (.Assign [.Name x pos'] (.ListComp elt [⟨tg, iter, ifs, 0⟩] scope pos) spos :: rest) ρ Φ := by
  obtain ⟨wi, hwi, qi⟩ := hi
  exact sxs_of (ps_setLc (own := own) (g := gOf X.K t is) c.calm c.nd hy hyl hsw hwi ok hg (fun s H Cc cl fp => pts_ifB s H Cc cl fp) (fun s H Cc cl fp => pe_evB s H Cc cl fp) hs) fun σ F H M B F0 D ok' q =>
    lc_read ok'.ok qi hin hz hk he fun a ws F' H' x n n' ha dv => ⟨_, Φ, F', _, B, F0, kk, ok'.setO x n n' ha dv, q⟩
/-- every item gives one -/
theorem keep_all (es : List PyData) : (es.map some).filterMap id = es := by
  induction es with
  | nil => rfl
  | cons e es ih => simp

/-! ### defs -/
/-- an argument that is read only -/
structure EvS (X : Cx) (W : Wc) (ρ : Env) (e : Expr) (S : Slot) : Prop where
  run : ∀ (pins : List (Addr × Obj)) (s : Shared) (σ : St) (F H : Hp) (M : Nat → Mini) (Q : VK), Inv X pins σ H s → EOk X.K ρ F σ H M → (∀ v F' H', Ext F H F' H' → S.R X.K F' v [] → Q v H') →
    wpAny (model X.prog X.w) X.A (eval e X.env) (EP X pins σ Q) X.xe s
instance coEvS {X : Cx} {W : Wc} {ρ : Env} {e : Expr} {S : Slot} : CoeFun (EvS X W ρ e S) fun _ => ∀ (pins : List (Addr × Obj)) (s : Shared) (σ : St) (F H : Hp) (M : Nat → Mini) (Q : VK), Inv X pins σ H s → EOk X.K ρ F σ H M → (∀ v F' H', Ext F H F' H' → S.R X.K F' v [] → Q v H') →
    wpAny (model X.prog X.w) X.A (eval e X.env) (EP X pins σ Q) X.xe s := ⟨fun h => h.run⟩
theorem Ev.s {d : PyData} (h : Ev X W ρ e d) : EvS X W ρ e (fz d) := ⟨fun pins s σ F H M Q I ok q => h pins s σ F H M Q I ok (fun d' hd v F' H' x dv => by cases hd; exact q v F' H' x ⟨rfl, dv⟩) fun c hc => nomatch hc⟩
theorem evs_kn (i : Nat) {x : Str} {pos : Pos} {ds : List PyData} (hd : ρ[i]? = some (some (kn ds))) (hN : X.N[i]? = some x := by rfl) (hv : Vis X.env.scope x := by first | exact Or.inl rfl | exact Or.inr (Or.inl rfl) | exact Or.inr (Or.inr rfl))
    (h1 : (x == ("__debug__" : Str)) = false := by decide) (h2 : (x == ("__classdict__" : Str)) = false := by decide) : EvS X W ρ (.Name x pos) (kn ds) :=
  ⟨fun pins s σ F H M Q I ok h => (pe_var hN hv h1 h2).run pins s σ H Q I (by
    obtain ⟨v, e, _, q⟩ := ok.at_ i _ hd
    exact ⟨_, e, h _ F H (.refl ok.sub) ⟨rfl, q⟩⟩)⟩
def SlotsR (K : PySem.W.Frag) (F : Hp) : List V → List Slot → Prop := Paired fun v S => S.R K F v []
theorem SlotsR.mono {K : PySem.W.Frag} {F F' : Hp} (e : Same F F') : ∀ {vs : List V} {Ss : List Slot}, SlotsR K F vs Ss → SlotsR K F' vs Ss
  | _, _, .nil => .nil
  | _, _, .cons (b := S) h t => .cons (S.mono K F F' _ _ e h) (SlotsR.mono e t)
structure EvAS (X : Cx) (W : Wc) (ρ : Env) (es : List Expr) (Ss : List Slot) : Prop where
  run : ∀ (pos : Pos) (pins : List (Addr × Obj)) (s : Shared) (σ : St) (F H : Hp) (M : Nat → Mini) (Q : List V → Hp → Prop), Inv X pins σ H s → EOk X.K ρ F σ H M →
    (∀ vs F' H', Ext F H F' H' → SlotsR X.K F' vs Ss → Q vs H') → wpAny (model X.prog X.w) X.A (spliced (backTo pos (starEach es X.env))) (AP X pins σ Q) X.xe s
instance coEvAS {X : Cx} {W : Wc} {ρ : Env} {es : List Expr} {Ss : List Slot} : CoeFun (EvAS X W ρ es Ss) fun _ => ∀ (pos : Pos) (pins : List (Addr × Obj)) (s : Shared) (σ : St) (F H : Hp) (M : Nat → Mini) (Q : List V → Hp → Prop), Inv X pins σ H s → EOk X.K ρ F σ H M →
    (∀ vs F' H', Ext F H F' H' → SlotsR X.K F' vs Ss → Q vs H') → wpAny (model X.prog X.w) X.A (spliced (backTo pos (starEach es X.env))) (AP X pins σ Q) X.xe s := ⟨fun h => h.run⟩
def tEvS (X : Cx) (ρ : Env) (S : Slot) : TE := fun σ H Q => ∃ F M, EOk X.K ρ F σ H M ∧ (∀ v F' H', Ext F H F' H' → S.R X.K F' v [] → Q v H')
theorem EvS.pe {S : Slot} (h : EvS X W ρ e S) : PE X e (tEvS X ρ S) := ⟨fun pins s σ H Q I ⟨F, M, ok, h1⟩ => h pins s σ F H M Q I ok h1⟩
def tEvAS (X : Cx) (ρ : Env) (Ss : List Slot) : TA := fun σ H Q => ∃ F M, EOk X.K ρ F σ H M ∧ (∀ vs F' H', Ext F H F' H' → SlotsR X.K F' vs Ss → Q vs H')
theorem EvAS.pa {Ss : List Slot} (h : EvAS X W ρ es Ss) : PA X es (tEvAS X ρ Ss) := ⟨fun pos pins s σ H Q I ⟨F, M, ok, h1⟩ => h pos pins s σ F H M Q I ok h1⟩
theorem as_nil : EvAS X W ρ [] [] := ⟨fun pos pins s σ F H M Q I ok h => pa_nil.run pos pins s σ H Q I (h _ F H (.refl ok.sub) .nil)⟩
theorem as_cons {S : Slot} {Ss : List Slot} (ha : EvS X W ρ e S) (hr : EvAS X W ρ es Ss) (hs : starEach (e :: es) X.env = (false, eval e X.env) :: starEach es X.env := by rfl) : EvAS X W ρ (e :: es) (S :: Ss) :=
  ⟨fun pos pins s σ F H M Q I ok h => (pa_cons ha.pe hr.pa hs).run pos pins s σ H Q I ⟨F, M, ok, fun v F1 H1 x1 dv => ⟨F1, M, ok.ext x1, fun vs F2 H2 x2 dvs => h _ F2 H2 (x1.trans x2) (.cons (S.mono _ _ _ _ _ x2.f dv) dvs)⟩⟩⟩

/-- a def that changes nothing and hands back, or raises: ins the arguments, r what comes of them, by an index of any kind -/
def spP (K : PySem.W.Frag) (C : Ec → Addr) {ι : Type} (n : Nat) (ins : ι → List Slot) (pre : ι → Prop) (r : ι → Except Ec Slot → Prop) : Sp := fun vs H Q E =>
  ∃ (i : ι) (F : Hp), Same F H ∧ vs.length = n ∧ SlotsR K F vs (ins i) ∧ pre i ∧
    (∀ S, r i (.ok S) → ∀ v F' H' m, Ext F H F' H' → S.R K F' v m → (∀ a o, (a, o) ∈ m → H' a = some o ∧ F' a = none ∧ H a = none) → Q v H') ∧ (∀ c, r i (.error c) → ∀ F' H', Ext F H F' H' → E (.ref (C c)) none H')
/-- a def of the module, by its promise -/
def Callee (P : Program) (w : World) (K : PySem.W.Frag) (mg : Str → Option Value) (base : Heap) (k : Nat) (x : Str) (sp : Sp) : Prop :=
  ∃ f fd ps, FnOk P w K mg base (L2.CX P w) k f fd ps sp ∧ mg x = some (.ref f) ∧ PySem.W.keepIn K (.ref f) = true ∧ Binds K fd ps []
variable {ι : Type} {n : Nat} {ins : ι → List Slot} {pre : ι → Prop} {r : ι → Except Ec Slot → Prop} {x : Str} {j : Nat}
theorem call_any (c : Ctx X C W k) (G : Callee X.prog X.w X.K X.mg X.base j x (spP X.K C n ins pre r)) (hj : j ≤ k) (i : ι) (hp : pre i) (ha : EvAS X W ρ (e :: es) (ins i)) (hn : (ins i).length = n)
    (hg : Gl X x) (hdb : (x == ("__debug__" : Str)) = false) (he : starEach (e :: es) X.env = (false, eval e X.env) :: starEach es X.env) (hpl : (backTo pos (starEach es X.env)).any (·.1) = false)
    (pins : List (Addr × Obj)) (s : Shared) (σ : St) (F H : Hp) (M : Nat → Mini) (Q : VK) (I : Inv X pins σ H s) (ok : EOk X.K ρ F σ H M)
    (h1 : ∀ S, r i (.ok S) → ∀ v F' H' m, Ext F H F' H' → S.R X.K F' v m → (∀ a o, (a, o) ∈ m → H' a = some o ∧ F' a = none ∧ H a = none) → Q v H') (h2 : ∀ c, r i (.error c) → ∀ F' H', Ext F H F' H' → W c σ H') :
    wpAny (model X.prog X.w) X.A (eval (.Call (.Name x p) (e :: es) [] pos) X.env) (EP X pins σ Q) X.xe s := by
  obtain ⟨f, fd, ps, hF, hm, hk, hb⟩ := G
  refine (pe_callS (E := WE (fun cls d σ H => ∃ c, cls = .ref (C c) ∧ d = none ∧ W c σ H)) hF (c.room.mono hj) hg hm hk hb (fun σ => passAt c.tk σ) ha.pa hdb he hpl).run pins s σ H Q I ?_
  refine ⟨F, M, ok, fun vs F1 H1 x1 dvs => ⟨i, F1, x1.sub, (Paired.length dvs).trans hn, dvs, hp, fun S hS v F' H' m x2 hv hm => ?_, fun c hc F' H' x2 => ⟨c, rfl, rfl, h2 c hc F' H' (x1.trans x2)⟩⟩⟩
  exact h1 S hS v F' H' m (x1.trans x2) hv fun a o hmem => ⟨(hm a o hmem).1, (hm a o hmem).2.1, x1.h.free (hm a o hmem).2.2⟩
theorem evR_call {r' : Except Ec PyData} (c : Ctx X C W k) (G : Callee X.prog X.w X.K X.mg X.base j x (spP X.K C n ins pre r)) (i : ι) (hp : pre i) (hr : ∀ o, r i o → o = r'.map fz) (ha : EvAS X W ρ (e :: es) (ins i)) (hj : j ≤ k := by decide) (hn : (ins i).length = n := by rfl)
    (hg : Gl X x := by rfl) (hdb : (x == ("__debug__" : Str)) = false := by decide) (he : starEach (e :: es) X.env = (false, eval e X.env) :: starEach es X.env := by rfl) (hpl : (backTo pos (starEach es X.env)).any (·.1) = false := by rfl) : EvR X W ρ (.Call (.Name x p) (e :: es) [] pos) r' :=
  ⟨fun pins s σ F H M Q I ok h1 h2 => call_any c G hj i hp ha hn hg hdb he hpl pins s σ F H M Q I ok (fun S hS v F' H' m x2 hv hm => by
    have hS := hr _ hS
    cases r' with
    | error c => cases hS
    | ok d =>
      have e : S = fz d := Except.ok.inj hS
      subst e
      exact h1 d rfl v F' H' x2 hv.2) fun c hc F' H' x2 => by
    have hc := hr _ hc
    cases r' with
    | ok d => cases hc
    | error c' =>
      have e : c = c' := Except.error.inj hc
      subst e
      exact h2 _ rfl F' H' x2⟩
theorem ev_call {d : PyData} (c : Ctx X C W k) (G : Callee X.prog X.w X.K X.mg X.base j x (spP X.K C n ins pre r)) (i : ι) (hp : pre i) (hr : ∀ o, r i o → o = .ok (fz d)) (ha : EvAS X W ρ (e :: es) (ins i)) (hj : j ≤ k := by decide) (hn : (ins i).length = n := by rfl)
    (hg : Gl X x := by rfl) (hdb : (x == ("__debug__" : Str)) = false := by decide) (he : starEach (e :: es) X.env = (false, eval e X.env) :: starEach es X.env := by rfl) (hpl : (backTo pos (starEach es X.env)).any (·.1) = false := by rfl) : Ev X W ρ (.Call (.Name x p) (e :: es) [] pos) d :=
  evR_call c G i hp hr ha hj hn hg hdb he hpl
/-- a def that hands back a new list -/
theorem fr_call {ds : List PyData} (c : Ctx X C W k) (G : Callee X.prog X.w X.K X.mg X.base j x (spP X.K C n ins pre r)) (i : ι) (hp : pre i) (hr : ∀ o, r i o → o = .ok (ow none ds)) (ha : EvAS X W ρ (e :: es) (ins i)) (hj : j ≤ k := by decide) (hn : (ins i).length = n := by rfl)
    (hg : Gl X x := by rfl) (hdb : (x == ("__debug__" : Str)) = false := by decide) (he : starEach (e :: es) X.env = (false, eval e X.env) :: starEach es X.env := by rfl) (hpl : (backTo pos (starEach es X.env)).any (·.1) = false := by rfl) : Fr X W ρ (.Call (.Name x p) (e :: es) [] pos) ds :=
  ⟨fun pins s σ F H M Q I ok h1 => call_any c G hj i hp ha hn hg hdb he hpl pins s σ F H M Q I ok (fun S hS v F' H' m x2 hv hm => by
    have e : S = ow none ds := Except.ok.inj (hr _ hS)
    subst e
    obtain ⟨a, vs, rfl, em, _, dv⟩ := hv
    obtain ⟨z1, z2, z3⟩ := hm a (.lst vs) (by rw [em]; exact List.mem_cons_self)
    exact h1 a vs F' H' x2 z3 z2 z1 dv) fun c hc F' H' x2 => nomatch hr _ hc⟩
end

/-- a def as it stands behind the top -/
def Df (K : PySem.W.Frag) (mg : Str → Option Value) (x : Str) (st : Stmt) : Prop := ∃ f fd, Fun K x x st f fd ∧ mg x = some (.ref f)
/-- what the body is to reach -/
def bodyS (r : Except Ec Slot → Prop) : Out → Prop
  | .next _ => r (.ok (fz .none))
  | .ret S _ => r (.ok S)
  | .raise c _ => r (.error c)
  | _ => False
/-- .. with the names of its parameters -/
def CalleeP (P : Program) (w : World) (K : PySem.W.Frag) (mg : Str → Option Value) (base : Heap) (k : Nat) (x : Str) (ps : List Str) (sp : Sp) : Prop :=
  ∃ f fd, FnOk P w K mg base (L2.CX P w) k f fd ps sp ∧ mg x = some (.ref f) ∧ PySem.W.keepIn K (.ref f) = true ∧ Binds K fd ps [] ∧ (∀ (s : Shared) (us : List Value), us.length = ps.length → BindsTo s fd ⟨us, []⟩ (ps.zip us)) ∧ ∃ oc od osl, K.lookup f = some ⟨oc, od, .func fd, osl⟩
/-- the one outcome -/
abbrev is {α : Type} (a : α) : α → Prop := fun o => o = a
section
variable {P : Program} {w : World} {K : PySem.W.Frag} {mg : Str → Option Value} {base : Heap} {C : Ec → Addr} {k : Nat} {x : Str} {st : Stmt} {N ps : List Str} {ι : Type} {ins : ι → List Slot} {pre : ι → Prop} {r : ι → Except Ec Slot → Prop}
/-- the context of a def's body -/
abbrev cxD (P : Program) (w : World) (K : PySem.W.Frag) (mg : Str → Option Value) (base : Heap) (N : List Str) (x : Str) (st : Stmt) (f : Addr) (cdv : Value) (A : Around) (outer : List PySem.Env) (s : Shared) (H : Hp) (E : XK) : Cx := cxOf (L2.CX P w) P w K mg base N x (defScope st) f cdv A outer s H E
theorem EOk_args {F H : Hp} : ∀ {vs : List V} {Ss : List Slot} {m : Nat}, Same F H → SlotsR K F vs Ss → EOk K (Ss.map some ++ List.replicate m none) F (vs.map some ++ List.replicate m none) H (fun _ => []) := fun {vs Ss m} s h => by
  refine ⟨?_, s, fun i S hi => ?_, (fun _ _ _ z => nomatch z), (fun _ _ _ _ _ z => nomatch z)⟩
  · simp [Paired.length h]
  · have hl : i < Ss.length := by
      by_cases q : i < Ss.length
      · exact q
      · rw [List.getElem?_append_right (by simpa using q)] at hi
        rw [List.getElem?_replicate] at hi
        split at hi <;> cases hi
    rw [List.getElem?_append_left (by simpa using hl), List.getElem?_map] at hi
    have key : ∀ {vs : List V} {Ss : List Slot} (i : Nat), SlotsR K F vs Ss → Ss[i]? = some S → ∃ v, vs[i]? = some v ∧ S.R K F v [] := by
      intro vs Ss i h
      induction h generalizing i with
      | nil => intro e; simp at e
      | cons hh t ih =>
        intro e
        cases i with
        | zero => simp at e; subst e; exact ⟨_, by simp, hh⟩
        | succ i =>
          obtain ⟨v, h1, h2⟩ := ih i (by simpa using e)
          exact ⟨v, by simpa using h1, h2⟩
    obtain ⟨v, h1, h2⟩ := key i h (by
      cases q : Ss[i]? with
      | none => rw [q] at hi; cases hi
      | some T => rw [q] at hi; simpa using hi)
    refine ⟨v, ?_, h2⟩
    rw [List.getElem?_append_left (by rw [List.length_map, Paired.length h]; exact hl), List.getElem?_map, h1]
    rfl
theorem callee_ofP (D : Df K mg x st) (S : FnScope N ps (defScope st))
    (hb : ∀ (kV doc pm : Value) (an : Option Addr) (cdv ct : Value) (us : List Value), us.length = ps.length → bindArgs (PySem.W.fnOf x x (defArgs st) (defBody st) (defScope st) .none kV doc pm an cdv ct) ⟨us, []⟩ = pure (ps.zip us))
    (body : ∀ (f : Addr) (cdv : Value) (A : Around) (outer : List PySem.Env) (s : Shared) (H : Hp) (E : XK), Ctx (cxD P w K mg base N x st f cdv A outer s H E) C (fun c σ H => E (.ref (C c)) none H) k → ∀ i, pre i →
      Sxs (cxD P w K mg base N x st f cdv A outer s H E) (fun c σ H => E (.ref (C c)) none H) (defBody st) ((ins i).map some ++ List.replicate (N.length - (ins i).length) none) (bodyS (r i))) : CalleeP P w K mg base (k + 1) x ps (spP K C ps.length ins pre r) := by
  obtain ⟨f, fd, F, hm⟩ := D
  refine ⟨f, fd, F.okX S (fun vs H Q E ⟨i, F, _, h, _⟩ => h) (fun cdv A outer s H vs Q E hr h => ?_), hm, F.kp, F.binds hb, ?_⟩
  rotate_left
  · obtain ⟨oc, od, kV, doc, pm, an, cdv, ct, osl, rfl, lk, _⟩ := F.ex
    exact ⟨fun s us hl => .of_eq (hb kV doc pm an cdv ct us hl), _, _, _, lk⟩
  obtain ⟨i, F0, s0, hl, hv, hp, q1, q2⟩ := h
  have tk : Takes (cxD P w K mg base N x st f cdv A outer s H E) (fun cls d σ H => ∃ c, cls = .ref (C c) ∧ d = none ∧ E (.ref (C c)) none H) :=
    Takes.imp (takes_of rfl rfl rfl rfl) fun cls d σ H ⟨c, e1, e2, z⟩ => by subst e1 e2; exact z
  have cc : Ctx (cxD P w K mg base N x st f cdv A outer s H E) C (fun c σ H => E (.ref (C c)) none H) k := ⟨rfl, hr, S.nd, passes_of rfl, tk⟩
  have b := body f cdv A outer s H E cc i hp
  have el : N.length - (ins i).length = N.length - vs.length := by rw [Paired.length hv]
  have ok : EOk K ((ins i).map some ++ List.replicate (N.length - (ins i).length) none) F0 (start N vs) H (fun _ => []) := by
    rw [el]; exact EOk_args s0 hv
  have gr : ∀ {F' H' : Hp} {ρ : Env} {σ : St} {M : Nat → Mini}, PInv K H F0 ρ F' σ H' M → Ext F0 H F' H' := fun y => ⟨y.f0, y.base, y.ok.sub, y.nb⟩
  refine ⟨_, pss_Sxs _ _ _, _, _, F0, _, H, F0, b, ⟨ok, .refl _, .refl _, (fun a o h1 h2 => by rw [h1] at h2; cases h2), fun _ _ _ z => nomatch z⟩, fun o ho => ?_⟩
  cases o with
  | next ρ => exact fun F' σ H' M y => q1 _ ho .non F' H' [] (gr y) ⟨rfl, .non⟩ fun _ _ z => nomatch z
  | ret S ρ =>
    intro v F' σ H' M y
    obtain ⟨v', e, hv'⟩ := y.ok.at_ 0 S rfl
    have e' : v = v' := by simpa using e
    subst e'
    exact q1 S ho v F' H' (M 0) (gr y) hv' fun a o hm => ⟨(y.ok.own 0 a o hm).1, (y.ok.own 0 a o hm).2, y.mb 0 a o hm⟩
  | brk ρ => exact ho.elim
  | cont ρ => exact ho.elim
  | raise c ρ => exact fun F' σ H' M y => q2 c ho F' H' (gr y)
theorem callee_of (D : Df K mg x st) (S : FnScope N ps (defScope st))
    (hb : ∀ (kV doc pm : Value) (an : Option Addr) (cdv ct : Value) (us : List Value), us.length = ps.length → bindArgs (PySem.W.fnOf x x (defArgs st) (defBody st) (defScope st) .none kV doc pm an cdv ct) ⟨us, []⟩ = pure (ps.zip us))
    (body : ∀ (f : Addr) (cdv : Value) (A : Around) (outer : List PySem.Env) (s : Shared) (H : Hp) (E : XK), Ctx (cxD P w K mg base N x st f cdv A outer s H E) C (fun c σ H => E (.ref (C c)) none H) k → ∀ i, pre i →
      Sxs (cxD P w K mg base N x st f cdv A outer s H E) (fun c σ H => E (.ref (C c)) none H) (defBody st) ((ins i).map some ++ List.replicate (N.length - (ins i).length) none) (bodyS (r i))) : Callee P w K mg base (k + 1) x (spP K C ps.length ins pre r) := 
  let ⟨f, fd, h1, h2, h3, h4, _⟩ := callee_ofP D S hb body
  ⟨f, fd, ps, h1, h2, h3, h4⟩
end
end PV

/-! The pure-value layer: trees of owned lists and tuples. -/
namespace PV
open PySem PySem.Spec PyProof.Rows L2
/-- data, parts of which are owned (l: where it stands, if that is told) -/
inductive T where
  | fz (d : PyData)
  | lst (l : Option Addr) (ts : List T)
  | tup (l : Option Addr) (ts : List T)
mutual
def T.er : T → PyData
  | .fz d => d
  | .lst _ ts => .list (T.ers ts)
  | .tup _ ts => .tuple (T.ers ts)
def T.ers : List T → List PyData
  | [] => []
  | t :: ts => t.er :: T.ers ts
end
theorem ers_map : ∀ ts : List T, T.ers ts = ts.map T.er
  | [] => rfl
  | t :: ts => by rw [T.ers, List.map_cons, ers_map ts]
def Ap (m m' : Mini) : Prop := ∀ (a : Addr) (o o' : HO), (a, o) ∈ m → (a, o') ∉ m'
mutual
inductive OT (K : PySem.W.Frag) (F : Hp) : V → T → Mini → Prop
  | fz {v : V} {d : PyData} : Dq K F v d → OT K F v (.fz d) []
  | lst {a : Addr} {l : Option Addr} {vs : List V} {ts : List T} {m : Mini} : (∀ q, l = some q → a = q) → OTs K F vs ts m → (∀ o, (a, o) ∉ m) → OT K F (.ref a) (.lst l ts) ((a, .lst vs) :: m)
  | tup {a : Addr} {l : Option Addr} {vs : List V} {ts : List T} {m : Mini} : (∀ q, l = some q → a = q) → OTs K F vs ts m → (∀ o, (a, o) ∉ m) → OT K F (.ref a) (.tup l ts) ((a, .tup vs) :: m)
inductive OTs (K : PySem.W.Frag) (F : Hp) : List V → List T → Mini → Prop
  | nil : OTs K F [] [] []
  | cons {v : V} {t : T} {m : Mini} {vs : List V} {ts : List T} {m' : Mini} : OT K F v t m → OTs K F vs ts m' → Ap m m' → OTs K F (v :: vs) (t :: ts) (m ++ m')
end
section
variable {K : PySem.W.Frag} {F F' H : Hp}
mutual
theorem OT.mono (e : Same F F') : ∀ (t : T) (v : V) (m : Mini), OT K F v t m → OT K F' v t m
  | .fz d, _, _, h => by cases h with | fz h => exact .fz (dq_mono e _ _ h)
  | .lst l ts, _, _, h => by cases h with | lst h1 h2 h3 => exact .lst h1 (OTs.mono e ts _ _ h2) h3
  | .tup l ts, _, _, h => by cases h with | tup h1 h2 h3 => exact .tup h1 (OTs.mono e ts _ _ h2) h3
theorem OTs.mono (e : Same F F') : ∀ (ts : List T) (vs : List V) (m : Mini), OTs K F vs ts m → OTs K F' vs ts m
  | [], _, _, h => by cases h; exact .nil
  | t :: ts, _, _, h => by cases h with | cons h1 h2 h3 => exact .cons (OT.mono e t _ _ h1) (OTs.mono e ts _ _ h2) h3
end
mutual
theorem OT.dq (s : Same F H) : ∀ (t : T) (v : V) (m : Mini), OT K F v t m → (∀ a o, (a, o) ∈ m → H a = some o) → Dq K H v t.er
  | .fz d, _, _, h, q => by cases h with | fz h => exact dq_mono s _ _ h
  | .lst l ts, _, _, h, q => by
    cases h with
    | lst h1 h2 h3 =>
      have e : T.er (.lst l ts) = .list (T.ers ts) := by rw [T.er]
      rw [e]
      exact .lst (.inl (q _ _ List.mem_cons_self)) (OTs.dq s ts _ _ h2 fun a o h => q a o (List.mem_cons_of_mem _ h))
  | .tup l ts, _, _, h, q => by
    cases h with
    | tup h1 h2 h3 =>
      have e : T.er (.tup l ts) = .tuple (T.ers ts) := by rw [T.er]
      rw [e]
      exact .tup (q _ _ List.mem_cons_self) (OTs.dq s ts _ _ h2 fun a o h => q a o (List.mem_cons_of_mem _ h))
theorem OTs.dq (s : Same F H) : ∀ (ts : List T) (vs : List V) (m : Mini), OTs K F vs ts m → (∀ a o, (a, o) ∈ m → H a = some o) → DqAll K H vs (T.ers ts)
  | [], _, _, h, q => by cases h; rw [T.ers]; exact .nil
  | t :: ts, _, _, h, q => by
    cases h with
    | cons h1 h2 h3 =>
      rw [T.ers]
      exact .cons (OT.dq s t _ _ h1 fun a o h => q a o (List.mem_append_left _ h)) (OTs.dq s ts _ _ h2 fun a o h => q a o (List.mem_append_right _ h))
end
theorem OTs.len : ∀ {vs : List V} {ts : List T} {m : Mini}, OTs K F vs ts m → vs.length = ts.length
  | _, _, _, .nil => rfl
  | _, _, _, .cons _ t _ => congrArg (· + 1) (OTs.len t)
/-- frozen items as a tree's -/
theorem OTs.ofDq : ∀ {vs : List V} {ds : List PyData}, DqAll K F vs ds → OTs K F vs (ds.map T.fz) []
  | _, _, .nil => .nil
  | _, _, .cons h t => .cons (m := []) (.fz h) (OTs.ofDq t) fun _ _ _ h => nomatch h
theorem OTs.app : ∀ {vs ws : List V} {ts us : List T} {m m' : Mini}, OTs K F vs ts m → OTs K F ws us m' → Ap m m' → OTs K F (vs ++ ws) (ts ++ us) (m ++ m')
  | _, _, _, _, _, _, .nil, h, _ => h
  | _, _, _, _, _, _, .cons (m := m1) (m' := m2) h t a, h', a' => by
    rw [List.append_assoc]
    refine .cons h (OTs.app t h' fun b o o' hm => a' b o o' (List.mem_append_right _ hm)) fun b o o' hm hm' => ?_
    rcases List.mem_append.mp hm' with z | z
    · exact a b o o' hm z
    · exact a' b o o' (List.mem_append_left _ hm) z
theorem OTs.one {v : V} {t : T} {m : Mini} (h : OT K F v t m) : OTs K F [v] [t] m := by
  have z := OTs.cons h .nil (fun _ _ _ _ h => nomatch h)
  rw [List.append_nil] at z
  exact z
/-- one item: what stands there, and what comes of putting another thing there -/
theorem OTs.at : ∀ {vs : List V} {ts : List T} {m : Mini} {k : Nat} {u : T}, OTs K F vs ts m → ts[k]? = some u → ∃ v mu, vs[k]? = some v ∧ OT K F v u mu ∧ (∀ x, x ∈ mu → x ∈ m) ∧
    ∀ (w : V) (u' : T) (mu' : Mini), OT K F w u' mu' → (∀ b o, (b, o) ∈ mu' → (∃ o', (b, o') ∈ mu) ∨ ∀ o', (b, o') ∉ m) → ∃ m', OTs K F (vs.set k w) (ts.set k u') m' ∧ ∀ b o, (b, o) ∈ m' → ((b, o) ∈ m ∧ ∀ o', (b, o') ∉ mu) ∨ (b, o) ∈ mu'
  | _, _, _, _, _, .nil, e => by simp at e
  | _, _, _, 0, u, .cons (v := v) (m := m1) (m' := m2) (vs := vs) (ts := ts) h t a, e => by
    have e : _ = u := Option.some.inj e
    subst e
    refine ⟨v, m1, rfl, h, fun x hx => List.mem_append_left _ hx, fun w u' mu' hw hq => ⟨mu' ++ m2, .cons hw t fun b o o' h1 h2 => ?_, fun b o hm => ?_⟩⟩
    · rcases hq b o h1 with ⟨o2, z⟩ | z
      · exact a b o2 o' z h2
      · exact z o' (List.mem_append_right _ h2)
    · rcases List.mem_append.mp hm with z | z
      · exact .inr z
      · exact .inl ⟨List.mem_append_right _ z, fun o' hz => a b o' o hz z⟩
  | _, _, _, k + 1, u, .cons (v := v) (t := t0) (m := m1) (m' := m2) (vs := vs) (ts := ts) h t a, e => by
    obtain ⟨w, mu, h1, h2, h3, h4⟩ := OTs.at (k := k) (u := u) t (by simpa using e)
    refine ⟨w, mu, by simpa using h1, h2, fun x hx => List.mem_append_right _ (h3 x hx), fun w' u' mu' hw hq => ?_⟩
    obtain ⟨m', q1, q2⟩ := h4 w' u' mu' hw fun b o hm => by
      rcases hq b o hm with z | z
      · exact .inl z
      · exact .inr fun o' hz => z o' (List.mem_append_right _ hz)
    refine ⟨m1 ++ m', .cons h q1 fun b o o' z1 z2 => ?_, fun b o hm => ?_⟩
    · rcases q2 b o' z2 with ⟨z, _⟩ | z
      · exact a b o o' z1 z
      · rcases hq b o' z with ⟨o2, z3⟩ | z3
        · exact a b o o2 z1 (h3 _ z3)
        · exact z3 o (List.mem_append_left _ z1)
    · rcases List.mem_append.mp hm with z | z
      · exact .inl ⟨List.mem_append_left _ z, fun o' hz => a b o o' z (h3 _ hz)⟩
      · rcases q2 b o z with ⟨z1, z2⟩ | z1
        · exact .inl ⟨List.mem_append_right _ z1, z2⟩
        · exact .inr z1
/-- the first k items alone -/
theorem OTs.take : ∀ {vs : List V} {ts : List T} {m : Mini} (k : Nat), OTs K F vs ts m → ∃ m', OTs K F (vs.take k) (ts.take k) m' ∧ ∀ x, x ∈ m' → x ∈ m
  | _, _, _, 0, _ => ⟨[], .nil, fun _ h => nomatch h⟩
  | _, _, _, _ + 1, .nil => ⟨[], .nil, fun _ h => nomatch h⟩
  | _, _, _, k + 1, .cons (m := m1) h t a => by
    obtain ⟨m', q1, q2⟩ := OTs.take k t
    refine ⟨m1 ++ m', .cons h q1 fun b o o' z1 z2 => a b o o' z1 (q2 _ z2), fun x hx => ?_⟩
    rcases List.mem_append.mp hx with z | z
    · exact List.mem_append_left _ z
    · exact List.mem_append_right _ (q2 _ z)
end
/-! ### parts of a tree -/
def T.at? : T → List Nat → Option T
  | t, [] => some t
  | .lst _ ts, k :: π => match ts[k]? with
    | some t => t.at? π
    | none => none
  | .tup _ ts, k :: π => match ts[k]? with
    | some t => t.at? π
    | none => none
  | .fz _, _ :: _ => none
def T.put : T → List Nat → T → T
  | _, [], u => u
  | .lst l ts, k :: π, u => match ts[k]? with
    | some t => .lst l (ts.set k (t.put π u))
    | none => .lst l ts
  | .tup l ts, k :: π, u => match ts[k]? with
    | some t => .tup l (ts.set k (t.put π u))
    | none => .tup l ts
  | .fz d, _ :: _, _ => .fz d
/-- the value that stands there -/
def NodeV (H : Hp) : V → List Nat → V → Prop
  | v, [], w => v = w
  | v, k :: π, w => ∃ a vs u, v = .ref a ∧ (H a = some (.lst vs) ∨ H a = some (.tup vs)) ∧ vs[k]? = some u ∧ NodeV H u π w
theorem NodeV.same {H H' : Hp} (e : Same H H') : ∀ {π : List Nat} {v w : V}, NodeV H v π w → NodeV H' v π w
  | [], _, _, h => h
  | k :: π, _, _, ⟨a, vs, u, h1, h2, h3, h4⟩ => ⟨a, vs, u, h1, h2.imp (e _ _) (e _ _), h3, NodeV.same e h4⟩
theorem NodeV.inj {H : Hp} : ∀ {π : List Nat} {v w w' : V}, NodeV H v π w → NodeV H v π w' → w = w'
  | [], _, _, _, h, h' => h.symm.trans h'
  | k :: π, _, _, _, ⟨a, vs, u, h1, h2, h3, h4⟩, ⟨a', vs', u', h1', h2', h3', h4'⟩ => by
    have e : a = a' := V.ref.inj (h1.symm.trans h1')
    subst e
    have e : vs = vs' := by
      rcases h2 with h2 | h2 <;> rcases h2' with h2' | h2' <;> rw [h2] at h2' <;> cases h2' <;> rfl
    subst e
    rw [h3] at h3'; cases h3'
    exact NodeV.inj h4 h4'
theorem NodeV.snoc {H : Hp} : ∀ {π : List Nat} {v w : V} {a : Addr} {vs : List V} {k : Nat} {u : V}, NodeV H v π w → w = .ref a → (H a = some (.lst vs) ∨ H a = some (.tup vs)) → vs[k]? = some u → NodeV H v (π ++ [k]) u
  | [], _, _, a, vs, k, u, h, e, h2, h3 => by
    have h' : _ = _ := h
    subst h'
    exact ⟨a, vs, u, e, h2, h3, rfl⟩
  | j :: π, _, _, _, _, _, _, ⟨a, vs, u, h1, h2, h3, h4⟩, e, h5, h6 => ⟨a, vs, u, h1, h2, h3, NodeV.snoc h4 e h5 h6⟩
theorem at_snoc : ∀ {π : List Nat} {t u : T} {k : Nat} {w : T}, t.at? π = some u → u.at? [k] = some w → t.at? (π ++ [k]) = some w
  | [], t, u, k, w, h, h' => by
    have e : t = u := Option.some.inj (by simpa [T.at?] using h)
    subst e
    exact h'
  | j :: π, .fz d, u, k, w, h, _ => by simp [T.at?] at h
  | j :: π, .lst l ts, u, k, w, h, h' => by
    simp only [T.at?, List.cons_append] at h ⊢
    cases q : ts[j]? with
    | none => rw [q] at h; cases h
    | some t => rw [q] at h; exact at_snoc h h'
  | j :: π, .tup l ts, u, k, w, h, h' => by
    simp only [T.at?, List.cons_append] at h ⊢
    cases q : ts[j]? with
    | none => rw [q] at h; cases h
    | some t => rw [q] at h; exact at_snoc h h'
section
variable {K : PySem.W.Frag} {F H : Hp}
theorem OT.get : ∀ {π : List Nat} {t u : T} {v : V} {m : Mini}, OT K F v t m → (∀ a o, (a, o) ∈ m → H a = some o) → t.at? π = some u → ∃ w m1, NodeV H v π w ∧ OT K F w u m1 ∧ ∀ x, x ∈ m1 → x ∈ m
  | [], t, u, v, m, h, _, e => by
    have e : t = u := Option.some.inj (by simpa [T.at?] using e)
    subst e
    exact ⟨v, m, rfl, h, fun _ z => z⟩
  | k :: π, .fz d, u, v, m, h, _, e => by simp [T.at?] at e
  | k :: π, .lst l ts, u, v, m, h, q, e => by
    simp only [T.at?] at e
    cases z : ts[k]? with
    | none => rw [z] at e; cases e
    | some t =>
      rw [z] at e
      cases h with
      | @lst a l vs ts m1 h1 h2 h3 =>
        obtain ⟨w, mu, g1, g2, g3, _⟩ := h2.at z
        obtain ⟨x, m2, k1, k2, k3⟩ := OT.get g2 (fun a o hm => q a o (List.mem_cons_of_mem _ (g3 _ hm))) e
        exact ⟨x, m2, ⟨a, vs, w, rfl, .inl (q _ _ List.mem_cons_self), g1, k1⟩, k2, fun y hy => List.mem_cons_of_mem _ (g3 _ (k3 y hy))⟩
  | k :: π, .tup l ts, u, v, m, h, q, e => by
    simp only [T.at?] at e
    cases z : ts[k]? with
    | none => rw [z] at e; cases e
    | some t =>
      rw [z] at e
      cases h with
      | @tup a l vs ts m1 h1 h2 h3 =>
        obtain ⟨w, mu, g1, g2, g3, _⟩ := h2.at z
        obtain ⟨x, m2, k1, k2, k3⟩ := OT.get g2 (fun a o hm => q a o (List.mem_cons_of_mem _ (g3 _ hm))) e
        exact ⟨x, m2, ⟨a, vs, w, rfl, .inr (q _ _ List.mem_cons_self), g1, k1⟩, k2, fun y hy => List.mem_cons_of_mem _ (g3 _ (k3 y hy))⟩
/-- a list within a tree: what comes of other items there -/
theorem OT.mut : ∀ {π : List Nat} {t : T} {l : Option Addr} {ts : List T} {v : V} {m : Mini}, OT K F v t m → t.at? π = some (.lst l ts) → ∃ a vs m1, (a, HO.lst vs) ∈ m ∧ (∀ q, l = some q → a = q) ∧ OTs K F vs ts m1 ∧ (∀ x, x ∈ m1 → x ∈ m) ∧ (∀ o, (a, o) ∉ m1) ∧
    (∀ H : Hp, (∀ b o, (b, o) ∈ m → H b = some o) → NodeV H v π (.ref a)) ∧
    ∀ (l' : Option Addr) (vs' : List V) (ts' : List T) (m2 : Mini), (∀ q, l' = some q → a = q) → OTs K F vs' ts' m2 → (∀ b o, (b, o) ∈ m2 → b ≠ a ∧ ((b, o) ∈ m1 ∨ ∀ o', (b, o') ∉ m)) →
      ∃ m', OT K F v (t.put π (.lst l' ts')) m' ∧ ∀ b o, (b, o) ∈ m' → (b ≠ a ∧ (b, o) ∈ m) ∨ (b = a ∧ o = .lst vs') ∨ (b, o) ∈ m2
  | [], t, l, ts, v, m, h, e => by
    have e : t = .lst l ts := Option.some.inj (by simpa [T.at?] using e)
    subst e
    cases h with
    | @lst a l vs ts m1 h1 h2 h3 =>
      refine ⟨a, vs, m1, List.mem_cons_self, h1, h2, fun x hx => List.mem_cons_of_mem _ hx, h3, fun H _ => rfl, fun l' vs' ts' m2 hl' q1 q2 => ⟨(a, .lst vs') :: m2, by rw [T.put]; exact .lst hl' q1 fun o z => (q2 a o z).1 rfl, fun b o hm => ?_⟩⟩
      rcases List.mem_cons.mp hm with z | z
      · cases z; exact .inr (.inl ⟨rfl, rfl⟩)
      · exact .inr (.inr z)
  | k :: π, .fz d, l, ts, v, m, h, e => by simp [T.at?] at e
  | k :: π, .lst l0 us, l, ts, v, m, h, e => by
    simp only [T.at?] at e
    cases z : us[k]? with
    | none => rw [z] at e; cases e
    | some t =>
      rw [z] at e
      cases h with
      | @lst a0 _ vs0 _ mm h1 h2 h3 =>
        obtain ⟨w, mu, g1, g2, g3, g4⟩ := h2.at z
        obtain ⟨a, vs, m1, k1, k2, k3, k4, k5, k6, k7⟩ := OT.mut g2 e
        have na : a ≠ a0 := fun x => by subst x; exact h3 _ (g3 _ k1)
        refine ⟨a, vs, m1, List.mem_cons_of_mem _ (g3 _ k1), k2, k3, fun x hx => List.mem_cons_of_mem _ (g3 _ (k4 x hx)), k5, fun H q => ⟨a0, vs0, w, rfl, .inl (q _ _ List.mem_cons_self), g1, k6 H fun b o hm => q b o (List.mem_cons_of_mem _ (g3 _ hm))⟩, fun l' vs' ts' m2 hl' q1 q2 => ?_⟩
        obtain ⟨mu', r1, r2⟩ := k7 l' vs' ts' m2 hl' q1 fun b o hm => ⟨(q2 b o hm).1, (q2 b o hm).2.imp id fun hz o' hm' => hz o' (List.mem_cons_of_mem _ (g3 _ hm'))⟩
        have out : ∀ b o, (b, o) ∈ mu' → (∃ o', (b, o') ∈ mu) ∨ ∀ o', (b, o') ∉ mm := fun b o hm => by
          rcases r2 b o hm with ⟨_, y⟩ | ⟨rfl, _⟩ | y
          · exact .inl ⟨o, y⟩
          · exact .inl ⟨_, k1⟩
          · rcases (q2 b o y).2 with y' | y'
            · exact .inl ⟨o, k4 _ y'⟩
            · exact .inr fun o' hz => y' o' (List.mem_cons_of_mem _ hz)
        obtain ⟨m', s1, s2⟩ := g4 w _ mu' r1 out
        have es : vs0.set k w = vs0 := by
          apply List.ext_getElem?
          intro i
          by_cases hi : k = i
          · subst hi
            rw [List.getElem?_set_self (List.getElem?_eq_some_iff.mp g1).1, g1]
          · rw [List.getElem?_set_ne hi]
        rw [es] at s1
        refine ⟨(a0, .lst vs0) :: m', ?_, fun b o hm => ?_⟩
        · rw [T.put, z]
          refine .lst h1 s1 fun o hm => ?_
          rcases s2 a0 o hm with ⟨y, _⟩ | y
          · exact h3 o y
          · rcases r2 a0 o y with ⟨_, y'⟩ | ⟨y', _⟩ | y'
            · exact h3 o (g3 _ y')
            · exact na y'.symm
            · rcases (q2 a0 o y').2 with y2 | y2
              · exact h3 o (g3 _ (k4 _ y2))
              · exact y2 _ List.mem_cons_self
        · rcases List.mem_cons.mp hm with y | y
          · cases y
            exact .inl ⟨Ne.symm na, List.mem_cons_self⟩
          · rcases s2 b o y with ⟨y1, y2⟩ | y1
            · exact .inl ⟨fun x => by subst x; exact y2 _ k1, List.mem_cons_of_mem _ y1⟩
            · rcases r2 b o y1 with ⟨x1, x2⟩ | x | x
              · exact .inl ⟨x1, List.mem_cons_of_mem _ (g3 _ x2)⟩
              · exact .inr (.inl x)
              · exact .inr (.inr x)
  | k :: π, .tup l0 us, l, ts, v, m, h, e => by
    simp only [T.at?] at e
    cases z : us[k]? with
    | none => rw [z] at e; cases e
    | some t =>
      rw [z] at e
      cases h with
      | @tup a0 _ vs0 _ mm h1 h2 h3 =>
        obtain ⟨w, mu, g1, g2, g3, g4⟩ := h2.at z
        obtain ⟨a, vs, m1, k1, k2, k3, k4, k5, k6, k7⟩ := OT.mut g2 e
        have na : a ≠ a0 := fun x => by subst x; exact h3 _ (g3 _ k1)
        refine ⟨a, vs, m1, List.mem_cons_of_mem _ (g3 _ k1), k2, k3, fun x hx => List.mem_cons_of_mem _ (g3 _ (k4 x hx)), k5, fun H q => ⟨a0, vs0, w, rfl, .inr (q _ _ List.mem_cons_self), g1, k6 H fun b o hm => q b o (List.mem_cons_of_mem _ (g3 _ hm))⟩, fun l' vs' ts' m2 hl' q1 q2 => ?_⟩
        obtain ⟨mu', r1, r2⟩ := k7 l' vs' ts' m2 hl' q1 fun b o hm => ⟨(q2 b o hm).1, (q2 b o hm).2.imp id fun hz o' hm' => hz o' (List.mem_cons_of_mem _ (g3 _ hm'))⟩
        have out : ∀ b o, (b, o) ∈ mu' → (∃ o', (b, o') ∈ mu) ∨ ∀ o', (b, o') ∉ mm := fun b o hm => by
          rcases r2 b o hm with ⟨_, y⟩ | ⟨rfl, _⟩ | y
          · exact .inl ⟨o, y⟩
          · exact .inl ⟨_, k1⟩
          · rcases (q2 b o y).2 with y' | y'
            · exact .inl ⟨o, k4 _ y'⟩
            · exact .inr fun o' hz => y' o' (List.mem_cons_of_mem _ hz)
        obtain ⟨m', s1, s2⟩ := g4 w _ mu' r1 out
        have es : vs0.set k w = vs0 := by
          apply List.ext_getElem?
          intro i
          by_cases hi : k = i
          · subst hi
            rw [List.getElem?_set_self (List.getElem?_eq_some_iff.mp g1).1, g1]
          · rw [List.getElem?_set_ne hi]
        rw [es] at s1
        refine ⟨(a0, .tup vs0) :: m', ?_, fun b o hm => ?_⟩
        · rw [T.put, z]
          refine .tup h1 s1 fun o hm => ?_
          rcases s2 a0 o hm with ⟨y, _⟩ | y
          · exact h3 o y
          · rcases r2 a0 o y with ⟨_, y'⟩ | ⟨y', _⟩ | y'
            · exact h3 o (g3 _ y')
            · exact na y'.symm
            · rcases (q2 a0 o y').2 with y2 | y2
              · exact h3 o (g3 _ (k4 _ y2))
              · exact y2 _ List.mem_cons_self
        · rcases List.mem_cons.mp hm with y | y
          · cases y
            exact .inl ⟨Ne.symm na, List.mem_cons_self⟩
          · rcases s2 b o y with ⟨y1, y2⟩ | y1
            · exact .inl ⟨fun x => by subst x; exact y2 _ k1, List.mem_cons_of_mem _ y1⟩
            · rcases r2 b o y1 with ⟨x1, x2⟩ | x | x
              · exact .inl ⟨x1, List.mem_cons_of_mem _ (g3 _ x2)⟩
              · exact .inr (.inl x)
              · exact .inr (.inr x)
end
/-- a name that owns a tree -/
def tr (t : T) : Slot := ⟨fun K F v m => OT K F v t m, fun _ _ _ _ _ e h => OT.mono e _ _ _ h⟩
/-- a name that holds what stands at l -/
def adr (l : Addr) : Slot := ⟨fun _ _ v m => m = [] ∧ v = .ref l, fun _ _ _ _ _ _ h => h⟩
end PV

/-! The pure-value layer: rules for trees. -/
namespace PV
open PySem PySem.Spec PyProof.Rows L2
/-- the frozen part with the objects of m -/
noncomputable def addM (F : Hp) (H : Hp) (m : Mini) : Hp := fun a => open Classical in if (∃ o, (a, o) ∈ m) then H a else F a
section
variable {F H : Hp} {m : Mini}
theorem addM_in {a : Addr} {o : HO} (h : (a, o) ∈ m) : addM F H m a = H a := if_pos ⟨o, h⟩
theorem addM_out {a : Addr} (h : ∀ o, (a, o) ∉ m) : addM F H m a = F a := if_neg fun ⟨o, z⟩ => h o z
theorem addM_cases (a : Addr) : (∃ o, (a, o) ∈ m) ∨ ∀ o, (a, o) ∉ m := by
  by_cases h : ∃ o, (a, o) ∈ m
  · exact .inl h
  · exact .inr fun o z => h ⟨o, z⟩
theorem addM_sub (s : Same F H) : Same (addM F H m) H := fun a o e => by
  rcases addM_cases (m := m) a with ⟨u, z⟩ | z
  · rw [addM_in z] at e; exact e
  · rw [addM_out z] at e; exact s a o e
theorem addM_ge (n : ∀ a o, (a, o) ∈ m → F a = none) : Same F (addM F H m) := fun a o e => by
  rw [addM_out fun u z => ?_]
  · exact e
  · have := n a u z
    rw [this] at e; cases e
theorem addM_dq {K : PySem.W.Frag} (s : Same F H) (n : ∀ a o, (a, o) ∈ m → F a = none) (hm : ∀ a o, (a, o) ∈ m → H a = some o) {t : T} {v : V} (h : OT K F v t m) : Dq K (addM F H m) v t.er :=
  OT.dq (addM_ge n) t v m h fun a o z => by rw [addM_in z]; exact hm a o z
end
section
variable {K : PySem.W.Frag} {B F0 F F' H H' : Hp} {ρ : Env} {σ : St} {M : Nat → Mini}
/-- what a name owns is frozen -/
theorem PInv.freezeT {i : Nat} {t : T} (x : PInv K B F0 ρ F σ H M) (hi : ρ[i]? = some (some (tr t))) : ∃ F' M', PInv K B F0 (ρ.set i (some (fz t.er))) F' σ H M' := by
  obtain ⟨v, hσ, h⟩ := x.ok.at_ i _ hi
  have hH : ∀ a o, (a, o) ∈ M i → H a = some o := fun a o z => (x.ok.own i a o z).1
  have hF : ∀ a o, (a, o) ∈ M i → F a = none := fun a o z => (x.ok.own i a o z).2
  have sF := addM_ge (H := H) hF
  refine ⟨addM F H (M i), upM M i [], ⟨by rw [List.length_set]; exact x.ok.len, addM_sub x.ok.sub, fun j T h' => ?_, fun j b o h' => ?_, fun j k b o o' h1 h2 => ?_⟩, x.base, x.f0.trans sF, fun b u h1 h2 => ?_, fun j b o h' => ?_⟩
  · by_cases hj : j = i
    · subst hj
      have hl : j < ρ.length := (List.getElem?_eq_some_iff.mp hi).1
      rw [List.getElem?_set_self hl] at h'
      cases h'
      exact ⟨_, hσ, upM_same, addM_dq x.ok.sub hF hH h⟩
    · rw [List.getElem?_set_ne (Ne.symm hj)] at h'
      obtain ⟨u, h1, h2⟩ := x.ok.at_ j T h'
      exact ⟨u, h1, by rw [upM_ne hj]; exact T.mono K F _ u _ sF h2⟩
  · by_cases hj : j = i
    · subst hj; rw [upM_same] at h'; cases h'
    · rw [upM_ne hj] at h'
      have z := x.ok.own j b o h'
      refine ⟨z.1, ?_⟩
      rw [addM_out fun u hu => hj (x.ok.apart j i b o u h' hu)]
      exact z.2
  · by_cases hj : j = i
    · subst hj; rw [upM_same] at h1; cases h1
    · by_cases hk : k = i
      · subst hk; rw [upM_same] at h2; cases h2
      · rw [upM_ne hj] at h1; rw [upM_ne hk] at h2
        exact x.ok.apart j k b o o' h1 h2
  · rcases addM_cases (m := M i) b with ⟨u', z⟩ | z
    · exact x.mb i b u' z
    · rw [addM_out z] at h1; exact x.nb b u h1 h2
  · by_cases hj : j = i
    · subst hj; rw [upM_same] at h'; cases h'
    · rw [upM_ne hj] at h'; exact x.mb j b o h'
/-- one object changes, with it what a name owns -/
theorem PInv.change {i : Nat} {S S' : Slot} {v : V} {a : Addr} {o o' : HO} {m' : Mini} (x : PInv K B F0 ρ F σ H M) (hi : ρ[i]? = some (some S)) (hσ : σ[i]? = some (some v)) (ha : (a, o) ∈ M i) (hS : S'.R K F v m')
    (hm : ∀ b u, (b, u) ∈ m' → (upd H a o') b = some u ∧ F b = none ∧ B b = none ∧ ∀ (j : Nat) (u' : HO), j ≠ i → (b, u') ∉ M j) : PInv K B F0 (ρ.set i (some S')) F σ (upd H a o') (upM M i m') := by
  have hF : F a = none := (x.ok.own i a _ ha).2
  have hB : B a = none := x.mb i a _ ha
  refine ⟨⟨by rw [List.length_set]; exact x.ok.len, fun b u e => ?_, fun j T h => ?_, fun j b u h => ?_, fun j k b u u' h h' => ?_⟩, fun b u e => ?_, x.f0, x.nb, fun j b u h => ?_⟩
  · rw [upd_ne (ne_of_none e hF)]; exact x.ok.sub b u e
  · by_cases hj : j = i
    · subst hj
      have hl : j < ρ.length := (List.getElem?_eq_some_iff.mp hi).1
      rw [List.getElem?_set_self hl] at h
      cases h
      exact ⟨v, hσ, by rw [upM_same]; exact hS⟩
    · rw [List.getElem?_set_ne (Ne.symm hj)] at h
      obtain ⟨w, h1, h2⟩ := x.ok.at_ j T h
      exact ⟨w, h1, by rw [upM_ne hj]; exact h2⟩
  · by_cases hj : j = i
    · subst hj; rw [upM_same] at h; exact ⟨(hm b u h).1, (hm b u h).2.1⟩
    · rw [upM_ne hj] at h
      have hb : b ≠ a := fun z => by subst z; exact hj (x.ok.apart j i b _ _ h ha)
      rw [upd_ne hb]; exact x.ok.own j b u h
  · by_cases hj : j = i
    · by_cases hk : k = i
      · rw [hj, hk]
      · subst hj; rw [upM_same] at h; rw [upM_ne hk] at h'
        exact absurd h' ((hm b u h).2.2.2 k u' hk)
    · by_cases hk : k = i
      · subst hk; rw [upM_same] at h'; rw [upM_ne hj] at h
        exact absurd h ((hm b u' h').2.2.2 j u hj)
      · rw [upM_ne hj] at h; rw [upM_ne hk] at h'
        exact x.ok.apart j k b u u' h h'
  · rw [upd_ne (ne_of_none e hB)]; exact x.base b u e
  · by_cases hj : j = i
    · subst hj; rw [upM_same] at h; exact (hm b u h).2.2.1
    · rw [upM_ne hj] at h; exact x.mb j b u h
end

/-- an expression that makes a tree: what it owns is new -/
structure FrT (X : Cx) (W : Wc) (ρ : Env) (e : Expr) (t : T) : Prop where
  run : ∀ (pins : List (Addr × Obj)) (s : Shared) (σ : St) (F H : Hp) (M : Nat → Mini) (Q : VK), Inv X pins σ H s → EOk X.K ρ F σ H M →
    (∀ v F' H' m, Ext F H F' H' → OT X.K F' v t m → (∀ a o, (a, o) ∈ m → H' a = some o ∧ F' a = none ∧ H a = none) → Q v H') →
    wpAny (model X.prog X.w) X.A (eval e X.env) (EP X pins σ Q) X.xe s
instance coFrT {X : Cx} {W : Wc} {ρ : Env} {e : Expr} {t : T} : CoeFun (FrT X W ρ e t) fun _ => ∀ (pins : List (Addr × Obj)) (s : Shared) (σ : St) (F H : Hp) (M : Nat → Mini) (Q : VK), Inv X pins σ H s → EOk X.K ρ F σ H M →
    (∀ v F' H' m, Ext F H F' H' → OT X.K F' v t m → (∀ a o, (a, o) ∈ m → H' a = some o ∧ F' a = none ∧ H a = none) → Q v H') →
    wpAny (model X.prog X.w) X.A (eval e X.env) (EP X pins σ Q) X.xe s := ⟨fun h => h.run⟩
def tFrT (X : Cx) (ρ : Env) (t : T) : TE := fun σ H Q => ∃ F M, EOk X.K ρ F σ H M ∧ (∀ v F' H' m, Ext F H F' H' → OT X.K F' v t m → (∀ a o, (a, o) ∈ m → H' a = some o ∧ F' a = none ∧ H a = none) → Q v H')
structure FrTA (X : Cx) (W : Wc) (ρ : Env) (es : List Expr) (ts : List T) : Prop where
  run : ∀ (pos : Pos) (pins : List (Addr × Obj)) (s : Shared) (σ : St) (F H : Hp) (M : Nat → Mini) (Q : List V → Hp → Prop), Inv X pins σ H s → EOk X.K ρ F σ H M →
    (∀ vs F' H' m, Ext F H F' H' → OTs X.K F' vs ts m → (∀ a o, (a, o) ∈ m → H' a = some o ∧ F' a = none ∧ H a = none) → Q vs H') →
    wpAny (model X.prog X.w) X.A (spliced (backTo pos (starEach es X.env))) (AP X pins σ Q) X.xe s
instance coFrTA {X : Cx} {W : Wc} {ρ : Env} {es : List Expr} {ts : List T} : CoeFun (FrTA X W ρ es ts) fun _ => ∀ (pos : Pos) (pins : List (Addr × Obj)) (s : Shared) (σ : St) (F H : Hp) (M : Nat → Mini) (Q : List V → Hp → Prop), Inv X pins σ H s → EOk X.K ρ F σ H M →
    (∀ vs F' H' m, Ext F H F' H' → OTs X.K F' vs ts m → (∀ a o, (a, o) ∈ m → H' a = some o ∧ F' a = none ∧ H a = none) → Q vs H') →
    wpAny (model X.prog X.w) X.A (spliced (backTo pos (starEach es X.env))) (AP X pins σ Q) X.xe s := ⟨fun h => h.run⟩
def tFrTA (X : Cx) (ρ : Env) (ts : List T) : TA := fun σ H Q => ∃ F M, EOk X.K ρ F σ H M ∧ (∀ vs F' H' m, Ext F H F' H' → OTs X.K F' vs ts m → (∀ a o, (a, o) ∈ m → H' a = some o ∧ F' a = none ∧ H a = none) → Q vs H')
section
variable {X : Cx} {W : Wc} {ρ : Env} {e a b : Expr} {es : List Expr} {pos p : Pos} {C : Ec → Addr} {k : Nat} {rest : List Stmt} {Φ : Out → Prop}
theorem FrT.pe {t : T} (h : FrT X W ρ e t) : PE X e (tFrT X ρ t) := ⟨fun pins s σ H Q I ⟨F, M, ok, h1⟩ => h pins s σ F H M Q I ok h1⟩
theorem FrTA.pa {ts : List T} (h : FrTA X W ρ es ts) : PA X es (tFrTA X ρ ts) := ⟨fun pos pins s σ H Q I ⟨F, M, ok, h1⟩ => h pos pins s σ F H M Q I ok h1⟩
theorem Ev.t {d : PyData} (h : Ev X W ρ e d) : FrT X W ρ e (.fz d) := ⟨fun pins s σ F H M Q I ok q => h pins s σ F H M Q I ok (fun d' hd v F' H' x dv => by cases hd; exact q v F' H' [] x (.fz dv) fun _ _ z => nomatch z) fun c hc => nomatch hc⟩
theorem Fr.t {ds : List PyData} (h : Fr X W ρ e ds) : FrT X W ρ e (.lst none (ds.map T.fz)) := ⟨fun pins s σ F H M Q I ok q => h pins s σ F H M Q I ok fun a vs F' H' x n n' ha dv =>
  q _ F' H' [(a, .lst vs)] x (.lst (fun _ z => nomatch z) (OTs.ofDq dv) fun _ z => nomatch z) fun b o hm => by
    have z : (b, o) = (a, HO.lst vs) := by simpa using hm
    cases z
    exact ⟨ha, n', n⟩⟩
theorem ta_nil : FrTA X W ρ [] [] := ⟨fun pos pins s σ F H M Q I ok h => pa_nil.run pos pins s σ H Q I (h _ F H [] (.refl ok.sub) .nil fun _ _ z => nomatch z)⟩
theorem ta_cons {t : T} {ts : List T} (ha : FrT X W ρ e t) (hr : FrTA X W ρ es ts) (hs : starEach (e :: es) X.env = (false, eval e X.env) :: starEach es X.env := by rfl) : FrTA X W ρ (e :: es) (t :: ts) :=
  ⟨fun pos pins s σ F H M Q I ok h => (pa_cons ha.pe hr.pa hs).run pos pins s σ H Q I ⟨F, M, ok, fun v F1 H1 m1 x1 h1 q1 => ⟨F1, M, ok.ext x1, fun vs F2 H2 m2 x2 h2 q2 => by
    refine h (v :: vs) F2 H2 (m1 ++ m2) (x1.trans x2) (.cons (OT.mono x2.f _ _ _ h1) h2 fun b o o' z1 z2 => ?_) fun b o hm => ?_
    · have y := (q1 b o z1).1
      rw [(q2 b o' z2).2.2] at y; cases y
    · rcases List.mem_append.mp hm with z | z
      · obtain ⟨y1, y2, y3⟩ := q1 b o z
        refine ⟨x2.h _ _ y1, ?_, y3⟩
        cases q : F2 b with
        | none => rfl
        | some u =>
          have z := x2.new b u q y2
          rw [z] at y1; cases y1
      · obtain ⟨y1, y2, y3⟩ := q2 b o z
        exact ⟨y1, y2, x1.h.free y3⟩⟩⟩⟩
theorem ot_keep {F F' H H' : Hp} {m : Mini} (x : Ext F H F' H') (q : ∀ a o, (a, o) ∈ m → H a = some o ∧ F a = none) : ∀ a o, (a, o) ∈ m → H' a = some o ∧ F' a = none := fun a o z => by
  obtain ⟨y1, y2⟩ := q a o z
  refine ⟨x.h _ _ y1, ?_⟩
  cases w : F' a with
  | none => rfl
  | some u =>
    have z := x.new a u w y2
    rw [z] at y1; cases y1
/-- a tuple, a list of trees -/
theorem t_tup {kk : Nat} {ts : List T} (ha : FrTA X W ρ es ts) (c : ts.length ≤ sizeLine := by exact PV.small (by simp)) : FrT X W ρ (.Tuple es kk pos) (.tup none ts) :=
  ⟨fun pins s σ F H M Q I ok h => (pe_tup ha.pa).run pins s σ H Q I ⟨F, M, ok, fun vs F1 H1 m x1 h1 q1 => ⟨by rw [h1.len]; exact c, fun l hl => by
    have x2 := Ext.beside (o := .tup vs) x1.sub hl
    refine h (.ref l) F1 _ ((l, .tup vs) :: m) (x1.trans x2) (.tup (fun _ z => nomatch z) h1 fun o z => ?_) fun b o hm => ?_
    · have y := (q1 l o z).1
      rw [hl] at y; cases y
    · rcases List.mem_cons.mp hm with z | z
      · cases z
        exact ⟨upd_same, x1.sub.free hl, x1.h.free hl⟩
      · obtain ⟨y1, y2, y3⟩ := q1 b o z
        exact ⟨x2.h _ _ y1, y2, y3⟩⟩⟩⟩
theorem t_lst {ts : List T} (ha : FrTA X W ρ es ts) (c : ts.length ≤ sizeLine := by exact PV.small (by simp)) : FrT X W ρ (.List es pos) (.lst none ts) :=
  ⟨fun pins s σ F H M Q I ok h => (pe_lst ha.pa).run pins s σ H Q I ⟨F, M, ok, fun vs F1 H1 m x1 h1 q1 => ⟨by rw [h1.len]; exact c, fun l hl => by
    have x2 := Ext.beside (o := .lst vs) x1.sub hl
    refine h (.ref l) F1 _ ((l, .lst vs) :: m) (x1.trans x2) (.lst (fun _ z => nomatch z) h1 fun o z => ?_) fun b o hm => ?_
    · have y := (q1 l o z).1
      rw [hl] at y; cases y
    · rcases List.mem_cons.mp hm with z | z
      · cases z
        exact ⟨upd_same, x1.sub.free hl, x1.h.free hl⟩
      · obtain ⟨y1, y2, y3⟩ := q1 b o z
        exact ⟨x2.h _ _ y1, y2, y3⟩⟩⟩⟩
/-- frozen at once -/
theorem FrT.ev {t : T} (h : FrT X W ρ e t) : Ev X W ρ e t.er := ⟨fun pins s σ F H M Q I ok q _ => h pins s σ F H M Q I ok fun v F' H' m x hv hm => by
  have n1 : ∀ a o, (a, o) ∈ m → F' a = none := fun a o z => (hm a o z).2.1
  have n2 : ∀ a o, (a, o) ∈ m → H' a = some o := fun a o z => (hm a o z).1
  refine q _ rfl v (addM F' H' m) H' ⟨x.f.trans (addM_ge n1), x.h, addM_sub x.sub, fun a o h1 h2 => ?_⟩ (addM_dq x.sub n1 n2 hv)
  rcases addM_cases (m := m) a with ⟨u, z⟩ | z
  · exact (hm a u z).2.2
  · rw [addM_out z] at h1; exact x.new a o h1 h2⟩
/-- x = a tree -/
theorem sxs_setT (i : Nat) {x : Str} {pos' : Pos} {t : T} (he : FrT X W ρ e t) (k : Sxs X W rest (ρ.set i (some (tr t))) Φ) (hN : X.N.Nodup)
    (hi : X.N[i]? = some x := by rfl) (hx : Loc X.env.scope x := by first | exact Or.inl rfl | exact Or.inr rfl) (hs : swapsWith e (some (.Name x pos')) pos.line X.env = pure false := by rfl)
    (hf : X.fn x = true ∨ X.env.scope.names.lookup x = some .local := by first | exact .inl rfl | exact .inr rfl) :
    Sxs X W (.Assign [.Name x pos'] e pos :: rest) ρ Φ :=
  sxs_of (ps_set hN hi hx he.pe hs hf) fun σ F H M B F0 D ok q => ⟨F, M, ok.ok, fun v F' H' m x hv hm => by
    have y : PInv X.K B F0 (ρ.set i (some (tr t))) F' (σ.set i (some v)) H' (upM M i m) := (ok.ext x).set hv fun a o z => by
      obtain ⟨y1, y2, y3⟩ := hm a o z
      refine ⟨y1, y2, ok.base.free y3, fun j o' hj hm' => ?_⟩
      have w := (ok.ok.own j a o' hm').1
      rw [y3] at w; cases w
    exact ⟨_, Φ, F', _, B, F0, k, y, q⟩⟩
theorem sxs_freezeT {sts : List Stmt} (i : Nat) {t : T} (hi : ρ[i]? = some (some (tr t))) (h : Sxs X W sts (ρ.set i (some (fz t.er))) Φ) : Sxs X W sts ρ Φ := ⟨fun pins s σ F H M B F0 D I ok q => by
  obtain ⟨F', M', ok'⟩ := ok.freezeT hi
  exact h pins s σ F' H M' B F0 D I ok' q⟩
/-- return of a tree -/
theorem sxs_retT {t : T} (he : FrT X W ρ e t) (k : Φ (.ret (tr t) ρ)) : Sxs X W (.Return (some e) pos :: rest) ρ Φ :=
  sxs_of (ps_ret he.pe) fun σ F H M B F0 D ok q => ⟨F, M, ok.ok, fun v F' H' m x hv hm => q _ k v F' σ H' _ ((ok.ext x).push hv fun a o z => by
    obtain ⟨y1, y2, y3⟩ := hm a o z
    refine ⟨y1, y2, ok.base.free y3, fun j o' hm' => ?_⟩
    have w := (ok.ok.own j a o' hm').1
    rw [y3] at w; cases w)⟩
/-- an owned list as a tree -/
theorem sxs_owT {sts : List Stmt} (i : Nat) {ds : List PyData} (hi : ρ[i]? = some (some (ow none ds))) (h : Sxs X W sts (ρ.set i (some (tr (.lst none (ds.map T.fz))))) Φ) : Sxs X W sts ρ Φ := ⟨fun pins s σ F H M B F0 D I ok q => by
  refine h pins s σ F H M B F0 D I ⟨⟨by rw [List.length_set]; exact ok.ok.len, ok.ok.sub, fun j T hj => ?_, ok.ok.own, ok.ok.apart⟩, ok.base, ok.f0, ok.nb, ok.mb⟩ q
  by_cases hji : j = i
  · subst hji
    have hl : j < ρ.length := (List.getElem?_eq_some_iff.mp hi).1
    rw [List.getElem?_set_self hl] at hj
    cases hj
    obtain ⟨v, hσ, a, vs, rfl, hM, _, dv⟩ := ok.ok.at_ j _ hi
    refine ⟨_, hσ, ?_⟩
    rw [hM]
    exact .lst (fun _ z => nomatch z) (OTs.ofDq dv) fun _ z => nomatch z
  · rw [List.getElem?_set_ne (Ne.symm hji)] at hj
    exact ok.ok.at_ j T hj⟩
/-- a def that hands back a tree -/
theorem t_call {ι : Type} {n : Nat} {ins : ι → List Slot} {pre : ι → Prop} {r : ι → Except Ec Slot → Prop} {x : Str} {j : Nat} {t : T} (c : Ctx X C W k) (G : Callee X.prog X.w X.K X.mg X.base j x (spP X.K C n ins pre r)) (i : ι) (hp : pre i) (hr : ∀ o, r i o → o = .ok (tr t)) (ha : EvAS X W ρ (e :: es) (ins i)) (hj : j ≤ k := by decide) (hn : (ins i).length = n := by rfl)
    (hg : Gl X x := by rfl) (hdb : (x == ("__debug__" : Str)) = false := by decide) (he : starEach (e :: es) X.env = (false, eval e X.env) :: starEach es X.env := by rfl) (hpl : (backTo pos (starEach es X.env)).any (·.1) = false := by rfl) : FrT X W ρ (.Call (.Name x p) (e :: es) [] pos) t :=
  ⟨fun pins s σ F H M Q I ok h1 => call_any c G hj i hp ha hn hg hdb he hpl pins s σ F H M Q I ok (fun S hS v F' H' m x2 hv hm => by
    have e : S = tr t := Except.ok.inj (hr _ hS)
    subst e
    exact h1 v F' H' m x2 hv hm) fun c hc F' H' x2 => nomatch hr _ hc⟩

/-! ### reading -/
/-- a name that owns a tree, read as it stands -/
theorem rv_tr (i : Nat) {x : Str} {pos : Pos} {t : T} (hd : ρ[i]? = some (some (tr t))) (hN : X.N[i]? = some x := by rfl) (hv : Vis X.env.scope x := by first | exact Or.inl rfl | exact Or.inr (Or.inl rfl) | exact Or.inr (Or.inr rfl))
    (h1 : (x == ("__debug__" : Str)) = false := by decide) (h2 : (x == ("__classdict__" : Str)) = false := by decide) : Rv X W ρ (.Name x pos) t.er :=
  ⟨fun pins s σ F H M Q I ok h => (pe_var hN hv h1 h2).run pins s σ H Q I (by
    obtain ⟨v, e, q⟩ := ok.at_ i _ hd
    exact ⟨v, e, h v F H (.refl ok.sub) (OT.dq ok.sub _ _ _ q fun a o z => (ok.own i a o z).1)⟩)⟩
/-- a value without objects -/
def scalar : PyData → Bool
  | .none => true
  | .bool _ => true
  | .int _ => true
  | .str _ => true
  | _ => false
theorem dq_scalar {K : PySem.W.Frag} {H H' : Hp} {v : V} {d : PyData} (h : Dq K H v d) (s : scalar d = true) : Dq K H' v d := by
  cases h with
  | non => exact .non
  | bl b => exact .bl b
  | int i => exact .int i
  | str x => exact .str x
  | lst _ _ => cases s
  | tup _ _ => cases s
  | dct _ _ => cases s
/-- what is read of an item that is no object -/
theorem ev_ixR {ds : List PyData} {i : Int} {d : PyData} (ha : Rv X W ρ a (.list ds)) (hb : Ev X W ρ b (.int i)) (e : atI ds i = some d) (sc : scalar d = true) (hs : PlainIx b := by exact fun _ _ => rfl) : Ev X W ρ (.Subscript a b pos) d :=
  ev1_of (pe_ix ix_list ha.pe hb.pe hs) fun σ F H M Q ok h => ⟨F, M, ok, fun x F1 H1 e1 dx => rd (ok.ext e1) fun y F2 H2 e2 dy => by
    obtain ⟨p, vs, rfl, h1, h2⟩ := dq_lst dx
    obtain ⟨v, h3, h4⟩ := atI_dq h2 e
    exact ⟨p, vs, i, v, rfl, dq_int dy, .inl (same_rd e2.h h1), h3, h v F2 H2 (e1.trans e2) (dq_scalar h4 sc)⟩⟩
theorem ev_ixRT {ds : List PyData} {i : Int} {d : PyData} (ha : Rv X W ρ a (.tuple ds)) (hb : Ev X W ρ b (.int i)) (e : atI ds i = some d) (sc : scalar d = true) (hs : PlainIx b := by exact fun _ _ => rfl) : Ev X W ρ (.Subscript a b pos) d :=
  ev1_of (pe_ix ix_tup ha.pe hb.pe hs) fun σ F H M Q ok h => ⟨F, M, ok, fun x F1 H1 e1 dx => rd (ok.ext e1) fun y F2 H2 e2 dy => by
    obtain ⟨p, vs, rfl, h1, h2⟩ := dq_tup dx
    obtain ⟨v, h3, h4⟩ := atI_dq h2 e
    exact ⟨p, vs, i, v, rfl, dq_int dy, same_seqT e2.h h1, h3, h v F2 H2 (e1.trans e2) (dq_scalar h4 sc)⟩⟩
/-- .. of one that is read on -/
theorem rv_ixL {ds : List PyData} {i : Int} {d : PyData} (ha : Rv X W ρ a (.list ds)) (hb : Ev X W ρ b (.int i)) (e : atI ds i = some d) (hs : PlainIx b := by exact fun _ _ => rfl) : Rv X W ρ (.Subscript a b pos) d :=
  ⟨fun pins s σ F H M Q I ok h => (pe_ix ix_list ha.pe hb.pe hs).run pins s σ H Q I ⟨F, M, ok, fun x F1 H1 e1 dx => rd (ok.ext e1) fun y F2 H2 e2 dy => by
    obtain ⟨p, vs, rfl, h1, h2⟩ := dq_lst dx
    obtain ⟨v, h3, h4⟩ := atI_dq h2 e
    exact ⟨p, vs, i, v, rfl, dq_int dy, .inl (same_rd e2.h h1), h3, h v F2 H2 (e1.trans e2) (dq_mono e2.h _ _ h4)⟩⟩⟩
theorem rv_ixT {ds : List PyData} {i : Int} {d : PyData} (ha : Rv X W ρ a (.tuple ds)) (hb : Ev X W ρ b (.int i)) (e : atI ds i = some d) (hs : PlainIx b := by exact fun _ _ => rfl) : Rv X W ρ (.Subscript a b pos) d :=
  ⟨fun pins s σ F H M Q I ok h => (pe_ix ix_tup ha.pe hb.pe hs).run pins s σ H Q I ⟨F, M, ok, fun x F1 H1 e1 dx => rd (ok.ext e1) fun y F2 H2 e2 dy => by
    obtain ⟨p, vs, rfl, h1, h2⟩ := dq_tup dx
    obtain ⟨v, h3, h4⟩ := atI_dq h2 e
    exact ⟨p, vs, i, v, rfl, dq_int dy, same_seqT e2.h h1, h3, h v F2 H2 (e1.trans e2) (dq_mono e2.h _ _ h4)⟩⟩⟩
theorem ev_lenR {ds : List PyData} (B : Blt X.mg) (ha : Rv X W ρ a (.list ds)) (hg : Gl X "len" := by rfl) (he : starEach (a :: []) X.env = (false, eval a X.env) :: starEach [] X.env := by rfl) : Ev X W ρ (.Call (.Name "len" p) [a] [] pos) (.int ds.length) :=
  ev1_of (pe_callB call_len_seq hg B.len PySem.boot_len (pa_cons ha.pe pa_nil he) (he := he)) fun σ F H M Q ok h => ⟨F, M, ok, fun x F1 H1 e1 dx => by
    obtain ⟨p, vs, rfl, h1, h2⟩ := dq_lst dx
    refine ⟨p, vs, rfl, .inl (.inl h1), ?_⟩
    rw [DqAll_len h2]
    exact h _ F1 H1 e1 (.int _)⟩
/-- a slice that is only read -/
theorem rv_slice {ds : List PyData} {lo hi : Option Expr} {l u : Option Int} {p2 : Pos} (ha : Rv X W ρ a (.list ds)) (hl : EvO X W ρ lo l) (hu : EvO X W ρ hi u) : Rv X W ρ (.Subscript a (.Slice lo hi none p2) pos) (.list (cutD ds l u)) :=
  ⟨fun pins s σ F H M Q I ok h => (pe_slice sl_list ha.pe hl.po hu.po).run pins s σ H Q I ⟨F, M, ok, fun x F1 H1 e1 dx => ⟨F1, M, ok.ext e1, fun F2 H2 e2 => ⟨F2, M, (ok.ext e1).ext e2, fun F3 H3 e3 => by
    obtain ⟨p, vs, rfl, h1, h2⟩ := dq_lst dx
    refine ⟨p, vs, rfl, .inl (same_rd (e2.h.trans e3.h) h1), fun q hq => ?_⟩
    have x := (e1.trans e2).trans e3
    have y := Ext.beside (o := .lst (cutV vs l u)) x.sub hq
    have e : DqAll X.K (upd H3 q (.lst (cutV vs l u))) (cutV vs l u) (cutD ds l u) := by
      have z := dqAll_mono ((e2.h.trans e3.h).trans y.h) _ _ h2
      have w : cutV vs l u = (vs.drop (HT.sIx ds.length 0 l)).take (HT.sIx ds.length ds.length u - HT.sIx ds.length 0 l) := by
        unfold cutV
        rw [DqAll_len h2]
      have z2 := DqAll_take (HT.sIx ds.length ds.length u - HT.sIx ds.length 0 l) (DqAll_drop (HT.sIx ds.length 0 l) z)
      rw [← w] at z2
      exact z2
    exact h _ F3 _ (x.trans y) (.lst (.inl upd_same) e)⟩⟩⟩⟩
/-- a tuple, a list that is only read -/
theorem rv_tup {kk : Nat} {ds : List PyData} (ha : RvA X W ρ es ds) (c : ds.length ≤ sizeLine := by exact PV.small (by simp)) : Rv X W ρ (.Tuple es kk pos) (.tuple ds) :=
  ⟨fun pins s σ F H M Q I ok h => (pe_tup ha.pa).run pins s σ H Q I ⟨F, M, ok, fun vs F1 H1 x1 dvs => ⟨sz_of dvs c, fun l hl => by
    have y := Ext.beside (o := .tup vs) x1.sub hl
    exact h _ F1 _ (x1.trans y) (.tup upd_same (dqAll_mono y.h _ _ dvs))⟩⟩⟩
/-- a call that hands back no object: its arguments may be anything that can be read -/
theorem ev_callS {ι : Type} {n : Nat} {ins : ι → List Slot} {pre : ι → Prop} {r : ι → Except Ec Slot → Prop} {x : Str} {j : Nat} {d : PyData} {ds : List PyData} (c : Ctx X C W k) (G : Callee X.prog X.w X.K X.mg X.base j x (spP X.K C n ins pre r)) (i : ι) (hp : pre i) (hr : ∀ o, r i o → o = .ok (fz d)) (hi : ins i = ds.map fz) (sc : scalar d = true) (ha : RvA X W ρ (e :: es) ds)
    (hj : j ≤ k := by decide) (hn : (ins i).length = n := by rfl)
    (hg : Gl X x := by rfl) (hdb : (x == ("__debug__" : Str)) = false := by decide) (he : starEach (e :: es) X.env = (false, eval e X.env) :: starEach es X.env := by rfl) (hpl : (backTo pos (starEach es X.env)).any (·.1) = false := by rfl) : Ev X W ρ (.Call (.Name x p) (e :: es) [] pos) d := by
  refine ⟨?_⟩
  intro pins s σ F H M Q I ok h1 h2
  obtain ⟨f, fd, ps, hF, hm, hk, hb⟩ := G
  refine (pe_callS (E := WE (fun cls d σ H => ∃ c, cls = .ref (C c) ∧ d = none ∧ W c σ H)) hF (c.room.mono hj) hg hm hk hb (fun σ => passAt c.tk σ) ha.pa hdb he hpl).run pins s σ H Q I ?_
  refine ⟨F, M, ok, fun vs F1 H1 x1 dvs => ⟨i, H1, .refl _, ?_, ?_, hp, fun S hS v F' H' m x2 hv hm => ?_, fun c hc => ?_⟩⟩
  · rw [DqAll_len dvs, ← hn, hi, List.length_map]
  · rw [hi]
    have key : ∀ {vs : List V} {ds : List PyData}, DqAll X.K H1 vs ds → SlotsR X.K H1 vs (ds.map fz) := by
      intro vs ds h
      induction ds generalizing vs with
      | nil => cases h; exact .nil
      | cons d ds ih => cases h with | cons h t => exact .cons ⟨rfl, h⟩ (ih t)
    exact key dvs
  · have e : S = fz d := Except.ok.inj (hr _ hS)
    subst e
    exact h1 d rfl v F1 H' (x1.trans ⟨.refl _, x2.h, x1.sub.trans x2.h, fun a o z1 z2 => by rw [z1] at z2; cases z2⟩) (dq_scalar hv.2 sc)
  · exact nomatch hr _ hc

/-! ### parts of a tree that change -/
/-- e stands for the part π of what the name j owns -/
structure Nd (X : Cx) (W : Wc) (ρ : Env) (e : Expr) (j : Nat) (π : List Nat) : Prop where
  run : ∀ (pins : List (Addr × Obj)) (s : Shared) (σ : St) (F H : Hp) (M : Nat → Mini) (Q : VK), Inv X pins σ H s → EOk X.K ρ F σ H M →
    (∀ r v F' H', σ[j]? = some (some r) → Ext F H F' H' → NodeV H' r π v → Q v H') → wpAny (model X.prog X.w) X.A (eval e X.env) (EP X pins σ Q) X.xe s
instance coNd {X : Cx} {W : Wc} {ρ : Env} {e : Expr} {j : Nat} {π : List Nat} : CoeFun (Nd X W ρ e j π) fun _ => ∀ (pins : List (Addr × Obj)) (s : Shared) (σ : St) (F H : Hp) (M : Nat → Mini) (Q : VK), Inv X pins σ H s → EOk X.K ρ F σ H M →
    (∀ r v F' H', σ[j]? = some (some r) → Ext F H F' H' → NodeV H' r π v → Q v H') → wpAny (model X.prog X.w) X.A (eval e X.env) (EP X pins σ Q) X.xe s := ⟨fun h => h.run⟩
def tNd (X : Cx) (ρ : Env) (j : Nat) (π : List Nat) : TE := fun σ H Q => ∃ F M, EOk X.K ρ F σ H M ∧ (∀ r v F' H', σ[j]? = some (some r) → Ext F H F' H' → NodeV H' r π v → Q v H')
theorem Nd.pe {j : Nat} {π : List Nat} (h : Nd X W ρ e j π) : PE X e (tNd X ρ j π) := ⟨fun pins s σ H Q I ⟨F, M, ok, h1⟩ => h pins s σ F H M Q I ok h1⟩
theorem nd_var (j : Nat) {x : Str} {pos : Pos} {t : T} (hd : ρ[j]? = some (some (tr t))) (hN : X.N[j]? = some x := by rfl) (hv : Vis X.env.scope x := by first | exact Or.inl rfl | exact Or.inr (Or.inl rfl) | exact Or.inr (Or.inr rfl))
    (h1 : (x == ("__debug__" : Str)) = false := by decide) (h2 : (x == ("__classdict__" : Str)) = false := by decide) : Nd X W ρ (.Name x pos) j [] :=
  ⟨fun pins s σ F H M Q I ok h => (pe_var hN hv h1 h2).run pins s σ H Q I (by
    obtain ⟨v, e, q⟩ := ok.at_ j _ hd
    exact ⟨v, e, h v v F H e (.refl ok.sub) rfl⟩)⟩
/-- a name that holds what stands at l -/
theorem nd_adr (i j : Nat) {x : Str} {pos : Pos} {t : T} {l : Addr} {π : List Nat} {ts : List T} (hd : ρ[i]? = some (some (adr l))) (hj : ρ[j]? = some (some (tr t))) (hπ : t.at? π = some (.lst (some l) ts) ∨ t.at? π = some (.tup (some l) ts)) (hN : X.N[i]? = some x := by rfl) (hv : Vis X.env.scope x := by first | exact Or.inl rfl | exact Or.inr (Or.inl rfl) | exact Or.inr (Or.inr rfl))
    (h1 : (x == ("__debug__" : Str)) = false := by decide) (h2 : (x == ("__classdict__" : Str)) = false := by decide) : Nd X W ρ (.Name x pos) j π :=
  ⟨fun pins s σ F H M Q I ok h => (pe_var hN hv h1 h2).run pins s σ H Q I (by
    obtain ⟨v, e, _, ev⟩ := ok.at_ i _ hd
    obtain ⟨r, er, q⟩ := ok.at_ j _ hj
    subst ev
    refine ⟨_, e, h r _ F H er (.refl ok.sub) ?_⟩
    rcases hπ with hπ | hπ
    · obtain ⟨w, m1, n, o1, _⟩ := OT.get q (fun a o z => (ok.own j a o z).1) hπ
      cases o1 with | lst z _ _ => rw [z l rfl] at n; exact n
    · obtain ⟨w, m1, n, o1, _⟩ := OT.get q (fun a o z => (ok.own j a o z).1) hπ
      cases o1 with | tup z _ _ => rw [z l rfl] at n; exact n)⟩
theorem nd_ix {j n : Nat} {π : List Nat} {t : T} {i : Int} {l : Option Addr} {ts : List T} (ha : Nd X W ρ a j π) (hb : Ev X W ρ b (.int i)) (hj : ρ[j]? = some (some (tr t))) (hπ : t.at? π = some (.lst l ts)) (hi : ixN ts.length i = some n) (hs : PlainIx b := by exact fun _ _ => rfl) : Nd X W ρ (.Subscript a b pos) j (π ++ [n]) :=
  ⟨fun pins s σ F H M Q I ok h => (pe_ix ix_list ha.pe hb.pe hs).run pins s σ H Q I ⟨F, M, ok, fun r v F1 H1 er e1 nv => rd (ok.ext e1) fun y F2 H2 e2 dy => by
    obtain ⟨r', er', q⟩ := ok.at_ j _ hj
    rw [er] at er'; cases er'
    obtain ⟨w, m1, n1, o1, sub⟩ := OT.get q (fun a o z => (ok.own j a o z).1) hπ
    have ev := NodeV.inj (n1.same e1.h) nv
    subst ev
    cases o1 with
    | @lst a' _ vs _ m2 z1 z2 z3 =>
      have hH : H a' = some (.lst vs) := (ok.own j _ _ (sub _ List.mem_cons_self)).1
      have hl : n < ts.length := by
        unfold ixN at hi
        split at hi
        · split at hi
          · cases hi; omega
          · cases hi
        · split at hi
          · cases hi; omega
          · cases hi
      obtain ⟨w, hv⟩ : ∃ w, vs[n]? = some w := ⟨_, List.getElem?_eq_getElem (by rw [z2.len]; exact hl)⟩
      refine ⟨a', vs, i, _, rfl, dq_int dy, .of (e2.h _ _ (e1.h _ _ hH)), ?_, h r _ F2 H2 er (e1.trans e2) (NodeV.snoc (nv.same e2.h) rfl (.inl (e2.h _ _ (e1.h _ _ hH))) hv)⟩
      unfold atI
      rw [z2.len, hi]
      exact hv⟩⟩
theorem nd_ixT {j n : Nat} {π : List Nat} {t : T} {i : Int} {l : Option Addr} {ts : List T} (ha : Nd X W ρ a j π) (hb : Ev X W ρ b (.int i)) (hj : ρ[j]? = some (some (tr t))) (hπ : t.at? π = some (.tup l ts)) (hi : ixN ts.length i = some n) (hs : PlainIx b := by exact fun _ _ => rfl) : Nd X W ρ (.Subscript a b pos) j (π ++ [n]) :=
  ⟨fun pins s σ F H M Q I ok h => (pe_ix ix_tup ha.pe hb.pe hs).run pins s σ H Q I ⟨F, M, ok, fun r v F1 H1 er e1 nv => rd (ok.ext e1) fun y F2 H2 e2 dy => by
    obtain ⟨r', er', q⟩ := ok.at_ j _ hj
    rw [er] at er'; cases er'
    obtain ⟨w, m1, n1, o1, sub⟩ := OT.get q (fun a o z => (ok.own j a o z).1) hπ
    have ev := NodeV.inj (n1.same e1.h) nv
    subst ev
    cases o1 with
    | @tup a' _ vs _ m2 z1 z2 z3 =>
      have hH : H a' = some (.tup vs) := (ok.own j _ _ (sub _ List.mem_cons_self)).1
      have hl : n < ts.length := by
        unfold ixN at hi
        split at hi
        · split at hi
          · cases hi; omega
          · cases hi
        · split at hi
          · cases hi; omega
          · cases hi
      obtain ⟨w, hv⟩ : ∃ w, vs[n]? = some w := ⟨_, List.getElem?_eq_getElem (by rw [z2.len]; exact hl)⟩
      refine ⟨a', vs, i, _, rfl, dq_int dy, .of (e2.h _ _ (e1.h _ _ hH)), ?_, h r _ F2 H2 er (e1.trans e2) (NodeV.snoc (nv.same e2.h) rfl (.inr (e2.h _ _ (e1.h _ _ hH))) hv)⟩
      unfold atI
      rw [z2.len, hi]
      exact hv⟩⟩
/-- what can be read there -/
theorem Nd.rv {j : Nat} {π : List Nat} {t u : T} (h : Nd X W ρ e j π) (hj : ρ[j]? = some (some (tr t))) (hπ : t.at? π = some u) : Rv X W ρ e u.er := ⟨fun pins s σ F H M Q I ok q => h pins s σ F H M Q I ok fun r v F' H' er x nv => by
  obtain ⟨r', er', z⟩ := ok.at_ j _ hj
  rw [er] at er'; cases er'
  obtain ⟨w, m1, n1, o1, sub⟩ := OT.get z (fun a o z => (ok.own j a o z).1) hπ
  have ev := NodeV.inj (n1.same x.h) nv
  subst ev
  exact q _ F' H' x (OT.dq (ok.ext x).sub _ _ _ (OT.mono x.f _ _ _ o1) fun a o z => x.h _ _ (ok.own j a o (sub _ z)).1)⟩
/-- frozen data there -/
theorem Nd.ev {j : Nat} {π : List Nat} {t : T} {d : PyData} (h : Nd X W ρ e j π) (hj : ρ[j]? = some (some (tr t))) (hπ : t.at? π = some (.fz d)) : Ev X W ρ e d := ⟨fun pins s σ F H M Q I ok q _ => h pins s σ F H M Q I ok fun r v F' H' er x nv => by
  obtain ⟨r', er', z⟩ := ok.at_ j _ hj
  rw [er] at er'; cases er'
  obtain ⟨w, m1, n1, o1, sub⟩ := OT.get z (fun a o z => (ok.own j a o z).1) hπ
  have ev := NodeV.inj (n1.same x.h) nv
  subst ev
  cases o1 with | fz o1 => exact q d rfl _ F' H' x (dq_mono x.f _ _ o1)⟩
/-- the change itself: a list's values in a tree are others -/
theorem PInv.mutT {K : PySem.W.Frag} {B F0 F H F' H' : Hp} {σ : St} {M : Nat → Mini} {j : Nat} {π : List Nat} {t : T} {l : Option Addr} {ts : List T} {r v : V} (ok : PInv K B F0 ρ F σ H M) (hj : ρ[j]? = some (some (tr t))) (hπ : t.at? π = some (.lst l ts)) (er : σ[j]? = some (some r)) (x : Ext F H F' H') (nv : NodeV H' r π v) :
    ∃ a vs m1, v = .ref a ∧ H' a = some (.lst vs) ∧ OTs K F' vs ts m1 ∧ (∀ b o, (b, o) ∈ m1 → H b = some o) ∧ (∀ q, l = some q → a = q) ∧ ∀ (l' : Option Addr) (vs' : List V) (ts' : List T) (m2 : Mini), (∀ q, l' = some q → a = q) → OTs K F' vs' ts' m2 → (∀ b o, (b, o) ∈ m2 → (b, o) ∈ m1 ∨ (H' b = some o ∧ F' b = none ∧ H b = none)) →
      ∃ M', PInv K B F0 (ρ.set j (some (tr (t.put π (.lst l' ts'))))) F' σ (upd H' a (.lst vs')) M' := by
  obtain ⟨r', er', z⟩ := ok.ok.at_ j _ hj
  rw [er] at er'; cases er'
  have hm : ∀ a o, (a, o) ∈ M j → H a = some o := fun a o z => (ok.ok.own j a o z).1
  have z' : OT K F' r t (M j) := OT.mono x.f _ _ _ z
  obtain ⟨a, vs, m1, k1, k2, k3, k4, k5, k6, g7⟩ := OT.mut z' hπ
  have ev := NodeV.inj ((k6 H hm).same x.h) nv
  subst ev
  refine ⟨a, vs, m1, rfl, x.h _ _ (hm _ _ k1), k3, fun b o z => hm b o (k4 _ z), k2, fun l' vs' ts' m2 hl' o2 q2 => ?_⟩
  have ok' := ok.ext x
  have new : ∀ b o, (b, o) ∈ m2 → b ≠ a ∧ ((b, o) ∈ m1 ∨ ∀ o', (b, o') ∉ M j) := fun b o hb => by
    rcases q2 b o hb with y | ⟨y1, y2, y3⟩
    · exact ⟨fun e => by subst e; exact k5 _ y, .inl y⟩
    · refine ⟨fun e => ?_, .inr fun o' hz => ?_⟩
      · subst e
        have w := hm _ _ k1
        rw [y3] at w; cases w
      · have w := hm _ _ hz
        rw [y3] at w; cases w
  obtain ⟨m', s1, s2⟩ := g7 l' vs' ts' m2 hl' o2 new
  refine ⟨_, ok'.change hj er k1 s1 fun b u hb => ?_⟩
  rcases s2 b u hb with ⟨y1, y2⟩ | ⟨rfl, rfl⟩ | y
  · obtain ⟨w1, w2⟩ := ok'.ok.own j b u y2
    exact ⟨by rw [upd_ne y1]; exact w1, w2, ok'.mb j b u y2, fun i u' hi hz => hi (ok'.ok.apart i j b u' u hz y2)⟩
  · exact ⟨upd_same, (ok'.ok.own j _ _ k1).2, ok'.mb j _ _ k1, fun i u' hi hz => hi (ok'.ok.apart i j _ u' _ hz k1)⟩
  · have nb := (new b u y).1
    rcases q2 b u y with y' | ⟨y1, y2, y3⟩
    · have y'' := k4 _ y'
      obtain ⟨w1, w2⟩ := ok'.ok.own j b u y''
      exact ⟨by rw [upd_ne nb]; exact w1, w2, ok'.mb j b u y'', fun i u' hi hz => hi (ok'.ok.apart i j b u' u hz y'')⟩
    · refine ⟨by rw [upd_ne nb]; exact y1, y2, ok.base.free y3, fun i u' hi hz => ?_⟩
      have w := (ok.ok.own i b u' hz).1
      rw [y3] at w; cases w
end
end PV

/-! The pure-value layer: statements that change trees; comprehensions of trees. -/
namespace PV
open PySem PySem.Spec PyProof.Rows L2
def rExtendR : V → List V → Hp → VK → Prop := fun x vs H Q => ∃ l b xs zs, x = .ref l ∧ vs = [.ref b] ∧ H l = some (.lst xs) ∧ Rd H b (.lst zs) ∧ xs.length + zs.length ≤ sizeLine ∧ Q .non (upd H l (.lst (xs ++ zs)))
theorem mt_extendR {X : Cx} : MtM X "list.extend" rExtendR := by
  intro pins s σ H x vs v us Q I rx rv h
  obtain ⟨l, b, xs, zs, rfl, rfl, hH, hB, hz, q⟩ := h
  cases rx
  obtain ⟨u, rfl, ru⟩ := rv.one
  cases ru
  obtain ⟨z, its, n, r, hl, e⟩ := I.lstM hH
  obtain ⟨its2, n2, r2, hl2, e2, z2⟩ := rd_obj I hB
  have hsz : its.toArray.size + its2.toArray.size ≤ sizeLine := by rw [List.size_toArray, List.size_toArray]; omega
  have hlong : ¬ (!its.toArray.isEmpty && Builtin.List.listTooLong (its.toArray.size + its2.toArray.size)) = true := by
    rw [notLongL hsz, Bool.and_false]
    exact Bool.false_ne_true
  refine call_meets F.slot_list_extend ⟨_, e, rfl⟩ F.entry_list_extend (F.args_list_extend_2 _ _)
    (AutoSeq1.list_extend_list_list_0 l its.toArray n b its2.toArray n2 hlong (by rw [List.size_toArray]; omega) (by omega)) ⟨e, e2, ?_⟩
  refine ⟨.non, _, I.lset (its' := its ++ its2) hH e (by simp) (r.append r2) ?_, rfl, q⟩
  rw [List.length_append]
  omega
section
variable {X : Cx} {W : Wc} {ρ : Env} {e a b d : Expr} {es : List Expr} {pos p : Pos} {C : Ec → Addr} {k : Nat} {rest : List Stmt} {Φ : Out → Prop} {π : List Nat} {t : T} {l : Option Addr} {ts : List T}
/-- e.append(d), e a part of a tree -/
theorem sxs_appendN (j : Nat) {pa : Pos} {u : T} (hj : ρ[j]? = some (some (tr t))) (hn : Nd X W ρ e j π) (hπ : t.at? π = some (.lst l ts)) (hd : FrT X W ρ d u) (c : ts.length < sizeLine) (k : Sxs X W rest (ρ.set j (some (tr (t.put π (.lst l (ts ++ [u])))))) Φ)
    (hp : ∀ t u, PE X e t → PE X d u → PE X (.Call (.Attribute e "append" pa) [d] [] p) (tBM X.K "list" rAppend t (tCons u tNil)) := by exact fun t u h h' => pe_bm PySem.F.plainAttrs_list PySem.F.slot_list_append PySem.F.type_list_append mt_append h (pa_cons h' pa_nil))
    (hs : swapsWith (.Call (.Attribute e "append" pa) [d] [] p) none pos.line X.env = pure false := by rfl) : Sxs X W (.Expr (.Call (.Attribute e "append" pa) [d] [] p) pos :: rest) ρ Φ :=
  sxs_of (ps_expr (hp _ _ hn.pe hd.pe) hs) fun σ F H M B F0 D ok q => ⟨F, M, ok.ok, fun r v F1 H1 er x1 nv => by
    obtain ⟨a, vs, m1, rfl, ha, o1, _, _, _⟩ := ok.mutT hj hπ er x1 nv
    refine ⟨ty_lst ha, F1, M, (ok.ext x1).ok, fun w F2 H2 m x2 hw hm => ?_⟩
    obtain ⟨a', vs', m1', e1, ha2, o2, hm1, hl, go⟩ := ok.mutT hj hπ er (x1.trans x2) (nv.same x2.h)
    cases e1
    obtain ⟨M', ok'⟩ := go l (vs' ++ [w]) (ts ++ [u]) (m1' ++ m) hl (OTs.app o2 (OTs.one hw) fun b o o' z1 z2 => by
      have y := x1.h _ _ (hm1 b o z1)
      rw [(hm b o' z2).2.2] at y; cases y) fun b o hb => by
      rcases List.mem_append.mp hb with z | z
      · exact .inl z
      · exact .inr ⟨(hm b o z).1, (hm b o z).2.1, x1.h.free (hm b o z).2.2⟩
    exact ⟨a, vs', w, rfl, rfl, ha2, by rw [o2.len]; exact c, _, Φ, F2, M', B, F0, k, ok', q⟩⟩
/-- e.extend(d) -/
theorem sxs_extendN (j : Nat) {pa : Pos} {ds : List PyData} (hj : ρ[j]? = some (some (tr t))) (hn : Nd X W ρ e j π) (hπ : t.at? π = some (.lst l ts)) (hd : Bv X W ρ d ds) (c : ts.length + ds.length ≤ sizeLine) (k : Sxs X W rest (ρ.set j (some (tr (t.put π (.lst l (ts ++ ds.map T.fz)))))) Φ)
    (hp : ∀ t u, PE X e t → PE X d u → PE X (.Call (.Attribute e "extend" pa) [d] [] p) (tBM X.K "list" rExtendR t (tCons u tNil)) := by exact fun t u h h' => pe_bm PySem.F.plainAttrs_list PySem.F.slot_list_extend PySem.F.type_list_extend mt_extendR h (pa_cons h' pa_nil))
    (hs : swapsWith (.Call (.Attribute e "extend" pa) [d] [] p) none pos.line X.env = pure false := by rfl) : Sxs X W (.Expr (.Call (.Attribute e "extend" pa) [d] [] p) pos :: rest) ρ Φ :=
  sxs_of (ps_expr (hp _ _ hn.pe hd.pe) hs) fun σ F H M B F0 D ok q => ⟨F, M, ok.ok, fun r v F1 H1 er x1 nv => by
    obtain ⟨a, vs, m1, rfl, ha, o1, _, _, _⟩ := ok.mutT hj hπ er x1 nv
    refine ⟨ty_lst ha, F1, M, (ok.ext x1).ok, fun w F2 H2 x2 hw => ?_⟩
    obtain ⟨a', vs', m1', e1, ha2, o2, hm1, hl, go⟩ := ok.mutT hj hπ er (x1.trans x2) (nv.same x2.h)
    cases e1
    obtain ⟨q', ws, rfl, h3, h4⟩ := hw
    obtain ⟨M', ok'⟩ := go l (vs' ++ ws) (ts ++ ds.map T.fz) (m1' ++ []) hl (OTs.app o2 (OTs.ofDq h4) fun _ _ _ _ z => nomatch z) fun b o hb => .inl (by simpa using hb)
    exact ⟨a, q', vs', ws, rfl, rfl, ha2, h3, by rw [o2.len, DqAll_len h4]; exact c, _, Φ, F2, M', B, F0, k, ok', q⟩⟩
/-- e.clear() -/
theorem sxs_clearN (j : Nat) {pa : Pos} (hj : ρ[j]? = some (some (tr t))) (hn : Nd X W ρ e j π) (hπ : t.at? π = some (.lst l ts)) (k : Sxs X W rest (ρ.set j (some (tr (t.put π (.lst l []))))) Φ)
    (hp : ∀ t, PE X e t → PE X (.Call (.Attribute e "clear" pa) [] [] p) (tBM0 X.K "list" rClear t) := by exact fun t h => pe_bm0 PySem.F.plainAttrs_list PySem.F.slot_list_clear PySem.F.type_list_clear mt_clear h)
    (hs : swapsWith (.Call (.Attribute e "clear" pa) [] [] p) none pos.line X.env = pure false := by rfl) : Sxs X W (.Expr (.Call (.Attribute e "clear" pa) [] [] p) pos :: rest) ρ Φ :=
  sxs_of (ps_expr (hp _ hn.pe) hs) fun σ F H M B F0 D ok q => ⟨F, M, ok.ok, fun r v F1 H1 er x1 nv => by
    obtain ⟨a, vs, m1, rfl, ha, o1, hm1, hl, go⟩ := ok.mutT hj hπ er x1 nv
    obtain ⟨M', ok'⟩ := go l [] [] [] hl .nil fun _ _ z => nomatch z
    exact ⟨ty_lst ha, a, vs, rfl, rfl, ha, _, Φ, F1, M', B, F0, k, ok', q⟩⟩
theorem OTs_set {K : PySem.W.Frag} {F : Hp} {vs : List V} {m mu : Mini} {n : Nat} {w : V} {u : T} (h : OTs K F vs ts m) (hn : n < ts.length) (hu : OT K F w u mu) (hq : ∀ b o, (b, o) ∈ mu → ∀ o', (b, o') ∉ m) : ∃ m', OTs K F (vs.set n w) (ts.set n u) m' ∧ ∀ b o, (b, o) ∈ m' → (b, o) ∈ m ∨ (b, o) ∈ mu := by
  obtain ⟨v, m0, g1, g2, g3, g4⟩ := h.at (List.getElem?_eq_getElem hn)
  obtain ⟨m', s1, s2⟩ := g4 w u mu hu fun b o z => .inr (hq b o z)
  exact ⟨m', s1, fun b o z => (s2 b o z).imp And.left id⟩
/-- e[b] = d -/
theorem sxs_setItemN (j : Nat) {pb : Pos} {u : T} {i : Int} {n : Nat} (hj : ρ[j]? = some (some (tr t))) (hn : Nd X W ρ e j π) (hπ : t.at? π = some (.lst l ts)) (hd : FrT X W ρ d u) (hb : Ev X W ρ b (.int i)) (hi : ixN ts.length i = some n) (k : Sxs X W rest (ρ.set j (some (tr (t.put π (.lst l (ts.set n u)))))) Φ)
    (hp : ∀ t u w, PE X e t → PE X d u → PE X b w → PS X (.Assign [.Subscript e b pb] d pos) (tAsg u (gSub t w rSetL)) := by exact fun t u w h h' h'' => ps_asg h' (pg_sub h h'' set_list)) :
    Sxs X W (.Assign [.Subscript e b pb] d pos :: rest) ρ Φ :=
  sxs_of (hp _ _ _ hn.pe hd.pe hb.pe) fun σ F H M B F0 D ok q => ⟨F, M, ok.ok, fun w F1 H1 m x1 hw hm => ⟨F1, M, (ok.ext x1).ok, fun r v F2 H2 er x2 nv => rd ((ok.ext x1).ext x2).ok fun y F3 H3 x3 dy => by
    have x := x2.trans x3
    obtain ⟨a, vs, m1, rfl, ha, o1, hm1, hl, go⟩ := ok.mutT hj hπ er (x1.trans x) (nv.same x3.h)
    have hn' : n < ts.length := by
      unfold ixN at hi
      split at hi
      · split at hi
        · cases hi; omega
        · cases hi
      · split at hi
        · cases hi; omega
        · cases hi
    have hm3 := ot_keep x fun a o z => ⟨(hm a o z).1, (hm a o z).2.1⟩
    obtain ⟨m', s1, s2⟩ := OTs_set o1 hn' (OT.mono x.f _ _ _ hw) fun b o z o' z' => by
      have y := hm1 b o' z'
      rw [(hm b o z).2.2] at y; cases y
    obtain ⟨M', ok'⟩ := go l (vs.set n w) (ts.set n u) m' hl s1 fun b o hb => by
      rcases s2 b o hb with z | z
      · exact .inl z
      · exact .inr ⟨(hm3 b o z).1, (hm3 b o z).2, (hm b o z).2.2⟩
    exact ⟨a, vs, i, n, rfl, dq_int dy, ha, by rw [o1.len]; exact hi, _, Φ, F3, M', B, F0, k, ok', q⟩⟩⟩
/-- x = e, e a list within a tree: x holds where it stands -/
theorem sxs_alias (i j : Nat) {x : Str} {pos' : Pos} (hij : i ≠ j) (hj : ρ[j]? = some (some (tr t))) (hn : Nd X W ρ e j π) (hπ : t.at? π = some (.lst l ts)) (k : ∀ q : Addr, Sxs X W rest ((ρ.set j (some (tr (t.put π (.lst (some q) ts))))).set i (some (adr q))) Φ) (hN : X.N.Nodup)
    (hi : X.N[i]? = some x := by rfl) (hx : Loc X.env.scope x := by first | exact Or.inl rfl | exact Or.inr rfl) (hs : swapsWith e (some (.Name x pos')) pos.line X.env = pure false := by rfl)
    (hf : X.fn x = true ∨ X.env.scope.names.lookup x = some .local := by first | exact .inl rfl | exact .inr rfl) : Sxs X W (.Assign [.Name x pos'] e pos :: rest) ρ Φ :=
  sxs_of (ps_set hN hi hx hn.pe hs hf) fun σ F H M B F0 D ok q => ⟨F, M, ok.ok, fun r v F1 H1 er x1 nv => by
    obtain ⟨a, vs, m1, rfl, ha, o1, hm1, hl, go⟩ := ok.mutT hj hπ er x1 nv
    obtain ⟨M', ok'⟩ := go (some a) vs ts m1 (fun q z => Option.some.inj z) o1 fun b o hb => .inl hb
    have e : upd H1 a (.lst vs) = H1 := by
      funext b
      by_cases hb : b = a
      · subst hb; rw [upd_same, ha]
      · rw [upd_ne hb]
    rw [e] at ok'
    have ok2 : PInv X.K B F0 ((ρ.set j (some (tr (t.put π (.lst (some a) ts))))).set i (some (adr a))) F1 (σ.set i (some (.ref a))) H1 (upM M' i []) := ok'.set ⟨rfl, rfl⟩ fun _ _ z => nomatch z
    exact ⟨_, Φ, F1, _, B, F0, k a, ok2, q⟩⟩
end

/-! ### comprehensions of trees -/
section
variable {X : Cx} {W : Wc} {ρ : Env} {e a b elt tg iter : Expr} {es : List Expr} {pos p : Pos} {C : Ec → Addr} {k : Nat} {rest : List Stmt} {Φ : Out → Prop} {scope : Scope}
def FrTB (X : Cx) (scope : Scope) (ρ : Env) (e : Expr) (t : T) : Prop := ∀ (s : Shared) (H : Hp) (Cc : Addr) (cl : List (Str × Addr)) (fp : List Addr), FrT (bl X scope s H Cc cl fp) W0 ρ e t
def tFrTB (X : Cx) (scope : Scope) (e : Expr) : TE := fun σ H Q => ∃ ρ t F M, FrTB X scope ρ e t ∧ EOk X.K ρ F σ H M ∧ ∀ v F' H' m, Ext F H F' H' → OT X.K F' v t m → (∀ a o, (a, o) ∈ m → H' a = some o ∧ F' a = none ∧ H a = none) → Q v H'
theorem pe_FrTB (s : Shared) (H : Hp) (Cc : Addr) (cl : List (Str × Addr)) (fp : List Addr) : PE (bl X scope s H Cc cl fp) e (tFrTB X scope e) :=
  ⟨fun pins s1 σ H1 Q I ⟨ρ, t, F, M, h, ok, q⟩ => h s H Cc cl fp pins s1 σ F H1 M Q I ok q⟩
theorem lc_readT {t : Bool} {is vs : List Nat} {ds : List PyData} {ts : List T} {wi : TI} {σ : St} {F H : Hp} {M : Nat → Mini} {Q : VK} (ok : EOk X.K ρ F σ H M)
    (qi : ∀ (σ : St) (F H : Hp) (M : Nat → Mini) (R : It → Hp → Prop), EOk X.K ρ F σ H M → (∀ J F' H', Ext F H F' H' → Walks X.K J F' ds → R J H') → wi σ H R) (hin : ∀ i ∈ is, i ∈ vs) (hz : ds.length ≤ sizeLine) (hk : ts.length = ds.length)
    (he : ∀ (i : Nat) (d : PyData) (u : T), ds[i]? = some d → ts[i]? = some u → tgFit t is d ∧ FrTB X scope (setAll (wipeE ρ vs) is (tgItems t d)) elt u)
    (h : ∀ v F' H' m, Ext F H F' H' → OT X.K F' v (.lst none ts) m → (∀ a o, (a, o) ∈ m → H' a = some o ∧ F' a = none ∧ H a = none) → Q v H') : tLc wi (gOf X.K t is) tYes (tFrTB X scope elt) vs σ H Q := by
  refine qi σ F H M _ ok fun J F1 H1 x1 wk => ?_
  intro D hD
  have nF1 : F1 D = none := x1.sub.free hD
  refine ⟨fun i m H' => m = ds.length - i ∧ i ≤ ds.length ∧ ∃ F' ws mm, Ext F1 H1 F' H' ∧ F' D = none ∧ H' D = some (.lst ws) ∧ ws.length ≤ i ∧ OTs X.K F' ws (ts.take i) mm ∧ (∀ a o, (a, o) ∈ mm → H' a = some o ∧ F' a = none ∧ H1 a = none ∧ a ≠ D),
    ⟨_, rfl, Nat.zero_le _, F1, [], [], .beside x1.sub hD, nF1, upd_same, Nat.le_refl _, .nil, fun _ _ z => nomatch z⟩, ?_⟩
  rintro i m H2 ⟨rfl, hle, F2, ws, mm, x2, n2, h2, hw, dws, hmm⟩
  by_cases hlt : i < ds.length
  · refine .inr ⟨wk.go i F2 H2 x2.f x2.sub hlt, fun H' => i + 1 ≤ ds.length ∧ ∃ F' ws mm, Ext F1 H1 F' H' ∧ F' D = none ∧ H' D = some (.lst ws) ∧ ws.length ≤ i + 1 ∧ OTs X.K F' ws (ts.take (i + 1)) mm ∧ (∀ a o, (a, o) ∈ mm → H' a = some o ∧ F' a = none ∧ H1 a = none ∧ a ≠ D), fun H' ⟨a1, a2⟩ => ⟨ds.length - (i + 1), by omega, rfl, a1, a2⟩, fun x H3 y => ?_⟩
    obtain ⟨F3, d, x3, hd, dv⟩ := wk.yld i F2 H2 x H3 x2.f x2.sub hlt y
    obtain ⟨u, hu⟩ : ∃ u, ts[i]? = some u := ⟨ts[i], List.getElem?_eq_getElem (by omega)⟩
    obtain ⟨fit, hx⟩ := he i d u hd hu
    have tk : ts.take (i + 1) = ts.take i ++ [u] := by
      rw [List.take_add_one, hu]
      rfl
    refine gOf_ok x3.sub dv fit fun xs dxs => ⟨by rw [wipe_setAllV hin, wipe_wipe], ?_⟩
    obtain ⟨M4, ok4⟩ := EOk.setAll (is := is) ((((ok.ext x1).wipe vs).ext x2).ext x3) dxs
    show tFrTB X scope elt (setAllV (L2.wipe σ vs) is xs) H3 _
    refine ⟨_, u, F3, M4, hx, ok4, fun v F5 H5 mv x5 dz qz => ?_⟩
    have x35 := x3.trans x5
    have h5 : H5 D = some (.lst ws) := x35.h _ _ h2
    have n5 : F5 D = none := by
      cases q : F5 D with
      | none => rfl
      | some u =>
        have z := x35.new D u q n2
        rw [z] at h2; cases h2
    have x6 := x2.trans x35
    have hmm5 := ot_keep x35 fun a o z => ⟨(hmm a o z).1, (hmm a o z).2.1⟩
    refine ⟨ws, h5, by omega, hlt, F5, ws ++ [v], mm ++ mv, ⟨x6.f, fun b u e => ?_, fun b u e => ?_, x6.new⟩, n5, upd_same, by rw [List.length_append]; simpa using hw, ?_, fun b o hb => ?_⟩
    · rw [upd_ne (ne_of_none e hD)]; exact x6.h b u e
    · rw [upd_ne (ne_of_none e n5)]; exact x6.sub b u e
    · rw [tk]
      exact OTs.app (OTs.mono x35.f _ _ _ dws) (OTs.one dz) fun b o o' z1 z2 => by
        have y := x3.h _ _ (hmm b o z1).1
        rw [(qz b o' z2).2.2] at y; cases y
    · rcases List.mem_append.mp hb with z | z
      · obtain ⟨y1, y2⟩ := hmm5 b o z
        obtain ⟨_, _, y3, y4⟩ := hmm b o z
        exact ⟨by rw [upd_ne y4]; exact y1, y2, y3, y4⟩
      · obtain ⟨y1, y2, y3⟩ := qz b o z
        have nD : b ≠ D := fun e => by
          subst e
          rw [x3.h _ _ h2] at y3; cases y3
        exact ⟨by rw [upd_ne nD]; exact y1, y2, (x2.h.trans x3.h).free y3, nD⟩
  · have e : i = ds.length := by omega
    subst e
    refine .inl ⟨wk.stop F2 H2 x2.f x2.sub, h (.ref D) F2 H2 ((D, .lst ws) :: mm) (x1.trans x2) (.lst (fun _ z => nomatch z) ?_ fun o z => (hmm D o z).2.2.2 rfl) fun b o hb => ?_⟩
    · rw [← hk, List.take_length] at dws
      exact dws
    · rcases List.mem_cons.mp hb with z | z
      · cases z
        exact ⟨h2, n2, x1.h.free hD⟩
      · obtain ⟨y1, y2, y3, _⟩ := hmm b o z
        exact ⟨y1, y2, x1.h.free y3⟩
theorem t_lc {t : Bool} {is : List Nat} {ds : List PyData} {ts : List T} (own : List (Str × Nat)) (c : Ctx X C W k) (hi : Iv X W ρ tg iter ds) (hg : ∀ s H Cc cl fp, TgOk (bl X scope s H Cc cl fp) tg t is) (hz : ds.length ≤ sizeLine) (hk : ts.length = ds.length)
    (he : ∀ (i : Nat) (d : PyData) (u : T), ds[i]? = some d → ts[i]? = some u → tgFit t is d ∧ FrTB X scope (setAll (wipeE ρ (own.map (·.2))) is (tgItems t d)) elt u)
    (hin : ∀ i ∈ is, i ∈ own.map (·.2) := by decide) (ok : BlkOk X.N X.env.scope scope own := by exact blkOk_by (by rfl)) (hs : ∀ x, foldedSetIterable iter X.env x = pure x := by intro _; rfl) : FrT X W ρ (.ListComp elt [⟨tg, iter, [], 0⟩] scope pos) (.lst none ts) := by
  obtain ⟨wi, hwi, qi⟩ := hi
  exact ⟨fun pins s σ F H M Q I ok' h => (pe_lc (own := own) (g := gOf X.K t is) c.calm c.nd hwi ok hg (fun s H Cc cl fp => pts_nil) (fun s H Cc cl fp => pe_FrTB s H Cc cl fp) hs).run pins s σ H Q I (lc_readT ok' qi hin hz hk he h)⟩
theorem sxs_setLcT (j : Nat) {x : Str} {pos' spos : Pos} {t : Bool} {is : List Nat} {ds : List PyData} {ts : List T} (own : List (Str × Nat)) (c : Ctx X C W k) (hi : Iv X W ρ tg iter ds) (hg : ∀ s H Cc cl fp, TgOk (bl X scope s H Cc cl fp) tg t is) (hz : ds.length ≤ sizeLine) (hk : ts.length = ds.length)
    (he : ∀ (i : Nat) (d : PyData) (u : T), ds[i]? = some d → ts[i]? = some u → tgFit t is d ∧ FrTB X scope (setAll (wipeE ρ (own.map (·.2))) is (tgItems t d)) elt u)
    (kk : Sxs X W rest (ρ.set j (some (tr (.lst none ts)))) Φ)
    (hin : ∀ i ∈ is, i ∈ own.map (·.2) := by decide) (ok : BlkOk X.N X.env.scope scope own := by exact blkOk_by (by rfl)) (hs : ∀ x, foldedSetIterable iter X.env x = pure x := by intro _; rfl)
    (hy : X.N[j]? = some x := by rfl) (hyl : X.env.scope.names.lookup x = some .local := by rfl) (hsw : swapsWith (.ListComp elt [⟨tg, iter, [], 0⟩] scope pos) (some (.Name x pos')) spos.line X.env = pure true := by exact sw_true rfl rfl rfl (by rfl)) :
    Sxs X W (.Assign [.Name x pos'] (.ListComp elt [⟨tg, iter, [], 0⟩] scope pos) spos :: rest) ρ Φ := by
  obtain ⟨wi, hwi, qi⟩ := hi
  exact sxs_of (ps_setLc (own := own) (g := gOf X.K t is) c.calm c.nd hy hyl hsw hwi ok hg (fun s H Cc cl fp => pts_nil) (fun s H Cc cl fp => pe_FrTB s H Cc cl fp) hs) fun σ F H M B F0 D ok' q =>
    lc_readT ok'.ok qi hin hz hk he fun v F' H' m x hv hm => by
      have y : PInv X.K B F0 (ρ.set j (some (tr (.lst none ts)))) F' (σ.set j (some v)) H' (upM M j m) := (ok'.ext x).set hv fun a o z => by
        obtain ⟨y1, y2, y3⟩ := hm a o z
        refine ⟨y1, y2, ok'.base.free y3, fun i o' hj hm' => ?_⟩
        have w := (ok'.ok.own i a o' hm').1
        rw [y3] at w; cases w
      exact ⟨_, Φ, F', _, B, F0, kk, y, q⟩
end
end PV

/-! The pure-value layer: further rules. -/
namespace PV
open PySem PySem.Spec PyProof.Rows L2
section
variable {X : Cx} {W : Wc} {ρ : Env} {e a b tg : Expr} {es : List Expr} {pos p : Pos} {C : Ec → Addr} {k : Nat} {rest body : List Stmt} {Φ : Out → Prop}
/-- for, by what is left: R tells of the state and of the items that are left -/
theorem sxs_forL {α S : Type} {t : Bool} {is : List Nat} (enc : α → PyData) (xs : List α) (envOf : S → Env) (R : S → List α → Prop) (s0 : S) (c : Ctx X C W k) (hi : Iv X W ρ tg a (xs.map enc)) (hg : TgOk X tg t is) (hw : Wk ρ (envOf s0)) (h0 : R s0 xs)
    (step : ∀ s x ys, R s (x :: ys) → tgFit t is (enc x) ∧ Sxs X W body (setAll (envOf s) is (tgItems t (enc x))) (turnS (fun ρ' => ∃ s', ρ' = envOf s' ∧ R s' ys) X W rest Φ))
    (done : ∀ s, R s [] → Sxs X W rest (envOf s) Φ) (hs : ∀ x, foldedSetIterable a X.env x = pure x := by intro _; rfl) : Sxs X W (.For tg a body [] pos :: rest) ρ Φ := by
  refine sxs_for c (fun i ρ => ∃ s, Wk ρ (envOf s) ∧ R s (xs.drop i)) hi hg ⟨s0, hw, by simpa using h0⟩ (fun i d ρ hd ⟨s, w, h⟩ => ?_) (fun ρ ⟨s, w, h⟩ => ?_) hs
  · rw [List.getElem?_map] at hd
    cases q : xs[i]? with
    | none => rw [q] at hd; cases hd
    | some x =>
      rw [q] at hd
      have ed : enc x = d := Option.some.inj hd
      subst ed
      have hl := (List.getElem?_eq_some_iff.mp q).1
      have e : xs.drop i = x :: xs.drop (i + 1) := by
        rw [List.drop_eq_getElem_cons hl, (List.getElem?_eq_some_iff.mp q).2]
      rw [e] at h
      obtain ⟨f, b⟩ := step s x _ h
      refine ⟨f, ?_⟩
      have wk : ∀ (is : List Nat) (ds : List PyData) (ρ1 ρ2 : Env), Wk ρ1 ρ2 → Wk (setAll ρ1 is ds) (setAll ρ2 is ds) := by
        intro is
        induction is with
        | nil => intro ds ρ1 ρ2 w; cases ds <;> exact w
        | cons i is ih =>
          intro ds ρ1 ρ2 w
          cases ds with
          | nil => exact w
          | cons d ds =>
            refine ih ds _ _ ⟨by rw [List.length_set, List.length_set]; exact w.1, fun j T hj => ?_⟩
            by_cases hji : i = j
            · subst hji
              have hl : i < ρ2.length := by
                have := (List.getElem?_eq_some_iff.mp hj).1
                simpa using this
              rw [List.getElem?_set_self hl] at hj
              rw [List.getElem?_set_self (by rw [← w.1]; exact hl)]
              exact hj
            · rw [List.getElem?_set_ne hji] at hj ⊢
              exact w.2 j T hj
      refine sxs_weak (wk _ _ _ _ w) (sxs_mono b fun o ho => ?_)
      cases o with
      | next ρ' =>
        obtain ⟨ρ'', w', s', e', h'⟩ := ho
        subst e'
        exact ⟨_, w', s', Wk.refl _, h'⟩
      | cont ρ' =>
        obtain ⟨ρ'', w', s', e', h'⟩ := ho
        subst e'
        exact ⟨_, w', s', Wk.refl _, h'⟩
      | brk ρ' => exact ho
      | ret S ρ' => exact ho
      | raise c ρ' => exact ho
  · rw [List.length_map, List.drop_length] at h
    exact sxs_weak w (done s h)
/-- what is known less, place by place -/
def WkL : Env → Env → Prop
  | [], [] => True
  | _ :: a, none :: b => WkL a b
  | x :: a, some S :: b => x = some S ∧ WkL a b
  | _, _ => False
theorem Wk.of : ∀ {a b : Env}, WkL a b → Wk a b
  | [], [], _ => ⟨rfl, fun _ _ h => h⟩
  | x :: a, none :: b, h => by
    obtain ⟨h1, h2⟩ := Wk.of (a := a) (b := b) h
    refine ⟨congrArg (· + 1) h1, fun i S e => ?_⟩
    cases i with
    | zero => simp at e
    | succ i => simpa using h2 i S (by simpa using e)
  | x :: a, some T :: b, h => by
    have h : x = some T ∧ WkL a b := h
    obtain ⟨h1, h2⟩ := Wk.of (a := a) (b := b) h.2
    refine ⟨congrArg (· + 1) h1, fun i S e => ?_⟩
    cases i with
    | zero => rw [h.1]; exact e
    | succ i => simpa using h2 i S (by simpa using e)
  | [], _ :: _, h => by simp [WkL] at h
  | _ :: _, [], h => by simp [WkL] at h
/-- raise X('..') -/
theorem sxs_raise {cls : Str} {m : Str} {jj : Nat} {p1 p2 p3 : Pos} {bm : List Value} {Bs newId initId : String} (x : Ec) (c : Ctx X C W k) (Fx : ExcBaseFacts Bs newId initId bm) (q : PySem.W.excIn X.K (C x) bm newId = true) (gC : X.mg cls = some (.ref (C x))) (kC : PySem.W.keepIn X.K (.ref (C x)) = true)
    (bs : PySem.W.subIn X.K (.ref (C x)) (.type "BaseException") = some true) (ty : PySem.W.typeIn X.K (.ref (C x)) = some (.type "type")) (h : Φ (.raise x ρ)) (hg : Gl X cls := by rfl) (hdb : (cls == ("__debug__" : Str)) = false := by decide) : Sxs X W (.Raise (some (.Call (.Name cls p1) [.Constant (.str m) jj p2] [] p3)) none pos :: rest) ρ Φ :=
  sxs_of (ps_raise c.calm c.tk (pmk_own Fx q gC kC (raises_own bs ty) hg hdb)) fun σ F H M B F0 D ok qq => ⟨x, rfl, rfl, qq _ h F σ H M ok⟩
/-- a text times a number -/
theorem ev_mulS {z : Str} {n : Int} (c : MulOk z n) (ha : Ev X W ρ a (.str z)) (hb : Ev X W ρ b (.int n)) : Ev X W ρ (.BinOp a .Mult b pos) (.str (Txt.mul z n)) :=
  ev_op (r := fun x y H Q => ∃ z n, x = .str z ∧ y = .int n ∧ MulOk z n ∧ Q (.str (Txt.mul z n)) H) (fun pins s σ H x y v u Q I rx ry h => by
    obtain ⟨z, n, rfl, rfl, c, q⟩ := h
    obtain ⟨t, rfl⟩ := rx
    obtain ⟨t', rfl⟩ := ry
    exact PySem.SB.mul c fun t2 k => ⟨.str _, H, I.tok _, ⟨_, rfl⟩, q⟩) ha hb fun x y F H Q s dx dy h => ⟨z, n, dq_str dx, dq_int dy, c, h _ F H (.refl s) (.str _)⟩
theorem mulOk_small {x : Str} {n : Int} (h1 : -(2 ^ 40) ≤ n) (h2 : n < 2 ^ 40) (h3 : x.length * n.toNat ≤ 1000000) : MulOk x n := by
  refine ⟨?_, fun hn _ => ?_, fun hn _ => ?_⟩
  · have e1 : ¬ n < -(2 ^ 63 : Int) := by omega
    have e2 : ¬ n ≥ 2 ^ 63 := by omega
    rw [decide_eq_false e1, decide_eq_false e2]; rfl
  · have h4 : ((x.length : Int)) * n ≤ 1000000 := by
      have e : n = (n.toNat : Int) := by omega
      rw [e]
      have h3' : ((x.length * n.toNat : Nat) : Int) ≤ 1000000 := Int.ofNat_le.mpr h3
      rw [Int.natCast_mul] at h3'
      exact h3'
    intro hgt
    have hp : 0 < n := by omega
    have h5 : (2 ^ 63 - 1) / n * n ≤ 2 ^ 63 - 1 := Int.ediv_mul_le _ (by omega)
    have h6 : (2 ^ 63 - 1 : Int) < ((2 ^ 63 - 1) / n + 1) * n := Int.lt_ediv_add_one_mul_self _ hp
    have h7 : ((2 ^ 63 - 1) / n + 1) * n ≤ (x.length : Int) * n := Int.mul_le_mul_of_nonneg_right (by omega) (by omega)
    omega
  · have e : ¬ (x.length * n.toNat > sizeLine) := by
      have : (1000000 : Nat) ≤ sizeLine := by rw [sizeLine_eq]; decide
      omega
    exact decide_eq_false e
end
theorem foldl_app' (x : Array Nat) : ∀ (n : Nat) (acc : Array Nat), ((List.replicate n x).foldl (· ++ ·) acc).toList = acc.toList ++ (List.replicate n x.toList).flatten
  | 0, acc => by simp
  | n + 1, acc => by
    rw [List.replicate_succ, List.foldl_cons, foldl_app' x n, List.replicate_succ, List.flatten_cons]
    simp
/-- the signs of a text times a number -/
theorem mul_list (x : Str) (n : Int) : (Txt.mul x n).cps.toList = (List.replicate n.toNat x.cps.toList).flatten := by
  unfold Txt.mul
  split
  · rename_i h
    have e : n.toNat = 0 := by omega
    rw [e]; rfl
  · split
    · rename_i h1 h2
      simp only [Bool.or_eq_true, beq_iff_eq] at h2
      rcases h2 with h2 | h2
      · subst h2; simp
      · have e : x.cps.toList = [] := by
          have : x.cps.size = 0 := h2
          simpa using this
        rw [e]; simp
    · rw [foldl_app']; simp
end PV

/-! The pure-value layer: borrowing; loops over trees. -/
namespace PV
open PySem PySem.Spec PyProof.Rows L2
/-- as S is read while nothing changes -/
def Brw (S S' : Slot) : Prop := ∀ (K : PySem.W.Frag) (F H : Hp) (v : V) (m : Mini), Same F H → (∀ a o, (a, o) ∈ m → H a = some o) → S.R K F v m → S'.R K H v []
theorem brw_fz {d : PyData} : Brw (fz d) (fz d) := fun K F H v m s _ h => ⟨rfl, dq_mono s _ _ h.2⟩
theorem brw_kn {ds : List PyData} : Brw (kn ds) (kn ds) := fun K F H v m s _ ⟨_, a, vs, h1, h2, h3⟩ => ⟨rfl, a, vs, h1, s.seq h2, dqAll_mono s _ _ h3⟩
theorem brw_ow {p : Option Addr} {ds : List PyData} : Brw (ow p ds) (fz (.list ds)) := fun K F H v m s q ⟨a, vs, h1, h2, h3, h4⟩ => by
  subst h1
  exact ⟨rfl, .lst (.inl (q a _ (by rw [h2]; exact List.mem_cons_self))) (dqAll_mono s _ _ h4)⟩
theorem brw_tr {t : T} : Brw (tr t) (fz t.er) := fun K F H v m s q h => ⟨rfl, OT.dq s _ _ _ h q⟩
theorem brw_adr {l : Addr} : Brw (adr l) (adr l) := fun K F H v m s q h => ⟨rfl, h.2⟩
inductive FrzL : Env → Env → Prop
  | nil : FrzL [] []
  | skip {x : Option Slot} {a b : Env} : FrzL a b → FrzL (x :: a) (none :: b)
  | keep {S S' : Slot} {a b : Env} : Brw S S' → FrzL a b → FrzL (some S :: a) (some S' :: b)
theorem FrzL.len : ∀ {a b : Env}, FrzL a b → b.length = a.length
  | _, _, .nil => rfl
  | _, _, .skip h => congrArg (· + 1) h.len
  | _, _, .keep _ h => congrArg (· + 1) h.len
theorem FrzL.get : ∀ {a b : Env} {i : Nat} {S' : Slot}, FrzL a b → b[i]? = some (some S') → ∃ S, a[i]? = some (some S) ∧ Brw S S'
  | _, _, _, _, .nil, e => by simp at e
  | _, _, 0, _, .skip h, e => by simp at e
  | _, _, 0, _, .keep q h, e => by simp at e; subst e; exact ⟨_, rfl, q⟩
  | _, _, i + 1, _, .skip h, e => by
    obtain ⟨S, h1, h2⟩ := FrzL.get (i := i) h (by simpa using e)
    exact ⟨S, by simpa using h1, h2⟩
  | _, _, i + 1, _, .keep q h, e => by
    obtain ⟨S, h1, h2⟩ := FrzL.get (i := i) h (by simpa using e)
    exact ⟨S, by simpa using h1, h2⟩
theorem EOk.frz {K : PySem.W.Frag} {ρ ρ' : Env} {F H : Hp} {σ : St} {M : Nat → Mini} (x : EOk K ρ F σ H M) (f : FrzL ρ ρ') : EOk K ρ' H σ H (fun _ => []) where
  len := x.len.trans f.len.symm
  sub := .refl _
  at_ := fun i S' h => by
    obtain ⟨S, h1, h2⟩ := f.get h
    obtain ⟨v, h3, h4⟩ := x.at_ i S h1
    exact ⟨v, h3, h2 K F H v (M i) x.sub (fun a o z => (x.own i a o z).1) h4⟩
  own := fun _ _ _ z => nomatch z
  apart := fun _ _ _ _ _ z => nomatch z
theorem Ext.under {F H F' H' : Hp} (s : Same F H) (x : Ext H H F' H') : Ext F H F H' := ⟨.refl _, x.h, s.trans x.h, fun a o h1 h2 => by rw [h1] at h2; cases h2⟩
/-- a tree whose frozen parts are no objects -/
def T.sc : T → Bool
  | .fz d => scalar d
  | .lst _ ts => T.scs ts
  | .tup _ ts => T.scs ts
where T.scs : List T → Bool
  | [] => true
  | t :: ts => t.sc && T.scs ts
section
variable {K : PySem.W.Frag} {F F' : Hp}
mutual
theorem OT.sc : ∀ (t : T) (v : V) (m : Mini), t.sc = true → OT K F v t m → OT K F' v t m
  | .fz d, _, _, s, h => by cases h with | fz h => exact .fz (dq_scalar h (by simpa [T.sc] using s))
  | .lst l ts, _, _, s, h => by cases h with | lst h1 h2 h3 => exact .lst h1 (OTs.sc ts _ _ (by simpa [T.sc] using s) h2) h3
  | .tup l ts, _, _, s, h => by cases h with | tup h1 h2 h3 => exact .tup h1 (OTs.sc ts _ _ (by simpa [T.sc] using s) h2) h3
theorem OTs.sc : ∀ (ts : List T) (vs : List V) (m : Mini), T.sc.T.scs ts = true → OTs K F vs ts m → OTs K F' vs ts m
  | [], _, _, _, h => by cases h; exact .nil
  | t :: ts, _, _, s, h => by
    have s' : t.sc = true ∧ T.sc.T.scs ts = true := by simpa [T.sc.T.scs] using s
    cases h with | cons h1 h2 h3 => exact .cons (OT.sc t _ _ s'.1 h1) (OTs.sc ts _ _ s'.2 h2) h3
end
end
section
variable {X : Cx} {W : Wc} {ρ ρ' : Env} {e a b tg : Expr} {es : List Expr} {pos p : Pos} {C : Ec → Addr} {k : Nat} {rest body : List Stmt} {Φ : Out → Prop}
theorem ev_borrow {d : PyData} (f : FrzL ρ ρ') (h : Ev X W ρ' e d) (s : scalar d = true := by rfl) : Ev X W ρ e d := ⟨fun pins st σ F H M Q I ok q _ =>
  h pins st σ H H _ Q I (ok.frz f) (fun d' hd v F' H' x dv => by cases hd; exact q _ rfl v F H' (.under ok.sub x) (dq_scalar dv s)) fun c hc => nomatch hc⟩
theorem tst_borrow {b : Bool} (f : FrzL ρ ρ') (h : Tst X W ρ' e b) : Tst X W ρ e b := ⟨fun pins st σ F H M Q I ok q => h pins st σ H H _ Q I (ok.frz f) fun F' H' x => q F H' (.under ok.sub x)⟩
theorem t_borrow {t : T} (f : FrzL ρ ρ') (h : FrT X W ρ' e t) (s : t.sc = true) : FrT X W ρ e t := ⟨fun pins st σ F H M Q I ok q =>
  h pins st σ H H _ Q I (ok.frz f) fun v F' H' m x hv hm => q v F H' m (.under ok.sub x) (OT.sc t v m s hv) fun a o z => ⟨(hm a o z).1, ok.sub.free (hm a o z).2.2, (hm a o z).2.2⟩⟩

/-! ### a part of a tree by where it stands -/
/-- with its place -/
def T.ann : T → Addr → T
  | .fz d, _ => .fz d
  | .lst _ ts, q => .lst (some q) ts
  | .tup _ ts, q => .tup (some q) ts
theorem OTs.same {K : PySem.W.Frag} {F : Hp} : ∀ {vs : List V} {ts : List T} {m : Mini} {n : Nat} {u u' : T}, OTs K F vs ts m → ts[n]? = some u → (∀ w mu, vs[n]? = some w → OT K F w u mu → OT K F w u' mu) → OTs K F vs (ts.set n u') m
  | _, _, _, _, _, _, .nil, e, _ => by simp at e
  | _, _, _, 0, u, u', .cons h t a, e, q => by
    have e : _ = u := Option.some.inj e
    subst e
    exact .cons (q _ _ rfl h) t a
  | _, _, _, n + 1, u, u', .cons h t a, e, q => .cons h (OTs.same t (by simpa using e) fun w mu hw => q w mu (by simpa using hw)) a
theorem OTs.same2 {K : PySem.W.Frag} {F : Hp} : ∀ {vs : List V} {ts : List T} {m : Mini} {n : Nat} {u u' : T}, OTs K F vs ts m → ts[n]? = some u → (∀ w mu, vs[n]? = some w → OT K F w u mu → (∀ x, x ∈ mu → x ∈ m) → OT K F w u' mu) → OTs K F vs (ts.set n u') m
  | _, _, _, _, _, _, .nil, e, _ => by simp at e
  | _, _, _, 0, u, u', .cons h t a, e, q => by
    have e : _ = u := Option.some.inj e
    subst e
    exact .cons (q _ _ rfl h fun x hx => List.mem_append_left _ hx) t a
  | _, _, _, n + 1, u, u', .cons h t a, e, q => .cons h (OTs.same2 t (by simpa using e) fun w mu hw ho hs => q w mu (by simpa using hw) ho fun x hx => List.mem_append_right _ (hs x hx)) a
/-- what a name holds of a part of a tree -/
def slotOf : T → Addr → Slot
  | .fz d, _ => fz d
  | _, q => adr q
theorem PInv.reslot {K : PySem.W.Frag} {B F0 F H : Hp} {σ : St} {M : Nat → Mini} {j : Nat} {S S' : Slot} {v : V} (x : PInv K B F0 ρ F σ H M) (hj : ρ[j]? = some (some S)) (hσ : σ[j]? = some (some v)) (hS : S'.R K F v (M j)) : PInv K B F0 (ρ.set j (some S')) F σ H M := by
  refine ⟨⟨by rw [List.length_set]; exact x.ok.len, x.ok.sub, fun i T hi => ?_, x.ok.own, x.ok.apart⟩, x.base, x.f0, x.nb, x.mb⟩
  by_cases hij : i = j
  · subst hij
    have hl : i < ρ.length := (List.getElem?_eq_some_iff.mp hj).1
    rw [List.getElem?_set_self hl] at hi
    cases hi
    exact ⟨v, hσ, hS⟩
  · rw [List.getElem?_set_ne (Ne.symm hij)] at hi
    exact x.ok.at_ i T hi
/-- for x in a list of trees: x holds where the item stands, q0 is where the list stands; R tells of the state and the items, by how many are done -/
theorem sxs_forTr {St0 : Type} (j i0 : Nat) {x y : Str} {p1 p2 : Pos} {l : Option Addr} {ts : List T} (c : Ctx X C W k) (base : St0 → Env) (R : Nat → St0 → List T → Prop) (s0 : St0) (hij : i0 ≠ j) (hb : ∀ s, j < (base s).length) (hw : Wk ρ ((base s0).set j (some (tr (.lst l ts))))) (h0 : R 0 s0 ts) (hR : ∀ n s us, R n s us → us.length = ts.length)
    (step : ∀ q0 n s us u, R n s us → us[n]? = some u → (∀ d, u ≠ .fz d) ∧ ∀ q : Addr, Sxs X W body (((base s).set j (some (tr (.lst (some q0) (us.set n (u.ann q)))))).set i0 (some (adr q))) (turnS (fun ρ' => ∃ s' us', ρ' = (base s').set j (some (tr (.lst (some q0) us'))) ∧ R (n + 1) s' us') X W rest Φ))
    (done : ∀ q0 s us, R ts.length s us → Sxs X W rest ((base s).set j (some (tr (.lst (some q0) us)))) Φ)
    (hNj : X.N[j]? = some x := by rfl) (hvj : Vis X.env.scope x := by first | exact Or.inl rfl | exact Or.inr (Or.inl rfl) | exact Or.inr (Or.inr rfl)) (hd1 : (x == ("__debug__" : Str)) = false := by decide) (hd2 : (x == ("__classdict__" : Str)) = false := by decide)
    (hi : X.N[i0]? = some y := by rfl) (hx : Loc X.env.scope y := by first | exact Or.inl rfl | exact Or.inr rfl) (hf : X.fn y = true ∨ X.env.scope.names.lookup y = some .local := by first | exact .inl rfl | exact .inr rfl)
    (hs : ∀ z, foldedSetIterable (.Name x p2) X.env z = pure z := by intro _; rfl) : Sxs X W (.For (.Name y p1) (.Name x p2) body [] pos :: rest) ρ Φ := by
  have he : ∀ l s us, ((base s).set j (some (tr (.lst l us))))[j]? = some (some (tr (.lst l us))) := fun l s us => List.getElem?_set_self (hb s)
  refine sxs_weak hw (sxs_of (ps_for c.po c.calm (pi_list (pe_var hNj hvj hd1 hd2)) (pg_name c.nd hi hx hf) (pss_Sxs X W body) hs) fun σ F H M B F0 D ok q => ?_)
  obtain ⟨v, hσ, hv⟩ := ok.ok.at_ j _ (he l s0 ts)
  have hm0 : ∀ a o, (a, o) ∈ M j → H a = some o := fun a o z => (ok.ok.own j a o z).1
  obtain ⟨a, rfl, hva, ha⟩ : ∃ a, v = .ref a ∧ OT X.K F v (.lst (some a) ts) (M j) ∧ ∃ vs, H a = some (.lst vs) := by
    have hv' : OT X.K F v (.lst l ts) (M j) := hv
    generalize hM : M j = mj at hv' hm0
    cases hv' with
    | lst h1 h2 h3 => exact ⟨_, rfl, .lst (fun q e => Option.some.inj e) h2 h3, _, hm0 _ _ List.mem_cons_self⟩
  have okA := ok.reslot (he l s0 ts) hσ (S' := tr (.lst (some a) ts)) hva
  rw [List.set_set] at okA
  obtain ⟨vs0, hvs0⟩ := ha
  refine ⟨_, hσ, a, rfl, ⟨vs0, .of hvs0⟩, ?_⟩
  refine ⟨fun n m σ H => m = ts.length - n ∧ n ≤ ts.length ∧ ∃ s us F M, R n s us ∧ PInv X.K B F0 ((base s).set j (some (tr (.lst (some a) us)))) F σ H M, ⟨_, rfl, Nat.zero_le _, s0, ts, F, M, h0, okA⟩, ?_⟩
  rintro n m σ2 H2 ⟨rfl, hle, s, us, F2, M2, r2, ok2⟩
  obtain ⟨v2, hσ2, hv2⟩ := ok2.ok.at_ j _ (he (some a) s us)
  have hm2 : ∀ a o, (a, o) ∈ M2 j → H2 a = some o := fun a o z => (ok2.ok.own j a o z).1
  have hus := hR n s us r2
  have hv3 : OT X.K F2 v2 (.lst (some a) us) (M2 j) := hv2
  generalize hM2 : M2 j = mj at hv3 hm2
  cases hv3 with
  | @lst a2 _ vs _ mm g1 g2 g3 =>
    have ea : a2 = a := g1 a rfl
    subst ea
    have hH2 : H2 a2 = some (.lst vs) := hm2 _ _ List.mem_cons_self
    have hvl : vs.length = ts.length := g2.len.trans hus
    by_cases hlt : n < ts.length
    · refine .inr ⟨⟨vs, vs[n]'(by omega), .of hH2, List.getElem?_eq_getElem (by omega)⟩, fun σ' H' => n + 1 ≤ ts.length ∧ ∃ s us F M, R (n + 1) s us ∧ PInv X.K B F0 ((base s).set j (some (tr (.lst (some a2) us)))) F σ' H' M, fun σ' H' ⟨a1, a2⟩ => ⟨ts.length - (n + 1), by omega, rfl, a1, a2⟩, fun w H3 y => ?_⟩
      obtain ⟨rfl, hy⟩ := y
      have hw' := hy vs (.of hH2)
      obtain ⟨u, hu⟩ : ∃ u, us[n]? = some u := ⟨us[n]'(by omega), List.getElem?_eq_getElem (by omega)⟩
      obtain ⟨nf, st⟩ := step a2 n s us u r2 hu
      obtain ⟨w', mu, k1, k2, k3, _⟩ := g2.at hu
      rw [hw'] at k1; cases k1
      -- where the item stands
      have key : ∃ q, w = .ref q ∧ ∀ w2 mu2, vs[n]? = some w2 → OT X.K F2 w2 u mu2 → OT X.K F2 w2 (u.ann q) mu2 := by
        cases u with
        | fz d => exact absurd rfl (nf d)
        | lst l2 us2 =>
          cases k2 with
          | @lst q _ _ _ _ z1 z2 z3 => exact ⟨q, rfl, fun w2 mu2 e2 o2 => by
              rw [hw'] at e2; cases e2
              cases o2 with | lst y1 y2 y3 => exact .lst (fun q' e => Option.some.inj e) y2 y3⟩
        | tup l2 us2 =>
          cases k2 with
          | @tup q _ _ _ _ z1 z2 z3 => exact ⟨q, rfl, fun w2 mu2 e2 o2 => by
              rw [hw'] at e2; cases e2
              cases o2 with | tup y1 y2 y3 => exact .tup (fun q' e => Option.some.inj e) y2 y3⟩
      obtain ⟨q', rfl, ann⟩ := key
      have hann : OT X.K F2 (.ref a2) (.lst (some a2) (us.set n (u.ann q'))) (M2 j) := by
        rw [hM2]
        exact .lst (fun q e => Option.some.inj e) (OTs.same g2 hu ann) g3
      have ok3 := ok2.reslot (he (some a2) s us) hσ2 (S' := tr (.lst (some a2) (us.set n (u.ann q')))) hann
      rw [List.set_set] at ok3
      have ok4 : PInv X.K B F0 (((base s).set j (some (tr (.lst (some a2) (us.set n (u.ann q')))))).set i0 (some (adr q'))) F2 (σ2.set i0 (some (.ref q'))) H3 (upM M2 i0 []) := ok3.set ⟨rfl, rfl⟩ fun _ _ z => nomatch z
      refine ⟨_, _, F2, _, B, F2, st q', ok4.based, fun o ho => ?_⟩
      have again : ∀ ρ', (∃ ρ'', Wk ρ' ρ'' ∧ ∃ s' us', ρ'' = (base s').set j (some (tr (.lst (some a2) us'))) ∧ R (n + 1) s' us') → ∀ F σ H M, PInv X.K B F2 ρ' F σ H M → n + 1 ≤ ts.length ∧ ∃ s us F M, R (n + 1) s us ∧ PInv X.K B F0 ((base s).set j (some (tr (.lst (some a2) us)))) F σ H M := fun ρ' ⟨ρ'', w, s', us', e, h⟩ F σ H M ok5 => by
        subst e
        exact ⟨hlt, s', us', F, M, h, (ok4.rebase ok5).weak w⟩
      cases o with
      | next ρ' => exact again ρ' ho
      | cont ρ' => exact again ρ' ho
      | brk ρ' => exact fun F σ H M ok5 => ⟨ρ', Φ, F, M, B, F0, ho, ok4.rebase ok5, q⟩
      | ret S ρ' => exact fun v F σ H M ok5 => q _ ho v F σ H M (ok4.rebase ok5)
      | raise c ρ' => exact fun F σ H M ok5 => q _ ho F σ H M (ok4.rebase ok5)
    · have e : n = ts.length := by omega
      subst e
      exact .inl ⟨⟨vs, .of hH2, by omega⟩, ⟨_, Φ, F2, M2, B, F0, done a2 s us r2, ok2, q⟩⟩
/-- the same for x, y in a list of pairs whose first is data: y holds where the second stands, or its data -/
theorem sxs_forTrP {St0 : Type} (j i1 i0 : Nat) {x y1 y : Str} {p1 p2 p3 p4 : Pos} {kk : Nat} {l : Option Addr} {ts : List T} (c : Ctx X C W k) (base : St0 → Env) (R : Nat → St0 → List T → Prop) (s0 : St0) (hij : i0 ≠ j) (hb : ∀ s, j < (base s).length) (hw : Wk ρ ((base s0).set j (some (tr (.lst l ts))))) (h0 : R 0 s0 ts) (hR : ∀ n s us, R n s us → us.length = ts.length)
    (step : ∀ q0 n s us u, R n s us → us[n]? = some u → ∃ l1 d1 c1, u = .tup l1 [.fz d1, c1] ∧ ∀ q : Addr, Sxs X W body ((((base s).set j (some (tr (.lst (some q0) (us.set n (.tup l1 [.fz d1, c1.ann q])))))).set i1 (some (fz d1))).set i0 (some (slotOf c1 q))) (turnS (fun ρ' => ∃ s' us', ρ' = (base s').set j (some (tr (.lst (some q0) us'))) ∧ R (n + 1) s' us') X W rest Φ))
    (done : ∀ q0 s us, R ts.length s us → Sxs X W rest ((base s).set j (some (tr (.lst (some q0) us)))) Φ)
    (hNj : X.N[j]? = some x := by rfl) (hvj : Vis X.env.scope x := by first | exact Or.inl rfl | exact Or.inr (Or.inl rfl) | exact Or.inr (Or.inr rfl)) (hd1 : (x == ("__debug__" : Str)) = false := by decide) (hd2 : (x == ("__classdict__" : Str)) = false := by decide)
    (hi1 : X.N[i1]? = some y1 := by rfl) (hx1 : Loc X.env.scope y1 := by first | exact Or.inl rfl | exact Or.inr rfl) (hf1 : X.fn y1 = true ∨ X.env.scope.names.lookup y1 = some .local := by first | exact .inl rfl | exact .inr rfl)
    (hi : X.N[i0]? = some y := by rfl) (hx : Loc X.env.scope y := by first | exact Or.inl rfl | exact Or.inr rfl) (hf : X.fn y = true ∨ X.env.scope.names.lookup y = some .local := by first | exact .inl rfl | exact .inr rfl)
    (hs1 : (assignEach [.Name y1 p3, .Name y p1] X.env).map (·.2) = assign (.Name y1 p3) X.env :: (assignEach [.Name y p1] X.env).map (·.2) := by rfl) (hs2 : (assignEach [.Name y p1] X.env).map (·.2) = assign (.Name y p1) X.env :: (assignEach [] X.env).map (·.2) := by rfl)
    (hn1 : (assignEach [.Name y1 p3, .Name y p1] X.env).length = 2 := by rfl) (hst1 : (assignEach [.Name y1 p3, .Name y p1] X.env).findIdx? (·.1) = none := by rfl)
    (hs : ∀ z, foldedSetIterable (.Name x p2) X.env z = pure z := by intro _; rfl) : Sxs X W (.For (.Tuple [.Name y1 p3, .Name y p1] kk p4) (.Name x p2) body [] pos :: rest) ρ Φ := by
  have he : ∀ l s us, ((base s).set j (some (tr (.lst l us))))[j]? = some (some (tr (.lst l us))) := fun l s us => List.getElem?_set_self (hb s)
  refine sxs_weak hw (sxs_of (ps_for c.po c.calm (pi_list (pe_var hNj hvj hd1 hd2)) (pg_tup c.calm (pgs_cons (pg_name c.nd hi1 hx1 hf1) (pgs_cons (pg_name c.nd hi hx hf) pgs_nil hs2) hs1) hn1 hst1) (pss_Sxs X W body) hs) fun σ F H M B F0 D ok q => ?_)
  obtain ⟨v, hσ, hv⟩ := ok.ok.at_ j _ (he l s0 ts)
  have hm0 : ∀ a o, (a, o) ∈ M j → H a = some o := fun a o z => (ok.ok.own j a o z).1
  obtain ⟨a, rfl, hva, ha⟩ : ∃ a, v = .ref a ∧ OT X.K F v (.lst (some a) ts) (M j) ∧ ∃ vs, H a = some (.lst vs) := by
    have hv' : OT X.K F v (.lst l ts) (M j) := hv
    generalize hM : M j = mj at hv' hm0
    cases hv' with
    | lst h1 h2 h3 => exact ⟨_, rfl, .lst (fun q e => Option.some.inj e) h2 h3, _, hm0 _ _ List.mem_cons_self⟩
  have okA := ok.reslot (he l s0 ts) hσ (S' := tr (.lst (some a) ts)) hva
  rw [List.set_set] at okA
  obtain ⟨vs0, hvs0⟩ := ha
  refine ⟨_, hσ, a, rfl, ⟨vs0, .of hvs0⟩, ?_⟩
  refine ⟨fun n m σ H => m = ts.length - n ∧ n ≤ ts.length ∧ ∃ s us F M, R n s us ∧ PInv X.K B F0 ((base s).set j (some (tr (.lst (some a) us)))) F σ H M, ⟨_, rfl, Nat.zero_le _, s0, ts, F, M, h0, okA⟩, ?_⟩
  rintro n m σ2 H2 ⟨rfl, hle, s, us, F2, M2, r2, ok2⟩
  obtain ⟨v2, hσ2, hv2⟩ := ok2.ok.at_ j _ (he (some a) s us)
  have hm2 : ∀ a o, (a, o) ∈ M2 j → H2 a = some o := fun a o z => (ok2.ok.own j a o z).1
  have hus := hR n s us r2
  have hv3 : OT X.K F2 v2 (.lst (some a) us) (M2 j) := hv2
  generalize hM2 : M2 j = mj at hv3 hm2
  cases hv3 with
  | @lst a2 _ vs _ mm g1 g2 g3 =>
    have ea : a2 = a := g1 a rfl
    subst ea
    have hH2 : H2 a2 = some (.lst vs) := hm2 _ _ List.mem_cons_self
    have hvl : vs.length = ts.length := g2.len.trans hus
    by_cases hlt : n < ts.length
    · refine .inr ⟨⟨vs, vs[n]'(by omega), .of hH2, List.getElem?_eq_getElem (by omega)⟩, fun σ' H' => n + 1 ≤ ts.length ∧ ∃ s us F M, R (n + 1) s us ∧ PInv X.K B F0 ((base s).set j (some (tr (.lst (some a2) us)))) F σ' H' M, fun σ' H' ⟨a1, a2⟩ => ⟨ts.length - (n + 1), by omega, rfl, a1, a2⟩, fun w H3 y => ?_⟩
      obtain ⟨rfl, hy⟩ := y
      have hw' := hy vs (.of hH2)
      obtain ⟨u, hu⟩ : ∃ u, us[n]? = some u := ⟨us[n]'(by omega), List.getElem?_eq_getElem (by omega)⟩
      obtain ⟨l1, d1, c1, rfl, st⟩ := step a2 n s us u r2 hu
      obtain ⟨w', mu, k1, k2, k3, _⟩ := g2.at hu
      rw [hw'] at k1; cases k1
      -- where the pair and its second stand
      have key : ∃ qq w1 w2, w = .ref qq ∧ H3 qq = some (.tup [w1, w2]) ∧ Dq X.K F2 w1 d1 ∧ ∃ q, (slotOf c1 q).R X.K F2 w2 [] ∧ ∀ w4 mu2, vs[n]? = some w4 → OT X.K F2 w4 (.tup l1 [.fz d1, c1]) mu2 → (∀ x, x ∈ mu2 → x ∈ mm) → OT X.K F2 w4 (.tup l1 [.fz d1, c1.ann q]) mu2 := by
        cases k2 with
        | @tup qq _ ws _ m5 z1 z2 z3 =>
          have hqq : H3 qq = some (.tup ws) := hm2 _ _ (List.mem_cons_of_mem _ (k3 _ List.mem_cons_self))
          cases z2 with
          | @cons w1 _ m6 ws' _ m7 o1 o2 ap =>
            cases o1 with
            | fz hd1 =>
              cases o2 with
              | @cons w2 _ m8 ws'' _ m9 o3 o4 ap2 =>
                cases o4
                cases c1 with
                | fz d2 =>
                  cases o3 with
                  | fz hd2 => exact ⟨qq, w1, w2, rfl, hqq, hd1, 0, ⟨rfl, hd2⟩, fun w4 mu2 _ o _ => o⟩
                | lst l3 us3 =>
                  cases o3 with
                  | @lst q _ _ _ _ y1 y2 y3 => exact ⟨qq, w1, _, rfl, hqq, hd1, q, ⟨rfl, rfl⟩, fun w4 mu2 e o hs => by
                      rw [hw'] at e; cases e
                      cases o with
                      | @tup _ _ ws2 _ _ x1 x2 x3 =>
                        have ew : H3 qq = some (.tup ws2) := hm2 _ _ (List.mem_cons_of_mem _ (hs _ List.mem_cons_self))
                        rw [hqq] at ew; cases ew
                        refine .tup x1 ?_ x3
                        cases x2 with
                        | cons t1 t2 t3 =>
                          cases t2 with
                          | cons t4 t5 t6 => exact .cons t1 (.cons (by cases t4 with | lst r1 r2 r3 => exact .lst (fun q e => Option.some.inj e) r2 r3) t5 t6) t3⟩
                | tup l3 us3 =>
                  cases o3 with
                  | @tup q _ _ _ _ y1 y2 y3 => exact ⟨qq, w1, _, rfl, hqq, hd1, q, ⟨rfl, rfl⟩, fun w4 mu2 e o hs => by
                      rw [hw'] at e; cases e
                      cases o with
                      | @tup _ _ ws2 _ _ x1 x2 x3 =>
                        have ew : H3 qq = some (.tup ws2) := hm2 _ _ (List.mem_cons_of_mem _ (hs _ List.mem_cons_self))
                        rw [hqq] at ew; cases ew
                        refine .tup x1 ?_ x3
                        cases x2 with
                        | cons t1 t2 t3 =>
                          cases t2 with
                          | cons t4 t5 t6 => exact .cons t1 (.cons (by cases t4 with | tup r1 r2 r3 => exact .tup (fun q e => Option.some.inj e) r2 r3) t5 t6) t3⟩
      obtain ⟨qq, w1, w2, rfl, hqq, hd1, q', hq', ann⟩ := key
      have hann : OT X.K F2 (.ref a2) (.lst (some a2) (us.set n (.tup l1 [.fz d1, c1.ann q']))) (M2 j) := by
        rw [hM2]
        exact .lst (fun q e => Option.some.inj e) (OTs.same2 g2 hu ann) g3
      have ok3 := ok2.reslot (he (some a2) s us) hσ2 (S' := tr (.lst (some a2) (us.set n (.tup l1 [.fz d1, c1.ann q'])))) hann
      rw [List.set_set] at ok3
      have ok3' := PInv.setF (i := i1) ok3 hd1
      have ok4 : PInv X.K B F0 ((((base s).set j (some (tr (.lst (some a2) (us.set n (.tup l1 [.fz d1, c1.ann q'])))))).set i1 (some (fz d1))).set i0 (some (slotOf c1 q'))) F2 ((σ2.set i1 (some w1)).set i0 (some w2)) H3 (upM (upM M2 i1 []) i0 []) := ok3'.set hq' fun _ _ z => nomatch z
      refine ⟨qq, [w1, w2], rfl, .of hqq, rfl, w1, [w2], rfl, w2, [], rfl, rfl, _, _, F2, _, B, F2, st q', ok4.based, fun o ho => ?_⟩
      have again : ∀ ρ', (∃ ρ'', Wk ρ' ρ'' ∧ ∃ s' us', ρ'' = (base s').set j (some (tr (.lst (some a2) us'))) ∧ R (n + 1) s' us') → ∀ F σ H M, PInv X.K B F2 ρ' F σ H M → n + 1 ≤ ts.length ∧ ∃ s us F M, R (n + 1) s us ∧ PInv X.K B F0 ((base s).set j (some (tr (.lst (some a2) us)))) F σ H M := fun ρ' ⟨ρ'', w, s', us', e, h⟩ F σ H M ok5 => by
        subst e
        exact ⟨hlt, s', us', F, M, h, (ok4.rebase ok5).weak w⟩
      cases o with
      | next ρ' => exact again ρ' ho
      | cont ρ' => exact again ρ' ho
      | brk ρ' => exact fun F σ H M ok5 => ⟨ρ', Φ, F, M, B, F0, ho, ok4.rebase ok5, q⟩
      | ret S ρ' => exact fun v F σ H M ok5 => q _ ho v F σ H M (ok4.rebase ok5)
      | raise c ρ' => exact fun F σ H M ok5 => q _ ho F σ H M (ok4.rebase ok5)
    · have e : n = ts.length := by omega
      subst e
      exact .inl ⟨⟨vs, .of hH2, by omega⟩, ⟨_, Φ, F2, M2, B, F0, done a2 s us r2, ok2, q⟩⟩
end
end PV

/-! The pure-value layer: equality of data; what a name owns moves on; a list so many times. -/
namespace PV
open PySem PySem.Spec PyProof.Rows L2
/-! ### clean data: no bools, no dicts, so deep at most -/
def cl : Nat → PyData → Bool
  | _, .none => true
  | _, .int _ => true
  | _, .str x => PyData.strOk x
  | n + 1, .list xs => xs.all (cl n)
  | n + 1, .tuple xs => xs.all (cl n)
  | _, _ => false
theorem cl_shape : ∀ (n : Nat) (d : PyData), cl n d = true → d.canLay0 = true ∧ d.depth ≤ n
  | _, .none, _ => ⟨by simp [PyData.canLay0], by simp [PyData.depth]⟩
  | _, .int _, _ => ⟨by simp [PyData.canLay0], by simp [PyData.depth]⟩
  | _, .str x, h => by
    have h : PyData.strOk x = true := by simpa [cl] using h
    exact ⟨by simpa [PyData.canLay0] using h, by simp [PyData.depth]⟩
  | 0, .list _, h => by simp [cl] at h
  | 0, .tuple _, h => by simp [cl] at h
  | _, .bool _, h => by simp [cl] at h
  | _, .dict _, h => by simp [cl] at h
  | n + 1, .list xs, h => by
    have h : xs.all (cl n) = true := by simpa [cl] using h
    have key : ∀ xs : List PyData, xs.all (cl n) = true → PyData.canLayAll0 xs = true ∧ PyData.depthAll xs ≤ n := by
      intro xs
      induction xs with
      | nil => intro _; exact ⟨by simp [PyData.canLayAll0], by simp [PyData.depthAll]⟩
      | cons x xs ih =>
        intro h
        have h' := Bool.and_eq_true_iff.mp (by simpa using h : (cl n x && xs.all (cl n)) = true)
        obtain ⟨a1, a2⟩ := cl_shape n x h'.1
        obtain ⟨b1, b2⟩ := ih h'.2
        refine ⟨by simp [PyData.canLayAll0, a1, b1], ?_⟩
        rw [PyData.depthAll]
        exact Nat.max_le.mpr ⟨a2, b2⟩
    obtain ⟨a, b⟩ := key xs h
    exact ⟨by simpa [PyData.canLay0] using a, by rw [PyData.depth]; omega⟩
  | n + 1, .tuple xs, h => by
    have h : xs.all (cl n) = true := by simpa [cl] using h
    have key : ∀ xs : List PyData, xs.all (cl n) = true → PyData.canLayAll0 xs = true ∧ PyData.depthAll xs ≤ n := by
      intro xs
      induction xs with
      | nil => intro _; exact ⟨by simp [PyData.canLayAll0], by simp [PyData.depthAll]⟩
      | cons x xs ih =>
        intro h
        have h' := Bool.and_eq_true_iff.mp (by simpa using h : (cl n x && xs.all (cl n)) = true)
        obtain ⟨a1, a2⟩ := cl_shape n x h'.1
        obtain ⟨b1, b2⟩ := ih h'.2
        refine ⟨by simp [PyData.canLayAll0, a1, b1], ?_⟩
        rw [PyData.depthAll]
        exact Nat.max_le.mpr ⟨a2, b2⟩
    obtain ⟨a, b⟩ := key xs h
    exact ⟨by simpa [PyData.canLay0] using a, by rw [PyData.depth]; omega⟩
theorem cl_shaped {n : Nat} {d : PyData} (h : cl n d = true) (hn : n ≤ 64 := by decide) : SeqAt.shaped d = true := by
  obtain ⟨a, b⟩ := cl_shape n d h
  unfold SeqAt.shaped
  rw [a, Bool.true_and]
  exact decide_eq_true (Nat.le_trans b hn)
theorem cl_eqv : ∀ (n m : Nat) (d e : PyData), cl n d = true → cl m e = true → (PyData.eqv d e = true ↔ d = e) := by
  have keyL : ∀ (n m : Nat), (∀ (m : Nat) (d e : PyData), cl n d = true → cl m e = true → (PyData.eqv d e = true ↔ d = e)) → ∀ xs ys : List PyData, xs.all (cl n) = true → ys.all (cl m) = true → (PyData.eqvAll xs ys = true ↔ xs = ys) := by
    intro n m ih xs
    induction xs with
    | nil => intro ys _ _; cases ys <;> simp [PyData.eqvAll]
    | cons x xs ihx =>
      intro ys h h'
      cases ys with
      | nil => simp [PyData.eqvAll]
      | cons y ys =>
        have h1 := Bool.and_eq_true_iff.mp (by simpa using h : (cl n x && xs.all (cl n)) = true)
        have h2 := Bool.and_eq_true_iff.mp (by simpa using h' : (cl m y && ys.all (cl m)) = true)
        rw [PyData.eqvAll, Bool.and_eq_true_iff, ih m x y h1.1 h2.1, ihx ys h1.2 h2.2, List.cons.injEq]
  intro n
  induction n with
  | zero =>
    intro m d e h h'
    cases d <;> cases e <;> cases m <;> simp_all [cl, PyData.eqv]
  | succ n ih =>
    intro m d e h h'
    cases d with
    | list xs =>
      cases e with
      | list ys =>
        cases m with
        | zero => simp [cl] at h'
        | succ m =>
          have a : xs.all (cl n) = true := by simpa [cl] using h
          have b : ys.all (cl m) = true := by simpa [cl] using h'
          rw [PyData.eqv, keyL n m ih xs ys a b, PyData.list.injEq]
      | _ => cases m <;> simp_all [cl, PyData.eqv]
    | tuple xs =>
      cases e with
      | tuple ys =>
        cases m with
        | zero => simp [cl] at h'
        | succ m =>
          have a : xs.all (cl n) = true := by simpa [cl] using h
          have b : ys.all (cl m) = true := by simpa [cl] using h'
          rw [PyData.eqv, keyL n m ih xs ys a b, PyData.tuple.injEq]
      | _ => cases m <;> simp_all [cl, PyData.eqv]
    | _ => cases e <;> cases m <;> simp_all [cl, PyData.eqv]
theorem cl_dec {n m : Nat} {d e : PyData} (h : cl n d = true) (h' : cl m e = true) [Decidable (d = e)] : PyData.eqv d e = decide (d = e) := by
  rw [Bool.eq_iff_iff, cl_eqv n m d e h h', decide_eq_true_iff]
theorem cl_same {n : Nat} {d e : PyData} (h : cl n d = true) (q : d = e) : PyData.eqv d e = true := (cl_eqv n n d e h (q ▸ h)).mpr q

/-! ### a new list, so many times -/
section
variable {X : Cx} {W : Wc} {ρ : Env} {e a b d : Expr} {es : List Expr} {pos p : Pos} {C : Ec → Addr} {k : Nat} {rest : List Stmt} {Φ : Out → Prop} {π : List Nat} {t : T} {l : Option Addr} {ts : List T}
theorem DqAll_rep {K : PySem.W.Frag} {F : Hp} {vs : List V} {ds : List PyData} (h : DqAll K F vs ds) : ∀ n : Nat, DqAll K F (List.replicate n vs).flatten (List.replicate n ds).flatten
  | 0 => .nil
  | n + 1 => by
    rw [List.replicate_succ, List.replicate_succ, List.flatten_cons, List.flatten_cons]
    exact DqAll_app h (DqAll_rep h n)
theorem fr_rep {ds : List PyData} {n : Int} (ha : Fr X W ρ a ds) (hb : Ev X W ρ b (.int n)) (c : -(2 ^ 62) ≤ n ∧ n < 2 ^ 62 ∧ ds.length * n.toNat ≤ sizeLine) : Fr X W ρ (.BinOp a .Mult b pos) (List.replicate n.toNat ds).flatten :=
  ⟨fun pins s σ F H M Q I ok h => (pe_op op_rep ha.pe hb.pe).run pins s σ H Q I ⟨F, M, ok, fun q vs F1 H1 x1 n1 n2 h1 d1 => rd (ok.ext x1) fun y F2 H2 x2 dy => by
    refine ⟨q, n, vs, rfl, dq_int dy, x2.h _ _ h1, by omega, by omega, by rw [DqAll_len d1]; exact c.2.2, fun p hp => ?_⟩
    have x3 := x1.trans x2
    have hF : F2 p = none := x2.sub.free hp
    exact h p _ F2 _ (x3.trans (.beside x2.sub hp)) (x3.h.free hp) hF upd_same (dqAll_mono x2.f _ _ (DqAll_rep d1 _))⟩⟩

/-! ### moves -/
/-- e's tree: parts of it are what the name j owned, the rest is new -/
structure FrM (X : Cx) (W : Wc) (ρ : Env) (e : Expr) (j : Nat) (t : T) : Prop where
  run : ∀ (pins : List (Addr × Obj)) (s : Shared) (σ : St) (F H : Hp) (M : Nat → Mini) (Q : VK), Inv X pins σ H s → EOk X.K ρ F σ H M →
    (∀ v F' H' m, Ext F H F' H' → OT X.K F' v t m → (∀ a o, (a, o) ∈ m → (a, o) ∈ M j ∨ (H' a = some o ∧ F' a = none ∧ H a = none)) → Q v H') →
    wpAny (model X.prog X.w) X.A (eval e X.env) (EP X pins σ Q) X.xe s
instance coFrM {X : Cx} {W : Wc} {ρ : Env} {e : Expr} {j : Nat} {t : T} : CoeFun (FrM X W ρ e j t) fun _ => ∀ (pins : List (Addr × Obj)) (s : Shared) (σ : St) (F H : Hp) (M : Nat → Mini) (Q : VK), Inv X pins σ H s → EOk X.K ρ F σ H M →
    (∀ v F' H' m, Ext F H F' H' → OT X.K F' v t m → (∀ a o, (a, o) ∈ m → (a, o) ∈ M j ∨ (H' a = some o ∧ F' a = none ∧ H a = none)) → Q v H') →
    wpAny (model X.prog X.w) X.A (eval e X.env) (EP X pins σ Q) X.xe s := ⟨fun h => h.run⟩
def tFrM (X : Cx) (ρ : Env) (j : Nat) (t : T) : TE := fun σ H Q => ∃ F M, EOk X.K ρ F σ H M ∧ (∀ v F' H' m, Ext F H F' H' → OT X.K F' v t m → (∀ a o, (a, o) ∈ m → (a, o) ∈ M j ∨ (H' a = some o ∧ F' a = none ∧ H a = none)) → Q v H')
structure FrMA (X : Cx) (W : Wc) (ρ : Env) (es : List Expr) (j : Nat) (ts : List T) : Prop where
  run : ∀ (pos : Pos) (pins : List (Addr × Obj)) (s : Shared) (σ : St) (F H : Hp) (M : Nat → Mini) (Q : List V → Hp → Prop), Inv X pins σ H s → EOk X.K ρ F σ H M →
    (∀ vs F' H' m, Ext F H F' H' → OTs X.K F' vs ts m → (∀ a o, (a, o) ∈ m → (a, o) ∈ M j ∨ (H' a = some o ∧ F' a = none ∧ H a = none)) → Q vs H') →
    wpAny (model X.prog X.w) X.A (spliced (backTo pos (starEach es X.env))) (AP X pins σ Q) X.xe s
instance coFrMA {X : Cx} {W : Wc} {ρ : Env} {es : List Expr} {j : Nat} {ts : List T} : CoeFun (FrMA X W ρ es j ts) fun _ => ∀ (pos : Pos) (pins : List (Addr × Obj)) (s : Shared) (σ : St) (F H : Hp) (M : Nat → Mini) (Q : List V → Hp → Prop), Inv X pins σ H s → EOk X.K ρ F σ H M →
    (∀ vs F' H' m, Ext F H F' H' → OTs X.K F' vs ts m → (∀ a o, (a, o) ∈ m → (a, o) ∈ M j ∨ (H' a = some o ∧ F' a = none ∧ H a = none)) → Q vs H') →
    wpAny (model X.prog X.w) X.A (spliced (backTo pos (starEach es X.env))) (AP X pins σ Q) X.xe s := ⟨fun h => h.run⟩
def tFrMA (X : Cx) (ρ : Env) (j : Nat) (ts : List T) : TA := fun σ H Q => ∃ F M, EOk X.K ρ F σ H M ∧ (∀ vs F' H' m, Ext F H F' H' → OTs X.K F' vs ts m → (∀ a o, (a, o) ∈ m → (a, o) ∈ M j ∨ (H' a = some o ∧ F' a = none ∧ H a = none)) → Q vs H')
theorem FrM.pe {j : Nat} (h : FrM X W ρ e j t) : PE X e (tFrM X ρ j t) := ⟨fun pins s σ H Q I ⟨F, M, ok, h1⟩ => h pins s σ F H M Q I ok h1⟩
theorem FrMA.pa {j : Nat} {ts : List T} (h : FrMA X W ρ es j ts) : PA X es (tFrMA X ρ j ts) := ⟨fun pos pins s σ H Q I ⟨F, M, ok, h1⟩ => h pos pins s σ F H M Q I ok h1⟩
theorem FrT.m {j : Nat} (h : FrT X W ρ e t) : FrM X W ρ e j t := ⟨fun pins s σ F H M Q I ok q => h pins s σ F H M Q I ok fun v F' H' m x o hm => q v F' H' m x o fun a o z => .inr (hm a o z)⟩
theorem FrTA.m {j : Nat} {ts : List T} (h : FrTA X W ρ es ts) : FrMA X W ρ es j ts := ⟨fun pos pins s σ F H M Q I ok q => h pos pins s σ F H M Q I ok fun v F' H' m x o hm => q v F' H' m x o fun a o z => .inr (hm a o z)⟩
/-- the part itself moves -/
theorem nd_m {j : Nat} {u : T} (h : Nd X W ρ e j π) (hj : ρ[j]? = some (some (tr t))) (hπ : t.at? π = some u) : FrM X W ρ e j u := ⟨fun pins s σ F H M Q I ok q => h pins s σ F H M Q I ok fun r v F' H' er x nv => by
  obtain ⟨r', er', z⟩ := ok.at_ j _ hj
  rw [er] at er'; cases er'
  obtain ⟨w, m1, n1, o1, sub⟩ := OT.get z (fun a o z => (ok.own j a o z).1) hπ
  have ev := NodeV.inj (n1.same x.h) nv
  subst ev
  exact q _ F' H' m1 x (OT.mono x.f _ _ _ o1) fun a o z => .inl (sub _ z)⟩
theorem ma_cons {j : Nat} {u : T} (ha : FrT X W ρ e u) (hr : FrMA X W ρ es j ts) (hs : starEach (e :: es) X.env = (false, eval e X.env) :: starEach es X.env := by rfl) : FrMA X W ρ (e :: es) j (u :: ts) :=
  ⟨fun pos pins s σ F H M Q I ok h => (pa_cons ha.pe hr.pa hs).run pos pins s σ H Q I ⟨F, M, ok, fun v F1 H1 m1 x1 h1 q1 => ⟨F1, M, ok.ext x1, fun vs F2 H2 m2 x2 h2 q2 => by
    have k1 := ot_keep x2 fun a o z => ⟨(q1 a o z).1, (q1 a o z).2.1⟩
    refine h (v :: vs) F2 H2 (m1 ++ m2) (x1.trans x2) (.cons (OT.mono x2.f _ _ _ h1) h2 fun b o o' z1 z2 => ?_) fun b o hm => ?_
    · have y := (q1 b o z1)
      rcases q2 b o' z2 with z | z
      · have w := (ok.own j b o' z).1
        rw [y.2.2] at w; cases w
      · have w := y.1
        rw [z.2.2] at w; cases w
    · rcases List.mem_append.mp hm with z | z
      · exact .inr ⟨(k1 b o z).1, (k1 b o z).2, (q1 b o z).2.2⟩
      · rcases q2 b o z with y | y
        · exact .inl y
        · exact .inr ⟨y.1, y.2.1, x1.h.free y.2.2⟩⟩⟩⟩
theorem ma_one {j : Nat} {u : T} (ha : FrM X W ρ e j u) (hr : FrTA X W ρ es ts) (hs : starEach (e :: es) X.env = (false, eval e X.env) :: starEach es X.env := by rfl) : FrMA X W ρ (e :: es) j (u :: ts) :=
  ⟨fun pos pins s σ F H M Q I ok h => (pa_cons ha.pe hr.pa hs).run pos pins s σ H Q I ⟨F, M, ok, fun v F1 H1 m1 x1 h1 q1 => ⟨F1, M, ok.ext x1, fun vs F2 H2 m2 x2 h2 q2 => by
    refine h (v :: vs) F2 H2 (m1 ++ m2) (x1.trans x2) (.cons (OT.mono x2.f _ _ _ h1) h2 fun b o o' z1 z2 => ?_) fun b o hm => ?_
    · have y := (q2 b o' z2).2.2
      rcases q1 b o z1 with z | z
      · have w := x1.h _ _ (ok.own j b o z).1
        rw [y] at w; cases w
      · have w := z.1
        rw [y] at w; cases w
    · rcases List.mem_append.mp hm with z | z
      · rcases q1 b o z with y | y
        · exact .inl y
        · have k1 := ot_keep (m := [(b, o)]) x2 (fun a o' z => by
            have e : (a, o') = (b, o) := by simpa using z
            cases e; exact ⟨y.1, y.2.1⟩) b o (by simp)
          exact .inr ⟨k1.1, k1.2, y.2.2⟩
      · obtain ⟨y1, y2, y3⟩ := q2 b o z
        exact .inr ⟨y1, y2, x1.h.free y3⟩⟩⟩⟩
theorem m_tup {j kk : Nat} (ha : FrMA X W ρ es j ts) (c : ts.length ≤ sizeLine := by exact PV.small (by simp)) : FrM X W ρ (.Tuple es kk pos) j (.tup none ts) :=
  ⟨fun pins s σ F H M Q I ok h => (pe_tup ha.pa).run pins s σ H Q I ⟨F, M, ok, fun vs F1 H1 m x1 o1 q1 => ⟨by rw [o1.len]; exact c, fun l hl => by
    have y := Ext.beside (o := .tup vs) x1.sub hl
    have nl : ∀ o, (l, o) ∉ m := fun o z => by
      rcases q1 l o z with w | w
      · have := x1.h _ _ (ok.own j l o w).1
        rw [hl] at this; cases this
      · rw [hl] at w; cases w.1
    refine h _ F1 _ ((l, .tup vs) :: m) (x1.trans y) (.tup (fun _ z => nomatch z) o1 nl) fun b o hm => ?_
    rcases List.mem_cons.mp hm with z | z
    · cases z
      exact .inr ⟨upd_same, x1.sub.free hl, x1.h.free hl⟩
    · rcases q1 b o z with w | w
      · exact .inl w
      · exact .inr ⟨y.h _ _ w.1, w.2⟩⟩⟩⟩
/-- e[:b] of a list that moves -/
theorem m_cut {j : Nat} {hi : Option Expr} {u : Option Int} {p2 : Pos} (hn : Nd X W ρ e j π) (hj : ρ[j]? = some (some (tr t))) (hπ : t.at? π = some (.lst l ts)) (hu : EvO X W ρ hi u) : FrM X W ρ (.Subscript e (.Slice none hi none p2) pos) j (.lst none (ts.take (HT.sIx ts.length ts.length u))) :=
  ⟨fun pins s σ F H M Q I ok h => (pe_slice sl_list hn.pe (EvO.po (o := none) (W := W) (by exact trivial)) hu.po).run pins s σ H Q I ⟨F, M, ok, fun r v F1 H1 er x1 nv => ⟨F1, M, ok.ext x1, fun F2 H2 x2 => ⟨F2, M, (ok.ext x1).ext x2, fun F3 H3 x3 => by
    obtain ⟨r', er', z⟩ := ok.at_ j _ hj
    rw [er] at er'; cases er'
    obtain ⟨w, m1, n1, o1, sub⟩ := OT.get z (fun a o z => (ok.own j a o z).1) hπ
    have ev := NodeV.inj (n1.same x1.h) nv
    subst ev
    cases o1 with
    | @lst a' _ vs _ m2 z1 z2 z3 =>
      have hH : H a' = some (.lst vs) := (ok.own j _ _ (sub _ List.mem_cons_self)).1
      have x := (x1.trans x2).trans x3
      refine ⟨a', vs, rfl, .of (x.h _ _ hH), fun q hq => ?_⟩
      have y := Ext.beside (o := .lst (cutV vs none u)) x3.sub hq
      have w : cutV vs none u = vs.take (HT.sIx ts.length ts.length u) := by
        unfold cutV
        rw [z2.len]
        simp [HT.sIx]
      obtain ⟨m', q1, q2⟩ := OTs.take (HT.sIx ts.length ts.length u) z2
      rw [w] at y ⊢
      refine h _ F3 _ ((q, .lst (vs.take (HT.sIx ts.length ts.length u))) :: m') (x.trans y) (.lst (fun _ z => nomatch z) (OTs.mono x.f _ _ _ q1) fun o zz => ?_) fun b o hm => ?_
      · have e := x.h _ _ (ok.own j _ _ (sub _ (List.mem_cons_of_mem _ (q2 _ zz)))).1
        rw [hq] at e; cases e
      · rcases List.mem_cons.mp hm with zz | zz
        · cases zz
          exact .inr ⟨upd_same, x3.sub.free hq, x.h.free hq⟩
        · exact .inl (sub _ (List.mem_cons_of_mem _ (q2 _ zz)))⟩⟩⟩⟩
/-- what the name j owned is forgotten -/
theorem PInv.drop {K : PySem.W.Frag} {B F0 F H : Hp} {σ : St} {M : Nat → Mini} (j : Nat) (x : PInv K B F0 ρ F σ H M) : PInv K B F0 (ρ.set j none) F σ H (upM M j []) where
  ok := by
    refine ⟨by rw [List.length_set]; exact x.ok.len, x.ok.sub, fun i S h => ?_, fun i a o h => ?_, fun i k a o o' h h' => ?_⟩
    · by_cases hi : i = j
      · subst hi
        by_cases hl : i < ρ.length
        · rw [List.getElem?_set_self hl] at h; cases h
        · rw [List.getElem?_eq_none (by simpa using hl)] at h; cases h
      · rw [List.getElem?_set_ne (Ne.symm hi)] at h
        obtain ⟨v, h1, h2⟩ := x.ok.at_ i S h
        exact ⟨v, h1, by rw [upM_ne hi]; exact h2⟩
    · by_cases hi : i = j
      · subst hi; rw [upM_same] at h; cases h
      · rw [upM_ne hi] at h; exact x.ok.own i a o h
    · by_cases hi : i = j
      · subst hi; rw [upM_same] at h; cases h
      · by_cases hk : k = j
        · subst hk; rw [upM_same] at h'; cases h'
        · rw [upM_ne hi] at h; rw [upM_ne hk] at h'; exact x.ok.apart i k a o o' h h'
  base := x.base
  f0 := x.f0
  nb := x.nb
  mb := fun i a o h => by
    by_cases hi : i = j
    · subst hi; rw [upM_same] at h; cases h
    · rw [upM_ne hi] at h; exact x.mb i a o h
/-- what a move brings, seen from the others -/
theorem PInv.moved {K : PySem.W.Frag} {B F0 F H F' H' : Hp} {σ : St} {M : Nat → Mini} {j : Nat} {m : Mini} (x : PInv K B F0 ρ F σ H M) (y : Ext F H F' H') (hm : ∀ a o, (a, o) ∈ m → (a, o) ∈ M j ∨ (H' a = some o ∧ F' a = none ∧ H a = none)) :
    ∀ a o, (a, o) ∈ m → H' a = some o ∧ F' a = none ∧ B a = none ∧ ∀ (i : Nat) (o' : HO), i ≠ j → (a, o') ∉ M i := fun a o z => by
  rcases hm a o z with w | w
  · have k1 := (x.ok.ext y).own j a o w
    exact ⟨k1.1, k1.2, x.mb j a o w, fun i o' hi h => hi (x.ok.apart i j a o' o h w)⟩
  · refine ⟨w.1, w.2.1, x.base.free w.2.2, fun i o' hi h => ?_⟩
    have := (x.ok.own i a o' h).1
    rw [w.2.2] at this; cases this
/-- x = e, e made of what j owned -/
theorem sxs_setM (i j : Nat) {x : Str} {pos' : Pos} (he : FrM X W ρ e j t) (k : Sxs X W rest ((ρ.set j none).set i (some (tr t))) Φ) (hN : X.N.Nodup)
    (hi : X.N[i]? = some x := by rfl) (hx : Loc X.env.scope x := by first | exact Or.inl rfl | exact Or.inr rfl) (hs : swapsWith e (some (.Name x pos')) pos.line X.env = pure false := by rfl)
    (hf : X.fn x = true ∨ X.env.scope.names.lookup x = some .local := by first | exact .inl rfl | exact .inr rfl) : Sxs X W (.Assign [.Name x pos'] e pos :: rest) ρ Φ :=
  sxs_of (ps_set hN hi hx he.pe hs hf) fun σ F H M B F0 D ok q => ⟨F, M, ok.ok, fun v F' H' m x1 hv hm => by
    have hm' := ok.moved x1 hm
    have ok' := (ok.ext x1).drop j
    refine ⟨_, Φ, F', _, B, F0, k, ok'.set hv fun a o z => ⟨(hm' a o z).1, (hm' a o z).2.1, (hm' a o z).2.2.1, fun i' o' hi' h => ?_⟩, q⟩
    by_cases hj : i' = j
    · subst hj; rw [upM_same] at h; cases h
    · rw [upM_ne hj] at h; exact (hm' a o z).2.2.2 i' o' hj h⟩
/-- e.append(d), d made of what i owned -/
theorem sxs_appendM (j i : Nat) {pa : Pos} {u : T} (hij : j ≠ i) (hj : ρ[j]? = some (some (tr t))) (hn : Nd X W ρ e j π) (hπ : t.at? π = some (.lst l ts)) (hd : FrM X W ρ d i u) (c : ts.length < sizeLine) (k : Sxs X W rest ((ρ.set i none).set j (some (tr (t.put π (.lst l (ts ++ [u])))))) Φ)
    (hp : ∀ t u, PE X e t → PE X d u → PE X (.Call (.Attribute e "append" pa) [d] [] p) (tBM X.K "list" rAppend t (tCons u tNil)) := by exact fun t u h h' => pe_bm PySem.F.plainAttrs_list PySem.F.slot_list_append PySem.F.type_list_append mt_append h (pa_cons h' pa_nil))
    (hs : swapsWith (.Call (.Attribute e "append" pa) [d] [] p) none pos.line X.env = pure false := by rfl) : Sxs X W (.Expr (.Call (.Attribute e "append" pa) [d] [] p) pos :: rest) ρ Φ :=
  sxs_of (ps_expr (hp _ _ hn.pe hd.pe) hs) fun σ F H M B F0 D ok q => ⟨F, M, ok.ok, fun r v F1 H1 er x1 nv => by
    obtain ⟨a, vs, m1, rfl, ha, o1, _, _, _⟩ := ok.mutT hj hπ er x1 nv
    refine ⟨ty_lst ha, F1, M, (ok.ext x1).ok, fun w F2 H2 m x2 hw hm => ?_⟩
    have x := x1.trans x2
    have hmv := (ok.ext x1).moved x2 hm
    have hσj : σ[j]? = some (some r) := er
    -- the tree at j: what it owns, and the list within
    obtain ⟨r', er', z0⟩ := ok.ok.at_ j _ hj
    rw [er] at er'; cases er'
    have hmj : ∀ a o, (a, o) ∈ M j → H a = some o := fun a o z => (ok.ok.own j a o z).1
    have z' : OT X.K F2 r t (M j) := OT.mono x.f _ _ _ z0
    obtain ⟨a', vs', mm, k1, k2, k3, k4, k5, k6, g7⟩ := OT.mut z' hπ
    have ev := NodeV.inj (((k6 H hmj).same x1.h)) nv
    cases ev
    have nm : ∀ b o, (b, o) ∈ m → ∀ o', (b, o') ∉ M j := fun b o hb o' hz => (hmv b o hb).2.2.2 j o' hij hz
    obtain ⟨m', s1, s2⟩ := g7 l (vs' ++ [w]) (ts ++ [u]) (mm ++ m) k2 (OTs.app k3 (OTs.one hw) fun b o o' z1 z2 => nm b o' z2 o (k4 _ z1)) fun b o hb => by
      rcases List.mem_append.mp hb with z | z
      · exact ⟨fun e => by subst e; exact k5 _ z, .inl z⟩
      · exact ⟨fun e => by subst e; exact nm _ o z _ k1, .inr (nm b o z)⟩
    have okd := ((ok.ext x1).ext x2).drop i
    have hj' : (ρ.set i none)[j]? = some (some (tr t)) := by rw [List.getElem?_set_ne (Ne.symm hij)]; exact hj
    have k1' : (a, HO.lst vs') ∈ upM M i [] j := by rw [upM_ne hij]; exact k1
    have ok' := okd.change (S' := tr (t.put π (.lst l (ts ++ [u])))) (m' := m') (o' := .lst (vs' ++ [w])) hj' er k1' s1 fun b o hb => by
      have other : ∀ (j' : Nat) (u' : HO), j' ≠ j → (b, u') ∈ upM M i [] j' → j' ≠ i ∧ (b, u') ∈ M j' := fun j' u' hne hz => by
        by_cases hi : j' = i
        · subst hi; rw [upM_same] at hz; cases hz
        · rw [upM_ne hi] at hz; exact ⟨hi, hz⟩
      rcases s2 b o hb with ⟨y1, y2⟩ | ⟨rfl, rfl⟩ | y
      · have w1 := ((ok.ext x1).ext x2).ok.own j b o y2
        exact ⟨by rw [upd_ne y1]; exact w1.1, w1.2, ok.mb j b o y2, fun j' u' hne hz => hne (ok.ok.apart j' j b u' o (other j' u' hne hz).2 y2)⟩
      · have w1 := ((ok.ext x1).ext x2).ok.own j _ _ k1
        exact ⟨upd_same, w1.2, ok.mb j _ _ k1, fun j' u' hne hz => hne (ok.ok.apart j' j _ u' _ (other j' u' hne hz).2 k1)⟩
      · rcases List.mem_append.mp y with y' | y'
        · have y2 := k4 _ y'
          have nb : b ≠ a := fun e => by subst e; exact k5 _ y'
          have w1 := ((ok.ext x1).ext x2).ok.own j b o y2
          exact ⟨by rw [upd_ne nb]; exact w1.1, w1.2, ok.mb j b o y2, fun j' u' hne hz => hne (ok.ok.apart j' j b u' o (other j' u' hne hz).2 y2)⟩
        · have nb : b ≠ a := fun e => by subst e; exact nm _ o y' _ k1
          obtain ⟨w1, w2, w3, w4⟩ := hmv b o y'
          exact ⟨by rw [upd_ne nb]; exact w1, w2, w3, fun j' u' hne hz => w4 j' u' (other j' u' hne hz).1 (other j' u' hne hz).2⟩
    have ha2 : H2 a = some (.lst vs') := x.h _ _ (hmj _ _ k1)
    exact ⟨a, vs', w, rfl, rfl, ha2, by rw [k3.len]; exact c, _, Φ, F2, _, B, F0, k, ok', q⟩⟩
end
end PV

/-! The pure-value layer: small helps for the walks. -/
namespace PV
open PySem PySem.Spec PyProof.Rows L2
theorem szl {n : Nat} (h : n ≤ 10000) : n ≤ sizeLine := Nat.le_trans h (by decide)
theorem szl' {n : Nat} (h : n < 10000) : n < sizeLine := Nat.lt_of_lt_of_le h (by decide)
theorem nums_of {n i : Nat} {d : PyData} (h : (nums 0 n)[i]? = some d) : i < n ∧ d = .int i := by
  have hl := (List.getElem?_eq_some_iff.mp h).1
  rw [nums_length] at hl
  rw [nums_get n 0 i hl] at h
  exact ⟨hl, by have := Option.some.inj h; rw [← this]; simp⟩
theorem atI_map {α : Type} (f : α → PyData) {xs : List α} {n : Nat} {d : α} (h : xs[n]? = some d) : atI (xs.map f) (n : Int) = some (f d) := atI_nat (by rw [List.getElem?_map, h]; rfl)
theorem enums_of {ds : List PyData} {i : Nat} {d : PyData} (h : (enums 0 ds)[i]? = some d) : ∃ e, ds[i]? = some e ∧ d = .tuple [.int i, e] := by
  have hl := (List.getElem?_eq_some_iff.mp h).1
  rw [enums_length] at hl
  have h1 : ds[i]? = some ds[i] := List.getElem?_eq_getElem hl
  refine ⟨_, h1, ?_⟩
  rw [enums_get ds 0 i _ h1] at h
  have := Option.some.inj h
  rw [← this]; simp
theorem rep_one {α : Type} (f : α → PyData) (a : α) : ∀ n : Nat, (List.replicate n [f a]).flatten = (List.replicate n a).map f
  | 0 => rfl
  | n + 1 => by rw [List.replicate_succ, List.flatten_cons, rep_one f a n, List.replicate_succ, List.map_cons]; rfl
theorem cut_map {α : Type} (f : α → PyData) (xs : List α) (lo hi : Option Int) : cutD (xs.map f) lo hi = ((xs.drop (HT.sIx xs.length 0 lo)).take (HT.sIx xs.length xs.length hi - HT.sIx xs.length 0 lo)).map f := by
  unfold cutD
  rw [List.length_map, ← List.map_drop, ← List.map_take]
theorem ixN_nat {n k : Nat} (h : k < n) : ixN n (k : Int) = some k := by
  unfold ixN
  rw [if_pos (by omega), if_pos (by omega)]
  rfl
theorem wkl_nil : WkL [] [] := trivial
theorem wkl_none {x : Option Slot} {a b : Env} (h : WkL a b) : WkL (x :: a) (none :: b) := by cases x <;> exact h
theorem wkl_some {x : Option Slot} {S : Slot} {a b : Env} (e : x = some S) (h : WkL a b) : WkL (x :: a) (some S :: b) := by
  cases x with
  | none => cases e
  | some S' => exact ⟨e, h⟩
theorem brw_trD {t : T} {d : PyData} (h : t.er = d) : Brw (tr t) (fz d) := h ▸ brw_tr
theorem at_set {l : Option Addr} {us : List T} {n : Nat} {v : T} {π : List Nat} (h : n < us.length) : (T.lst l (us.set n v)).at? (n :: π) = v.at? π := by
  simp only [T.at?, List.getElem?_set_self h]
theorem put_set {l : Option Addr} {us : List T} {n : Nat} {v u : T} {π : List Nat} (h : n < us.length) : (T.lst l (us.set n v)).put (n :: π) u = .lst l (us.set n (v.put π u)) := by
  simp only [T.put, List.getElem?_set_self h, List.set_set]
theorem er_fz (d : PyData) : (T.fz d).er = d := by rw [T.er]
theorem er_lst (l : Option Addr) (ts : List T) : (T.lst l ts).er = .list (ts.map T.er) := by rw [T.er, ers_map]
theorem er_tup (l : Option Addr) (ts : List T) : (T.tup l ts).er = .tuple (ts.map T.er) := by rw [T.er, ers_map]
theorem map_fz (ds : List PyData) : (ds.map T.fz).map T.er = ds := by
  rw [List.map_map]
  refine (List.map_congr_left fun d _ => ?_).trans (List.map_id ds)
  exact er_fz d
theorem map_er {α : Type} (f : α → T) (g : α → PyData) (h : ∀ a, (f a).er = g a) (xs : List α) : (xs.map f).map T.er = xs.map g := by
  rw [List.map_map]
  exact List.map_congr_left fun a _ => h a
theorem lst_er {α : Type} (l : Option Addr) (f : α → T) (g : α → PyData) (h : ∀ a, (f a).er = g a) (xs : List α) : (T.lst l (xs.map f)).er = .list (xs.map g) := by
  rw [er_lst, map_er f g h]
theorem map_strs_inj {xs ys : List Str} (h : xs.map PyData.str = ys.map PyData.str) : xs = ys := by
  induction xs generalizing ys with
  | nil => cases ys with | nil => rfl | cons => cases h
  | cons x xs ih =>
    cases ys with
    | nil => cases h
    | cons y ys =>
      rw [List.map_cons, List.map_cons, List.cons.injEq, PyData.str.injEq] at h
      rw [h.1, ih h.2]
theorem scs_all {α : Type} (f : α → T) (h : ∀ a, (f a).sc = true) : ∀ xs : List α, T.sc.T.scs (xs.map f) = true
  | [] => by simp [T.sc.T.scs]
  | x :: xs => by rw [List.map_cons, T.sc.T.scs, h x, scs_all f h xs]; rfl
theorem sc_lst {l : Option Addr} {ts : List T} (h : T.sc.T.scs ts = true) : (T.lst l ts).sc = true := by rw [T.sc]; exact h
theorem sc_tup {l : Option Addr} {ts : List T} (h : T.sc.T.scs ts = true) : (T.tup l ts).sc = true := by rw [T.sc]; exact h
theorem scs_nil : T.sc.T.scs [] = true := by simp [T.sc.T.scs]
theorem scs_cons {t : T} {ts : List T} (h : t.sc = true) (h2 : T.sc.T.scs ts = true) : T.sc.T.scs (t :: ts) = true := by rw [T.sc.T.scs, h, h2]; rfl
theorem sc_fz {d : PyData} (h : scalar d = true := by rfl) : (T.fz d).sc = true := by rw [T.sc]; exact h
section
variable {X : Cx} {W : Wc} {ρ : Env} {a b : Expr} {pos p : Pos}
/-- x is not None, x holds where something stands -/
theorem cm_notN_adr (i : Nat) {x : Str} {pos : Pos} {l : Addr} {j pos'} (hd : ρ[i]? = some (some (adr l))) (hN : X.N[i]? = some x := by rfl) (hv : Vis X.env.scope x := by first | exact Or.inl rfl | exact Or.inr (Or.inl rfl) | exact Or.inr (Or.inr rfl))
    (h1 : (x == ("__debug__" : Str)) = false := by decide) (h2 : (x == ("__classdict__" : Str)) = false := by decide) : Cm X W ρ .IsNot (.Name x pos) (.Constant .none j pos') true :=
  ⟨fun pins s σ F H M Q I ok h => (pc_notN (pe_var hN hv h1 h2)).run pins s σ H Q I (by
    obtain ⟨v, e, _, q⟩ := ok.at_ i _ hd
    subst q
    exact ⟨_, e, h F H (.refl ok.sub)⟩)⟩
theorem cm_isN_adr (i : Nat) {x : Str} {pos : Pos} {l : Addr} {j pos'} (hd : ρ[i]? = some (some (adr l))) (hN : X.N[i]? = some x := by rfl) (hv : Vis X.env.scope x := by first | exact Or.inl rfl | exact Or.inr (Or.inl rfl) | exact Or.inr (Or.inr rfl))
    (h1 : (x == ("__debug__" : Str)) = false := by decide) (h2 : (x == ("__classdict__" : Str)) = false := by decide) : Cm X W ρ .Is (.Name x pos) (.Constant .none j pos') false :=
  ⟨fun pins s σ F H M Q I ok h => (pc_isN (pe_var hN hv h1 h2)).run pins s σ H Q I (by
    obtain ⟨v, e, _, q⟩ := ok.at_ i _ hd
    subst q
    exact ⟨_, e, h F H (.refl ok.sub)⟩)⟩
/-- or of two tests, known by what they tell -/
theorem tst_or2 {p q r : Bool} (h : Tst X W ρ a p) (h2 : p = false → Tst X W ρ b q) (e : r = (p || q)) : Tst X W ρ (.BoolOp .Or [a, b] pos) r := by
  rw [e]
  exact Tws.tst (tw_or h fun z => tw_or1 (h2 z))
theorem tst_and2 {p q r : Bool} (h : Tst X W ρ a p) (h2 : p = true → Tst X W ρ b q) (e : r = (p && q)) : Tst X W ρ (.BoolOp .And [a, b] pos) r := by
  rw [e]
  exact Tws.tst (tw_and h fun z => tw_and1 (h2 z))
theorem Tst.to {p q : Bool} (h : Tst X W ρ a p) (e : p = q) : Tst X W ρ a q := e ▸ h
theorem Rv.to {d e : PyData} (h : Rv X W ρ a d) (q : d = e) : Rv X W ρ a e := q ▸ h
theorem evo {i : Int} (h : Ev X W ρ a (.int i)) : EvO X W ρ (some a) (some i) := h
theorem evo_n : EvO X W ρ none none := trivial
theorem Fr.to {ds es : List PyData} (h : Fr X W ρ a ds) (q : ds = es) : Fr X W ρ a es := q ▸ h
theorem FrT.to {t u : T} (h : FrT X W ρ a t) (q : t = u) : FrT X W ρ a u := q ▸ h
theorem Bw.to {ds es : List PyData} (h : Bw X W ρ a ds) (q : ds = es) : Bw X W ρ a es := q ▸ h
theorem Ev.to {d e : PyData} (h : Ev X W ρ a d) (q : d = e) : Ev X W ρ a e := q ▸ h
end
end PV

/-! The pure-value layer: the end of a law. -/
namespace PV
open PySem PySem.Spec PyProof.Rows L2
/-- a def as a datum -/
def dd (x : Str) (st : Stmt) : He.DefD := ⟨(x, none), x, x, defArgs st, defBody st, defScope st, [], []⟩
section
variable {K : PySem.W.Frag} {mg : Str → Option Value} {h : Heap} {fa : List He.Fa} {fn : List He.DefD}
theorem df_of (X : K.In h) (G : h.Ns mainGlobals mg) (c : He.SaysD fa fn K) (i j : Nat) {x : Str} {st : Stmt} (h1 : fn[i]? = some (dd x st) := by rfl) (h2 : fa[j]? = some (.glo x) := by rfl) : Df K mg x st := by
  obtain ⟨fd, F⟩ := c.def_ i h1
  obtain ⟨oc, od, dV, kV, doc, pm, an, cdv, ct, osl, e, lk, hc, hD, hK⟩ := F.ex
  have hd : dV = .none := by
    rcases hD with ⟨_, z⟩ | ⟨z, _⟩
    · exact z
    · exact absurd rfl z
  subst hd
  exact ⟨_, fd, ⟨⟨oc, od, kV, doc, pm, an, cdv, ct, osl, e, lk, hc⟩, F.kp⟩, He.glo_ok X G (c.fact j h2)⟩
/-- the names of built-ins that the module leaves alone -/
def bltFa : List He.Fa := [.free "len", .free "range", .free "max", .free "min", .free "enumerate", .free "zip", .free "isinstance", .free "list", .free "dict", .free "int", .free "str", .free "bool", .free "tuple", .free "sum", .free "any", .free "all", .free "sorted"]
theorem blt_of {rest : List He.Fa} (X : K.In h) (G : h.Ns mainGlobals mg) (c : He.SaysD (bltFa ++ rest) fn K) : Blt mg where
  len := He.free_ok X G (c.fact 0 rfl)
  range := He.free_ok X G (c.fact 1 rfl)
  max := He.free_ok X G (c.fact 2 rfl)
  min := He.free_ok X G (c.fact 3 rfl)
  enumerate := He.free_ok X G (c.fact 4 rfl)
  zip := He.free_ok X G (c.fact 5 rfl)
  isinstance := He.free_ok X G (c.fact 6 rfl)
  list := He.free_ok X G (c.fact 7 rfl)
  dict := He.free_ok X G (c.fact 8 rfl)
  int := He.free_ok X G (c.fact 9 rfl)
  str := He.free_ok X G (c.fact 10 rfl)
  bool := He.free_ok X G (c.fact 11 rfl)
  tuple := He.free_ok X G (c.fact 12 rfl)
  sum := He.free_ok X G (c.fact 13 rfl)
  any := He.free_ok X G (c.fact 14 rfl)
  all := He.free_ok X G (c.fact 15 rfl)
  sorted := He.free_ok X G (c.fact 16 rfl)
end
/-- what a law promises: a list of ints comes in, True comes out -/
abbrev spLaw (K : PySem.W.Frag) (C : Ec → Addr) (pre : List Int → Prop) : Sp := spP K C 1 (fun ns : List Int => [kn (ns.map PyData.int)]) pre (fun _ => is (.ok (fz (.bool true))))
theorem spLaw_ok {K : PySem.W.Frag} {C : Ec → Addr} {pre : List Int → Prop} {H : Hp} {a : Addr} {ns : List Int} (hp : pre ns) (hS : SqL K H a (ns.map V.int)) : spLaw K C pre [.ref a] H (fun v _ => v = .bl true) fun _ _ _ => False :=
  ⟨ns, H, .refl _, rfl, .cons ⟨rfl, a, _, rfl, hS, ints_dqAll ns⟩ .nil, hp, fun S e v F' H' m x hv _ => by
    have e : S = fz (.bool true) := Except.ok.inj e
    subst e
    exact dq_bl hv.2, fun c e => nomatch e⟩
theorem law_end {l : PySem.W.OpenLaw} {most k : Nat} {q : Program} {loose : List Str} {XP : (Str → Option Value) → Heap → Prop} {YP : World → Heap → Prop} {d : DefRec} {pre : List Int → Prop} (e1 : l.most = some most) (e2 : most ≤ sizeLine) (e3 : d.params.defaults = []) (e4 : Room k callerA) (e5 : d.name = "law") (hp : ∀ ns : List Int, ns.length ≤ most → pre ns)
    (F : ∀ (w : World) (mg : Str → Option Value) (h : Heap), YP w h → h.Ns mainGlobals mg → ∃ (K : PySem.W.Frag) (C : Ec → Addr), K.In h ∧ ∀ base : Heap, CalleeP l.prog w K mg base k "law" ["script"] (spLaw K C pre)) : PySem.W.WalkO q loose XP YP l.row.toRowW d [] (fun f vs => PySem.call f vs) := by
  refine Att.attach_call e1 e3 fun w s0 s1 mg mb fa o pm cd doc a vs ns G Y ho hd hcd gl obj hints len hg => ?_
  obtain ⟨K, C, KX, L⟩ := F w mg _ Y G.T.g
  rw [e5] at gl
  obtain ⟨f0, fd0, ok0, g0, -, -, b0, oc0, od0, sl0, lk0⟩ := L default
  obtain rfl : fa = f0 := by
    have z := g0.symm.trans gl
    exact (Value.ref.inj (Option.some.inj z)).symm
  refine law_call (fd := fd0) KX G.T.g G.T.b G.T.builtins G.T.nolimit hg obj hints (Nat.le_trans len e2) e4 (CX := L2.CX l.prog w) (sp := spLaw K C pre) (fun base hb hn => ?_) (fun s v => b0 s [v] rfl)
    (fun H _ hS => spLaw_ok (hp ns len) hS) fun H e s' z => ?_
  · obtain ⟨f1, fd1, ok1, g1, -, -, -, oc1, od1, sl1, lk1⟩ := L base
    obtain rfl : fa = f1 := by
      have z := g1.symm.trans gl
      exact (Value.ref.inj (Option.some.inj z)).symm
    rw [lk0] at lk1
    cases lk1
    exact ok1
  · obtain ⟨_, _, _, _, _, _, _, _, _, _, _, _, z⟩ := z
    exact z
end PV

/-! The pure-value layer: dicts that a name owns. -/
namespace PV
open PySem PySem.Spec PyProof.Rows L2
theorem dq_key {K : PySem.W.Frag} {F : Hp} {v : V} {k : Key} (h : Dq K F v (kD k)) : v = kV k := by
  cases k with
  | inl i => exact dq_int h
  | inr s => exact dq_str h
theorem dqAll_keys {K : PySem.W.Frag} {F : Hp} : ∀ {ks : List Key} {vs : List V}, DqAll K F vs (ks.map kD) → vs = ks.map kV
  | [], _, h => by cases h; rfl
  | k :: ks, _, h => by
    cases h with
    | cons h1 h2 => rw [dq_key h1, dqAll_keys h2, List.map_cons]
theorem dq_tkey {K : PySem.W.Frag} {F : Hp} {v : V} {k : List Key} (h : Dq K F v (.tuple (k.map kD))) : ∃ b, v = .ref b ∧ F b = some (.tup (k.map kV)) := by
  obtain ⟨a, vs, rfl, h1, h2⟩ := dq_tupH h
  rw [dqAll_keys h2] at h1
  exact ⟨a, rfl, h1⟩
section
variable {κ : Type} [DecidableEq κ]
def getP (kvs : List (κ × PyData)) (k : κ) : Option PyData := (kvs.find? fun kv => decide (kv.1 = k)).map (·.2)
def putP (kvs : List (κ × PyData)) (k : κ) (d : PyData) : List (κ × PyData) :=
  if (kvs.any fun kv => decide (kv.1 = k)) = true then kvs.map (fun kv => if kv.1 = k then (kv.1, d) else kv) else kvs ++ [(k, d)]
theorem getP_put : ∀ (kvs : List (κ × PyData)) (k j : κ) (d : PyData), getP (putP kvs k d) j = if j = k then some d else getP kvs j := by
  intro kvs k j d
  unfold putP
  split
  · rename_i hany
    induction kvs with
    | nil => simp at hany
    | cons p kvs ih =>
      by_cases hp : p.1 = k
      · rw [List.map_cons, if_pos hp]
        by_cases hj : j = k
        · subst hj
          simp [getP, hp]
        · have : ¬ p.1 = j := fun e => hj (e.symm.trans hp)
          have key : ∀ l : List (κ × PyData), getP (l.map fun kv => if kv.1 = k then (kv.1, d) else kv) j = getP l j := by
            intro l
            induction l with
            | nil => rfl
            | cons q l ihl =>
              unfold getP at ihl ⊢
              by_cases hq : q.1 = k
              · have hqj : ¬ q.1 = j := fun e => hj (e.symm.trans hq)
                rw [List.map_cons, if_pos hq, List.find?_cons, List.find?_cons]
                simp only [hqj, decide_false]
                exact ihl
              · rw [List.map_cons, if_neg hq, List.find?_cons, List.find?_cons]
                by_cases hqj : q.1 = j
                · simp [hqj]
                · simp only [hqj, decide_false]
                  exact ihl
          rw [if_neg hj]
          have e1 : getP ((p.1, d) :: kvs.map fun kv => if kv.1 = k then (kv.1, d) else kv) j = getP (kvs.map fun kv => if kv.1 = k then (kv.1, d) else kv) j := by
            unfold getP; rw [List.find?_cons]; simp [this]
          have e2 : getP (p :: kvs) j = getP kvs j := by unfold getP; rw [List.find?_cons]; simp [this]
          rw [e1, e2, key]
      · have h2 : (kvs.any fun kv => decide (kv.1 = k)) = true := by simpa [hp] using hany
        have ih := ih h2
        rw [List.map_cons, if_neg hp]
        by_cases hj : p.1 = j
        · have hjk : ¬ j = k := fun e => hp (hj.trans e)
          rw [if_neg hjk]
          unfold getP; rw [List.find?_cons, List.find?_cons]; simp [hj]
        · have e1 : ∀ l : List (κ × PyData), getP (p :: l) j = getP l j := fun l => by unfold getP; rw [List.find?_cons]; simp [hj]
          rw [e1, e1, ih]
  · rename_i hany
    have hno : ∀ p ∈ kvs, ¬ p.1 = k := fun p hp e => hany (List.any_eq_true.mpr ⟨p, hp, by simpa using e⟩)
    by_cases hj : j = k
    · subst hj
      rw [if_pos rfl]
      unfold getP
      rw [List.find?_append]
      have : kvs.find? (fun kv => decide (kv.1 = j)) = none := by
        rw [List.find?_eq_none]
        intro p hp
        simpa using hno p hp
      rw [this]
      simp
    · rw [if_neg hj]
      unfold getP
      rw [List.find?_append]
      have : [(k, d)].find? (fun kv : κ × PyData => decide (kv.1 = j)) = none := by
        rw [List.find?_eq_none]
        intro p hp
        have : p = (k, d) := by simpa using hp
        subst this
        simpa using fun e => hj e.symm
      rw [this]
      cases kvs.find? fun kv => decide (kv.1 = j) <;> rfl
theorem putP_len (kvs : List (κ × PyData)) (k : κ) (d : PyData) : (putP kvs k d).length ≤ kvs.length + 1 := by
  unfold putP
  split
  · rw [List.length_map]; omega
  · rw [List.length_append]; simp
/-- a dict's pairs, and the data that they stand for -/
def KvR (K : PySem.W.Frag) (F : Hp) : List (κ × V) → List (κ × PyData) → Prop := Paired fun p q => p.1 = q.1 ∧ Dq K F p.2 q.2
theorem KvR.mono {K : PySem.W.Frag} {F F' : Hp} (e : Same F F') : ∀ {ps : List (κ × V)} {qs : List (κ × PyData)}, KvR K F ps qs → KvR K F' ps qs
  | _, _, .nil => .nil
  | _, _, .cons h t => .cons ⟨h.1, dq_mono e _ _ h.2⟩ (KvR.mono e t)
theorem KvR.len {K : PySem.W.Frag} {F : Hp} {ps : List (κ × V)} {qs : List (κ × PyData)} (h : KvR K F ps qs) : ps.length = qs.length := Paired.length h
theorem KvR.get {K : PySem.W.Frag} {F : Hp} (k : κ) : ∀ {ps : List (κ × V)} {qs : List (κ × PyData)}, KvR K F ps qs → (valV ps k = none ∧ getP qs k = none) ∨ ∃ v d, valV ps k = some v ∧ getP qs k = some d ∧ Dq K F v d
  | _, _, .nil => .inl ⟨rfl, rfl⟩
  | p :: ps, q :: qs, .cons h t => by
    by_cases e : p.1 = k
    · refine .inr ⟨p.2, q.2, valV_pos e, ?_, h.2⟩
      have e' : q.1 = k := h.1 ▸ e
      simp [getP, e']
    · have e' : ¬ q.1 = k := h.1 ▸ e
      have g : getP (q :: qs) k = getP qs k := by simp [getP, e']
      rw [valV_neg e, g]
      exact KvR.get k t
theorem KvR.put {K : PySem.W.Frag} {F : Hp} (k : κ) {v : V} {d : PyData} (hv : Dq K F v d) {ps : List (κ × V)} {qs : List (κ × PyData)} (h : KvR K F ps qs) : KvR K F (putK ps k v) (putP qs k d) := by
  have e : (ps.any fun kv => decide (kv.1 = k)) = (qs.any fun kv => decide (kv.1 = k)) := by
    induction h with
    | nil => rfl
    | cons h t ih => rw [List.any_cons, List.any_cons, ih, h.1]
  unfold putK putP
  rw [e]
  split
  · clear e
    induction h with
    | nil => exact .nil
    | @cons p q ps qs h t ih =>
      have key : ∀ {ps : List (κ × V)} {qs : List (κ × PyData)}, KvR K F ps qs → KvR K F (ps.map fun kv => if kv.1 = k then (kv.1, v) else kv) (qs.map fun kv => if kv.1 = k then (kv.1, d) else kv) := by
        intro ps qs h
        induction h with
        | nil => exact .nil
        | @cons p q ps qs h t ih =>
          rw [List.map_cons, List.map_cons]
          refine .cons ?_ ih
          by_cases hp : p.1 = k
          · have hq : q.1 = k := h.1 ▸ hp
            rw [if_pos hp, if_pos hq]
            exact ⟨h.1, hv⟩
          · have hq : ¬ q.1 = k := h.1 ▸ hp
            rw [if_neg hp, if_neg hq]
            exact h
      exact key (.cons h t)
  · rename_i hn
    clear hn e
    induction h with
    | nil => exact .cons ⟨rfl, hv⟩ .nil
    | cons h t ih => exact .cons h ih
end
/-- dicts of keys that are numbers or texts, of keys that are tuples of such -/
def dk (kvs : List (Key × PyData)) : Slot := ⟨fun K F v m => ∃ a ps, v = .ref a ∧ m = [(a, .dK ps)] ∧ KvR K F ps kvs, fun _ _ _ _ _ e ⟨a, ps, h1, h2, h3⟩ => ⟨a, ps, h1, h2, h3.mono e⟩⟩
def dt (kvs : List (List Key × PyData)) : Slot := ⟨fun K F v m => ∃ a ps, v = .ref a ∧ m = [(a, .dT ps)] ∧ KvR K F ps kvs, fun _ _ _ _ _ e ⟨a, ps, h1, h2, h3⟩ => ⟨a, ps, h1, h2, h3.mono e⟩⟩
section
variable {X : Cx} {W : Wc} {ρ : Env} {e a b d : Expr} {es : List Expr} {pos p : Pos} {C : Ec → Addr} {k : Nat} {rest : List Stmt} {Φ : Out → Prop}
theorem Ctx.hu (c : Ctx X C W k) : X.A.units + 1 < cLine := hu_of c.room
/-- an expression that makes what a slot holds -/
structure FrS (X : Cx) (W : Wc) (ρ : Env) (e : Expr) (S : Slot) : Prop where
  run : ∀ (pins : List (Addr × Obj)) (s : Shared) (σ : St) (F H : Hp) (M : Nat → Mini) (Q : VK), Inv X pins σ H s → EOk X.K ρ F σ H M →
    (∀ v F' H' m, Ext F H F' H' → S.R X.K F' v m → (∀ a o, (a, o) ∈ m → H' a = some o ∧ F' a = none ∧ H a = none) → Q v H') →
    wpAny (model X.prog X.w) X.A (eval e X.env) (EP X pins σ Q) X.xe s
instance coFrS {X : Cx} {W : Wc} {ρ : Env} {e : Expr} {S : Slot} : CoeFun (FrS X W ρ e S) fun _ => ∀ (pins : List (Addr × Obj)) (s : Shared) (σ : St) (F H : Hp) (M : Nat → Mini) (Q : VK), Inv X pins σ H s → EOk X.K ρ F σ H M →
    (∀ v F' H' m, Ext F H F' H' → S.R X.K F' v m → (∀ a o, (a, o) ∈ m → H' a = some o ∧ F' a = none ∧ H a = none) → Q v H') →
    wpAny (model X.prog X.w) X.A (eval e X.env) (EP X pins σ Q) X.xe s := ⟨fun h => h.run⟩
def tFrS (X : Cx) (ρ : Env) (S : Slot) : TE := fun σ H Q => ∃ F M, EOk X.K ρ F σ H M ∧ (∀ v F' H' m, Ext F H F' H' → S.R X.K F' v m → (∀ a o, (a, o) ∈ m → H' a = some o ∧ F' a = none ∧ H a = none) → Q v H')
theorem FrS.pe {S : Slot} (h : FrS X W ρ e S) : PE X e (tFrS X ρ S) := ⟨fun pins s σ H Q I ⟨F, M, ok, h1⟩ => h pins s σ F H M Q I ok h1⟩
theorem FrT.sl {t : T} (h : FrT X W ρ e t) : FrS X W ρ e (tr t) := ⟨h.run⟩
theorem s_dk : FrS X W ρ (.Dict [] [] pos) (dk []) := ⟨fun pins s σ F H M Q I ok h => pe_dnewK.run pins s σ H Q I fun p hp =>
  h _ F _ [(p, .dK [])] (.beside ok.sub hp) ⟨p, [], rfl, rfl, .nil⟩ fun a o z => by
    have z : (a, o) = (p, HO.dK []) := by simpa using z
    cases z
    exact ⟨upd_same, ok.sub.free hp, hp⟩⟩
theorem s_dt : FrS X W ρ (.Dict [] [] pos) (dt []) := ⟨fun pins s σ F H M Q I ok h => pe_dnewT.run pins s σ H Q I fun p hp =>
  h _ F _ [(p, .dT [])] (.beside ok.sub hp) ⟨p, [], rfl, rfl, .nil⟩ fun a o z => by
    have z : (a, o) = (p, HO.dT []) := by simpa using z
    cases z
    exact ⟨upd_same, ok.sub.free hp, hp⟩⟩
/-- x = e -/
theorem sxs_setS (i : Nat) {x : Str} {pos' : Pos} {S : Slot} (he : FrS X W ρ e S) (k : Sxs X W rest (ρ.set i (some S)) Φ) (hN : X.N.Nodup)
    (hi : X.N[i]? = some x := by rfl) (hx : Loc X.env.scope x := by first | exact Or.inl rfl | exact Or.inr rfl) (hs : swapsWith e (some (.Name x pos')) pos.line X.env = pure false := by rfl)
    (hf : X.fn x = true ∨ X.env.scope.names.lookup x = some .local := by first | exact .inl rfl | exact .inr rfl) :
    Sxs X W (.Assign [.Name x pos'] e pos :: rest) ρ Φ :=
  sxs_of (ps_set hN hi hx he.pe hs hf) fun σ F H M B F0 D ok q => ⟨F, M, ok.ok, fun v F' H' m x hv hm => by
    have y : PInv X.K B F0 (ρ.set i (some S)) F' (σ.set i (some v)) H' (upM M i m) := (ok.ext x).set hv fun a o z => by
      obtain ⟨y1, y2, y3⟩ := hm a o z
      refine ⟨y1, y2, ok.base.free y3, fun j o' hj hm' => ?_⟩
      have w := (ok.ok.own j a o' hm').1
      rw [y3] at w; cases w
    exact ⟨_, Φ, F', _, B, F0, k, y, q⟩⟩
theorem s_call {ι : Type} {n : Nat} {ins : ι → List Slot} {pre : ι → Prop} {r : ι → Except Ec Slot → Prop} {x : Str} {j : Nat} {S : Slot} (c : Ctx X C W k) (G : Callee X.prog X.w X.K X.mg X.base j x (spP X.K C n ins pre r)) (i : ι) (hp : pre i) (hr : ∀ o, r i o → o = .ok S) (ha : EvAS X W ρ (e :: es) (ins i)) (hj : j ≤ k := by decide) (hn : (ins i).length = n := by rfl)
    (hg : Gl X x := by rfl) (hdb : (x == ("__debug__" : Str)) = false := by decide) (he : starEach (e :: es) X.env = (false, eval e X.env) :: starEach es X.env := by rfl) (hpl : (backTo pos (starEach es X.env)).any (·.1) = false := by rfl) : FrS X W ρ (.Call (.Name x p) (e :: es) [] pos) S :=
  ⟨fun pins s σ F H M Q I ok h1 => call_any c G hj i hp ha hn hg hdb he hpl pins s σ F H M Q I ok (fun S' hS v F' H' m x2 hv hm => by
    have e : S' = S := Except.ok.inj (hr _ hS)
    subst e
    exact h1 v F' H' m x2 hv hm) fun c hc F' H' x2 => nomatch hr _ hc⟩
/-! ### what is read of a dict -/
/-- e holds the dict that the name i owns; gk tells what stands at a key y -/
def DcAt (X : Cx) (ρ : Env) (i : Nat) (y : PyData) (o : Option PyData) : Prop :=
  ∀ (σ : St) (F H : Hp) (M : Nat → Mini), EOk X.K ρ F σ H M → ∃ a, σ[i]? = some (some (.ref a)) ∧ IsD H a ∧ ∀ F' H' v, Ext F H F' H' → Dq X.K F' v y → (o = none ∧ DGet H' a v none) ∨ ∃ u d, o = some d ∧ DGet H' a v (some u) ∧ Dq X.K F' u d
theorem dc_k (i : Nat) {kvs : List (Key × PyData)} (y : Key) (h : ρ[i]? = some (some (dk kvs))) : DcAt X ρ i (kD y) (getP kvs y) := fun σ F H M ok => by
  obtain ⟨v, e, a, ps, rfl, hm, r⟩ := ok.at_ i _ h
  have hH : H a = some (.dK ps) := (ok.own i a _ (by rw [hm]; exact List.mem_cons_self)).1
  refine ⟨a, e, .inl ⟨ps, .of hH⟩, fun F' H' v x dv => ?_⟩
  have hg : DGet H' a (kV y) (valV ps y) := DGet.k (x.h _ _ hH)
  rw [dq_key dv]
  rcases r.get y with ⟨h1, h2⟩ | ⟨u, d, h1, h2, h3⟩
  · rw [h1] at hg; exact .inl ⟨h2, hg⟩
  · rw [h1] at hg; exact .inr ⟨u, d, h2, hg, dq_mono x.f _ _ h3⟩
theorem dc_t (i : Nat) {kvs : List (List Key × PyData)} (y : List Key) (h : ρ[i]? = some (some (dt kvs))) : DcAt X ρ i (.tuple (y.map kD)) (getP kvs y) := fun σ F H M ok => by
  obtain ⟨v, e, a, ps, rfl, hm, r⟩ := ok.at_ i _ h
  have hH : H a = some (.dT ps) := (ok.own i a _ (by rw [hm]; exact List.mem_cons_self)).1
  refine ⟨a, e, .inr ⟨ps, .of hH⟩, fun F' H' v x dv => ?_⟩
  obtain ⟨b, rfl, hb⟩ := dq_tkey dv
  have hg : DGet H' a (.ref b) (valV ps y) := DGet.t (x.h _ _ hH) (x.sub _ _ hb)
  rcases r.get y with ⟨h1, h2⟩ | ⟨u, d, h1, h2, h3⟩
  · rw [h1] at hg; exact .inl ⟨h2, hg⟩
  · rw [h1] at hg; exact .inr ⟨u, d, h2, hg, dq_mono x.f _ _ h3⟩
variable {i : Nat} {y : PyData} {o : Option PyData} {x : Str} {px : Pos}
/-- x[b] -/
theorem ev_dget {d : PyData} (c : Ctx X C W k) (hd : DcAt X ρ i y (some d)) (hb : Ev X W ρ b y) (hs : NoSl b := by exact fun _ _ => rfl) (hN : X.N[i]? = some x := by rfl) (hv : Vis X.env.scope x := by first | exact Or.inl rfl | exact Or.inr (Or.inl rfl) | exact Or.inr (Or.inr rfl))
    (h1 : (x == ("__debug__" : Str)) = false := by decide) (h2 : (x == ("__classdict__" : Str)) = false := by decide) : Ev X W ρ (.Subscript (.Name x px) b pos) d :=
  ev1_of (pe_dget c.hu (pe_var hN hv h1 h2) hb.pe hs) fun σ F H M Q ok h => by
    obtain ⟨a, e, _, g⟩ := hd σ F H M ok
    refine ⟨_, e, rd ok fun v F1 H1 x1 dv => ?_⟩
    rcases g F1 H1 v x1 dv with ⟨z, _⟩ | ⟨u, d', z, g, du⟩
    · cases z
    · cases z
      exact ⟨a, u, rfl, g, h u F1 H1 x1 du⟩
/-- b in x -/
theorem cm_inDc (c : Ctx X C W k) (hb : Ev X W ρ b y) (hd : DcAt X ρ i y o) (hN : X.N[i]? = some x := by rfl) (hv : Vis X.env.scope x := by first | exact Or.inl rfl | exact Or.inr (Or.inl rfl) | exact Or.inr (Or.inr rfl))
    (h1 : (x == ("__debug__" : Str)) = false := by decide) (h2 : (x == ("__classdict__" : Str)) = false := by decide) : Cm X W ρ .In b (.Name x px) o.isSome :=
  ⟨fun pins s σ F H M Q I ok h => (pc_din c.hu hb.pe (pe_var hN hv h1 h2)).run pins s σ H Q I (rd ok fun v F1 H1 x1 dv => by
    obtain ⟨a, e, _, g⟩ := hd σ F H M ok
    refine ⟨_, e, a, ?_⟩
    rcases g F1 H1 v x1 dv with ⟨z, g'⟩ | ⟨u, d', z, g', du⟩
    · subst z; exact ⟨none, rfl, g', h F1 H1 x1⟩
    · subst z; exact ⟨some u, rfl, g', h F1 H1 x1⟩)⟩
theorem cm_ninDc (c : Ctx X C W k) (hb : Ev X W ρ b y) (hd : DcAt X ρ i y o) (hN : X.N[i]? = some x := by rfl) (hv : Vis X.env.scope x := by first | exact Or.inl rfl | exact Or.inr (Or.inl rfl) | exact Or.inr (Or.inr rfl))
    (h1 : (x == ("__debug__" : Str)) = false := by decide) (h2 : (x == ("__classdict__" : Str)) = false := by decide) : Cm X W ρ .NotIn b (.Name x px) (!o.isSome) :=
  ⟨fun pins s σ F H M Q I ok h => (pc_dnotin c.hu hb.pe (pe_var hN hv h1 h2)).run pins s σ H Q I (rd ok fun v F1 H1 x1 dv => by
    obtain ⟨a, e, _, g⟩ := hd σ F H M ok
    refine ⟨_, e, a, ?_⟩
    rcases g F1 H1 v x1 dv with ⟨z, g'⟩ | ⟨u, d', z, g', du⟩
    · subst z; exact ⟨none, rfl, g', h F1 H1 x1⟩
    · subst z; exact ⟨some u, rfl, g', h F1 H1 x1⟩)⟩
/-- x.get(b, d) -/
theorem ev_dget2 {apos : Pos} {dd : PyData} (c : Ctx X C W k) (hd : DcAt X ρ i y o) (hb : Ev X W ρ b y) (hf : Ev X W ρ d dd) (m : M2 X (.Name x px) "get" apos b d pos := by exact ⟨rfl, rfl, rfl, rfl⟩) (hN : X.N[i]? = some x := by rfl) (hv : Vis X.env.scope x := by first | exact Or.inl rfl | exact Or.inr (Or.inl rfl) | exact Or.inr (Or.inr rfl))
    (h1 : (x == ("__debug__" : Str)) = false := by decide) (h2 : (x == ("__classdict__" : Str)) = false := by decide) : Ev X W ρ (.Call (.Attribute (.Name x px) "get" apos) [b, d] [] pos) (o.getD dd) :=
  ev1_of (pe_dget2 c.hu (pe_var hN hv h1 h2) hb.pe hf.pe m) fun σ F H M Q ok h => by
    obtain ⟨a, e, hi, g⟩ := hd σ F H M ok
    refine ⟨_, e, a, rfl, hi, rd ok fun v F1 H1 x1 dv => rd (ok.ext x1) fun z F2 H2 x2 dz => ?_⟩
    rcases g F2 H2 v (x1.trans x2) (dq_mono x2.f _ _ dv) with ⟨z', g'⟩ | ⟨u, d', z', g', du⟩
    · subst z'; exact ⟨none, g', h z F2 H2 (x1.trans x2) dz⟩
    · subst z'; exact ⟨some u, g', h u F2 H2 (x1.trans x2) du⟩
/-! ### what is put into it -/
theorem PInv.mutS {K : PySem.W.Frag} {B F0 F H : Hp} {σ : St} {M : Nat → Mini} {i : Nat} {S S' : Slot} {a : Addr} {o o' : HO} (x : PInv K B F0 ρ F σ H M) (hi : ρ[i]? = some (some S)) (hσ : σ[i]? = some (some (.ref a))) (hM : M i = [(a, o)]) (hS : S'.R K F (.ref a) [(a, o')]) :
    PInv K B F0 (ρ.set i (some S')) F σ (upd H a o') (upM M i [(a, o')]) := by
  have ha : (a, o) ∈ M i := by rw [hM]; exact List.mem_cons_self
  refine x.change hi hσ ha hS fun b u hb => ?_
  have hb : (b, u) = (a, o') := by simpa using hb
  cases hb
  exact ⟨upd_same, (x.ok.own i a _ ha).2, x.mb i a _ ha, fun j u' hj hz => hj (x.ok.apart j i a u' o hz ha)⟩
/-- x[b] = d -/
theorem sxs_dputK (i : Nat) {pb : Pos} {kvs : List (Key × PyData)} {y : Key} {z : PyData} (c : Ctx X C W k) (hd : ρ[i]? = some (some (dk kvs))) (he : Ev X W ρ d z) (hb : Ev X W ρ b (kD y)) (hl : kvs.length < sizeLine) (kk : Sxs X W rest (ρ.set i (some (dk (putP kvs y z)))) Φ)
    (hs : swapsWith d (some (.Subscript (.Name x px) b pb)) pos.line X.env = pure false := by rfl) (hN : X.N[i]? = some x := by rfl) (hv : Vis X.env.scope x := by first | exact Or.inl rfl | exact Or.inr (Or.inl rfl) | exact Or.inr (Or.inr rfl))
    (h1 : (x == ("__debug__" : Str)) = false := by decide) (h2 : (x == ("__classdict__" : Str)) = false := by decide) : Sxs X W (.Assign [.Subscript (.Name x px) b pb] d pos :: rest) ρ Φ :=
  sxs_of (ps_dput c.hu (pe_var hN hv h1 h2) hb.pe he.pe hs) fun σ F H M B F0 D ok q => by
    obtain ⟨v, e, a, ps, rfl, hm, r⟩ := ok.ok.at_ i _ hd
    have hH : H a = some (.dK ps) := (ok.ok.own i a _ (by rw [hm]; exact List.mem_cons_self)).1
    refine rd ok.ok fun w F1 H1 x1 dw => ⟨_, e, rd (ok.ok.ext x1) fun u F2 H2 x2 du => ?_⟩
    have ok2 := ok.ext (x1.trans x2)
    rw [dq_key du]
    refine ⟨a, _, rfl, DPut.k ((x1.trans x2).h _ _ hH) (by rw [r.len]; exact hl), _, Φ, F2, _, B, F0, kk, ok2.mutS hd e hm ⟨a, _, rfl, rfl, (r.mono (x1.trans x2).f).put y (dq_mono x2.f _ _ dw)⟩, q⟩
theorem sxs_dputT (i : Nat) {pb : Pos} {kvs : List (List Key × PyData)} {y : List Key} {z : PyData} (c : Ctx X C W k) (hd : ρ[i]? = some (some (dt kvs))) (he : Ev X W ρ d z) (hb : Ev X W ρ b (.tuple (y.map kD))) (hl : kvs.length < sizeLine) (kk : Sxs X W rest (ρ.set i (some (dt (putP kvs y z)))) Φ)
    (hs : swapsWith d (some (.Subscript (.Name x px) b pb)) pos.line X.env = pure false := by rfl) (hN : X.N[i]? = some x := by rfl) (hv : Vis X.env.scope x := by first | exact Or.inl rfl | exact Or.inr (Or.inl rfl) | exact Or.inr (Or.inr rfl))
    (h1 : (x == ("__debug__" : Str)) = false := by decide) (h2 : (x == ("__classdict__" : Str)) = false := by decide) : Sxs X W (.Assign [.Subscript (.Name x px) b pb] d pos :: rest) ρ Φ :=
  sxs_of (ps_dput c.hu (pe_var hN hv h1 h2) hb.pe he.pe hs) fun σ F H M B F0 D ok q => by
    obtain ⟨v, e, a, ps, rfl, hm, r⟩ := ok.ok.at_ i _ hd
    have hH : H a = some (.dT ps) := (ok.ok.own i a _ (by rw [hm]; exact List.mem_cons_self)).1
    refine rd ok.ok fun w F1 H1 x1 dw => ⟨_, e, rd (ok.ok.ext x1) fun u F2 H2 x2 du => ?_⟩
    have ok2 := ok.ext (x1.trans x2)
    obtain ⟨b', rfl, hb'⟩ := dq_tkey du
    refine ⟨a, _, rfl, DPut.t ((x1.trans x2).h _ _ hH) (x2.sub _ _ hb') (by rw [r.len]; exact hl), _, Φ, F2, _, B, F0, kk, ok2.mutS hd e hm ⟨a, _, rfl, rfl, (r.mono (x1.trans x2).f).put y (dq_mono x2.f _ _ dw)⟩, q⟩
end
end PV

/-! The pure-value layer: unpacking; data with bools. -/
namespace PV
open PySem PySem.Spec PyProof.Rows L2
/-- so deep at most, bools among it -/
def clb : Nat → PyData → Bool
  | _, .none => true
  | _, .bool _ => true
  | _, .int _ => true
  | _, .str x => PyData.strOk x
  | n + 1, .list xs => xs.all (clb n)
  | n + 1, .tuple xs => xs.all (clb n)
  | _, _ => false
theorem clbs_shape {n : Nat} (ih : ∀ d, clb n d = true → d.canLay0 = true ∧ d.depth ≤ n) : ∀ xs : List PyData, xs.all (clb n) = true → PyData.canLayAll0 xs = true ∧ PyData.depthAll xs ≤ n := by
  intro xs
  induction xs with
  | nil => intro _; exact ⟨by simp [PyData.canLayAll0], by simp [PyData.depthAll]⟩
  | cons x xs ihx =>
    intro h
    have h' := Bool.and_eq_true_iff.mp (by simpa using h : (clb n x && xs.all (clb n)) = true)
    obtain ⟨a1, a2⟩ := ih x h'.1
    obtain ⟨b1, b2⟩ := ihx h'.2
    refine ⟨by simp [PyData.canLayAll0, a1, b1], ?_⟩
    rw [PyData.depthAll]
    exact Nat.max_le.mpr ⟨a2, b2⟩
theorem clb_shape : ∀ (n : Nat) (d : PyData), clb n d = true → d.canLay0 = true ∧ d.depth ≤ n := by
  intro n
  induction n with
  | zero =>
    intro d h
    cases d with
    | str x => exact ⟨by simpa [PyData.canLay0, clb] using h, by simp [PyData.depth]⟩
    | none => exact ⟨by simp [PyData.canLay0], by simp [PyData.depth]⟩
    | bool b => exact ⟨by simp [PyData.canLay0], by simp [PyData.depth]⟩
    | int i => exact ⟨by simp [PyData.canLay0], by simp [PyData.depth]⟩
    | list xs => simp [clb] at h
    | tuple xs => simp [clb] at h
    | dict xs => simp [clb] at h
  | succ n ih =>
    intro d h
    cases d with
    | str x => exact ⟨by simpa [PyData.canLay0, clb] using h, by simp [PyData.depth]⟩
    | none => exact ⟨by simp [PyData.canLay0], by simp [PyData.depth]⟩
    | bool b => exact ⟨by simp [PyData.canLay0], by simp [PyData.depth]⟩
    | int i => exact ⟨by simp [PyData.canLay0], by simp [PyData.depth]⟩
    | list xs =>
      obtain ⟨a, b⟩ := clbs_shape ih xs (by simpa [clb] using h)
      exact ⟨by simpa [PyData.canLay0] using a, by rw [PyData.depth]; omega⟩
    | tuple xs =>
      obtain ⟨a, b⟩ := clbs_shape ih xs (by simpa [clb] using h)
      exact ⟨by simpa [PyData.canLay0] using a, by rw [PyData.depth]; omega⟩
    | dict xs => simp [clb] at h
theorem clb_shaped {n : Nat} {d : PyData} (h : clb n d = true) (hn : n ≤ 64 := by decide) : SeqAt.shaped d = true := by
  obtain ⟨a, b⟩ := clb_shape n d h
  unfold SeqAt.shaped
  rw [a, Bool.true_and]
  exact decide_eq_true (Nat.le_trans b hn)
theorem clb_self : ∀ (n : Nat) (d : PyData), clb n d = true → PyData.eqv d d = true := by
  intro n
  induction n with
  | zero => intro d h; cases d <;> simp_all [clb, PyData.eqv]
  | succ n ih =>
    have key : ∀ xs : List PyData, xs.all (clb n) = true → PyData.eqvAll xs xs = true := by
      intro xs
      induction xs with
      | nil => intro _; simp [PyData.eqvAll]
      | cons x xs ihx =>
        intro h
        have h' := Bool.and_eq_true_iff.mp (by simpa using h : (clb n x && xs.all (clb n)) = true)
        rw [PyData.eqvAll, ih x h'.1, ihx h'.2]
        rfl
    intro d h
    cases d with
    | list xs => rw [PyData.eqv]; exact key xs (by simpa [clb] using h)
    | tuple xs => rw [PyData.eqv]; exact key xs (by simpa [clb] using h)
    | _ => simp_all [clb, PyData.eqv]
theorem cl_b : ∀ (n : Nat) (d : PyData), cl n d = true → clb n d = true := by
  intro n
  induction n with
  | zero => intro d h; cases d <;> simp_all [cl, clb]
  | succ n ih =>
    intro d h
    cases d with
    | list xs =>
      have h : xs.all (cl n) = true := by simpa [cl] using h
      simp only [clb, List.all_eq_true] at h ⊢
      exact fun x hx => ih x (h x hx)
    | tuple xs =>
      have h : xs.all (cl n) = true := by simpa [cl] using h
      simp only [clb, List.all_eq_true] at h ⊢
      exact fun x hx => ih x (h x hx)
    | _ => simp_all [cl, clb]
theorem clb_list {α : Type} {f : α → PyData} {n : Nat} {xs : List α} (h : ∀ x ∈ xs, clb n (f x) = true) : clb (n + 1) (.list (xs.map f)) = true := by
  simp only [clb, List.all_map, List.all_eq_true]
  exact h
theorem cl_list {α : Type} {f : α → PyData} {n : Nat} {xs : List α} (h : ∀ x ∈ xs, cl n (f x) = true) : cl (n + 1) (.list (xs.map f)) = true := by
  simp only [cl, List.all_map, List.all_eq_true]
  exact h
section
variable {X : Cx} {W : Wc} {ρ : Env} {e a b d tg : Expr} {es ts : List Expr} {pos p : Pos} {C : Ec → Addr} {k : Nat} {rest : List Stmt} {Φ : Out → Prop}
/-- t, .. = e -/
theorem sxs_unpack {kk : Nat} {is : List Nat} {ds : List PyData} (hg : TgOk X (.Tuple ts kk p) true is) (he : Ev X W ρ e (.tuple ds)) (hl : ds.length = is.length) (kc : Sxs X W rest (setAll ρ is ds) Φ)
    (hp : ∀ t g, PE X e t → PG X (.Tuple ts kk p) g → PS X (.Assign [.Tuple ts kk p] e pos) (tAsg t g) := by exact fun t g h h' => ps_asg h h') : Sxs X W (.Assign [.Tuple ts kk p] e pos :: rest) ρ Φ :=
  sxs_of (hp _ _ he.pe hg) fun σ F H M B F0 D ok q => rd ok.ok fun v F1 H1 x1 dv => by
    refine gOf_ok x1.sub dv ⟨fun _ => ⟨ds, rfl⟩, hl⟩ fun vs dvs => ?_
    obtain ⟨M', ok'⟩ := PInv.setAll (is := is) (ok.ext x1) dvs
    exact ⟨_, Φ, F1, M', B, F0, kc, ok', q⟩
theorem DcAt.to {i : Nat} {y : PyData} {o o' : Option PyData} (h : DcAt X ρ i y o) (e : o = o') : DcAt X ρ i y o' := e ▸ h
theorem szm {n : Nat} (h : n ≤ 10000000) : n ≤ sizeLine := Nat.le_trans h (by decide)
/-- x = f(..): whatever comes of it -/
theorem sxs_callS {ι : Type} {n : Nat} {ins : ι → List Slot} {pre : ι → Prop} {r : ι → Except Ec Slot → Prop} {x y : Str} {j : Nat} {pos' spos : Pos} (i0 : Nat) (c : Ctx X C W k) (G : Callee X.prog X.w X.K X.mg X.base j x (spP X.K C n ins pre r)) (i : ι) (hp : pre i) (ha : EvAS X W ρ (e :: es) (ins i))
    (kk : ∀ S, r i (.ok S) → Sxs X W rest (ρ.set i0 (some S)) Φ) (kr : ∀ cl, r i (.error cl) → Φ (.raise cl ρ)) (hj : j ≤ k := by decide) (hn : (ins i).length = n := by rfl)
    (hg : Gl X x := by rfl) (hdb : (x == ("__debug__" : Str)) = false := by decide) (he : starEach (e :: es) X.env = (false, eval e X.env) :: starEach es X.env := by rfl) (hpl : (backTo pos (starEach es X.env)).any (·.1) = false := by rfl)
    (hi : X.N[i0]? = some y := by rfl) (hx : Loc X.env.scope y := by first | exact Or.inl rfl | exact Or.inr rfl) (hs : swapsWith (.Call (.Name x p) (e :: es) [] pos) (some (.Name y pos')) spos.line X.env = pure false := by rfl)
    (hf : X.fn y = true ∨ X.env.scope.names.lookup y = some .local := by first | exact .inl rfl | exact .inr rfl) : Sxs X W (.Assign [.Name y pos'] (.Call (.Name x p) (e :: es) [] pos) spos :: rest) ρ Φ := by
  have pe : PE X (.Call (.Name x p) (e :: es) [] pos) (fun σ H Q => ∃ F M, EOk X.K ρ F σ H M ∧ (∀ S, r i (.ok S) → ∀ v F' H' m, Ext F H F' H' → S.R X.K F' v m → (∀ a o, (a, o) ∈ m → H' a = some o ∧ F' a = none ∧ H a = none) → Q v H') ∧ (∀ cl, r i (.error cl) → ∀ F' H', Ext F H F' H' → W cl σ H')) :=
    ⟨fun pins s σ H Q I ⟨F, M, ok, h1, h2⟩ => call_any c G hj i hp ha hn hg hdb he hpl pins s σ F H M Q I ok h1 h2⟩
  refine sxs_of (ps_set c.nd hi hx pe hs hf) fun σ F H M B F0 D ok q => ⟨F, M, ok.ok, fun S hS v F' H' m x hv hm => ?_, fun cl hc F' H' x => q _ (kr cl hc) F' σ H' M (ok.ext x)⟩
  have y : PInv X.K B F0 (ρ.set i0 (some S)) F' (σ.set i0 (some v)) H' (upM M i0 m) := (ok.ext x).set hv fun a o z => by
    obtain ⟨y1, y2, y3⟩ := hm a o z
    refine ⟨y1, y2, ok.base.free y3, fun j o' hj hm' => ?_⟩
    have w := (ok.ok.own j a o' hm').1
    rw [y3] at w; cases w
  exact ⟨_, Φ, F', _, B, F0, kk S hS, y, q⟩
end
end PV

/-! The pure-value layer: defs as data for the head. -/
namespace PV
open PySem PySem.Spec PyProof.Rows L2
/-- a def with defaults as a datum -/
def ddD (x : Str) (st : Stmt) (dfl : List He.Dv) : He.DefD := ⟨(x, none), x, x, defArgs st, defBody st, defScope st, dfl, []⟩
end PV

/-! The pure-value layer: loops over enumerate, by what is left. -/
namespace PV
open PySem PySem.Spec PyProof.Rows L2
section
variable {X : Cx} {W : Wc} {ρ : Env} {e a b d tg : Expr} {es ts : List Expr} {pos p : Pos} {C : Ec → Addr} {k : Nat} {rest body : List Stmt} {Φ : Out → Prop}
theorem Wk.setAll : ∀ {is : List Nat} {ds : List PyData} {ρ1 ρ2 : Env}, Wk ρ1 ρ2 → Wk (PV.setAll ρ1 is ds) (PV.setAll ρ2 is ds)
  | [], ds, _, _, w => by cases ds <;> exact w
  | i :: is, [], _, _, w => w
  | i :: is, d :: ds, ρ1, ρ2, w => by
    refine Wk.setAll (is := is) (ds := ds) ⟨by rw [List.length_set, List.length_set]; exact w.1, fun j S h => ?_⟩
    by_cases hj : i = j
    · subst hj
      by_cases hl : i < ρ2.length
      · rw [List.getElem?_set_self hl] at h
        rw [List.getElem?_set_self (w.1 ▸ hl)]
        exact h
      · rw [List.getElem?_eq_none (by simpa using hl)] at h; cases h
    · rw [List.getElem?_set_ne hj] at h ⊢
      exact w.2 j S h
theorem sxs_forE {α S : Type} {is : List Nat} (enc : α → PyData) (xs : List α) (envOf : S → Env) (R : Nat → S → List α → Prop) (s0 : S) (c : Ctx X C W k) (hi : Iv X W ρ tg a (enums 0 (xs.map enc))) (hg : TgOk X tg true is) (hl : is.length = 2) (hw : Wk ρ (envOf s0)) (h0 : R 0 s0 xs)
    (step : ∀ i s x ys, xs[i]? = some x → R i s (x :: ys) → Sxs X W body (setAll (envOf s) is [.int i, enc x]) (turnS (fun ρ' => ∃ s', ρ' = envOf s' ∧ R (i + 1) s' ys) X W rest Φ))
    (done : ∀ s, R xs.length s [] → Sxs X W rest (envOf s) Φ) (hs : ∀ x, foldedSetIterable a X.env x = pure x := by intro _; rfl) : Sxs X W (.For tg a body [] pos :: rest) ρ Φ := by
  obtain ⟨wi, hwi, qi⟩ := hi
  refine sxs_for c (fun i ρ' => ∃ s, Wk ρ' (envOf s) ∧ R i s (xs.drop i)) ⟨wi, hwi, qi⟩ hg ⟨s0, hw, h0⟩ (fun i d ρ' hd hP => ?_) (fun ρ' hP => ?_) hs
  · obtain ⟨s, hs, hR⟩ := hP
    obtain ⟨e, he, rfl⟩ := enums_of hd
    rw [List.getElem?_map] at he
    obtain ⟨x, hx, rfl⟩ := Option.map_eq_some_iff.mp he
    have hlt : i < xs.length := (List.getElem?_eq_some_iff.mp hx).1
    have hdr : xs.drop i = x :: xs.drop (i + 1) := by
      rw [List.drop_eq_getElem_cons hlt, (List.getElem?_eq_some_iff.mp hx).2]
    rw [hdr] at hR
    refine ⟨⟨fun _ => ⟨_, rfl⟩, hl.symm⟩, sxs_mono (sxs_weak (Wk.setAll hs) (step i s x _ hx hR)) fun o ho => ?_⟩
    cases o with
    | next ρ2 => obtain ⟨ρ3, w, s', e, h⟩ := ho; exact ⟨ρ3, w, s', e ▸ Wk.refl _, h⟩
    | cont ρ2 => obtain ⟨ρ3, w, s', e, h⟩ := ho; exact ⟨ρ3, w, s', e ▸ Wk.refl _, h⟩
    | brk ρ2 => exact ho
    | ret S ρ2 => exact ho
    | raise cl ρ2 => exact ho
  · obtain ⟨s, hs, hR⟩ := hP
    rw [enums_length, List.length_map, List.drop_length] at hR
    exact sxs_weak hs (done s hR)
end
end PV

/-! The pure-value layer: wide divisors. -/
namespace PV
open PySem PySem.Spec PyProof.Rows L2
section
variable {X : Cx} {W : Wc} {ρ : Env} {a b : Expr} {pos : Pos} {i j : Int}
theorem ev_fdivW (c : CDivW i j) (ha : Ev X W ρ a (.int i)) (hb : Ev X W ρ b (.int j)) : Ev X W ρ (.BinOp a .FloorDiv b pos) (.int (i / j)) :=
  ev_op op_fdivW ha hb fun x y F H Q s dx dy h => ⟨i, j, dq_int dx, dq_int dy, c, h _ F H (.refl s) (.int _)⟩
end
end PV

/-! The pure-value layer: trees without the places of their parts. -/
namespace PV
open PySem PySem.Spec PyProof.Rows L2
mutual
def T.bare : T → T
  | .fz d => .fz d
  | .lst _ ts => .lst none (T.bares ts)
  | .tup _ ts => .tup none (T.bares ts)
def T.bares : List T → List T
  | [] => []
  | t :: ts => t.bare :: T.bares ts
end
section
variable {K : PySem.W.Frag} {F : Hp}
mutual
theorem OT.bare : ∀ (t : T) (v : V) (m : Mini), OT K F v t m → OT K F v t.bare m
  | .fz d, _, _, h => by rw [T.bare]; exact h
  | .lst l ts, _, _, h => by
    cases h with
    | lst h1 h2 h3 => rw [T.bare]; exact .lst (fun _ z => nomatch z) (OTs.bare ts _ _ h2) h3
  | .tup l ts, _, _, h => by
    cases h with
    | tup h1 h2 h3 => rw [T.bare]; exact .tup (fun _ z => nomatch z) (OTs.bare ts _ _ h2) h3
theorem OTs.bare : ∀ (ts : List T) (vs : List V) (m : Mini), OTs K F vs ts m → OTs K F vs (T.bares ts) m
  | [], _, _, h => by rw [T.bares]; exact h
  | t :: ts, _, _, h => by
    cases h with
    | cons h1 h2 h3 => rw [T.bares]; exact .cons (OT.bare t _ _ h1) (OTs.bare ts _ _ h2) h3
end
end
theorem bares_map : ∀ ts : List T, T.bares ts = ts.map T.bare
  | [] => by rw [T.bares]; rfl
  | t :: ts => by rw [T.bares, bares_map ts]; rfl
theorem bare_fz (d : PyData) : (T.fz d).bare = .fz d := by rw [T.bare]
theorem bare_lst (l : Option Addr) (ts : List T) : (T.lst l ts).bare = .lst none (ts.map T.bare) := by rw [T.bare, bares_map]
theorem bare_tup (l : Option Addr) (ts : List T) : (T.tup l ts).bare = .tup none (ts.map T.bare) := by rw [T.bare, bares_map]
theorem bare_fzs (ds : List PyData) : (ds.map T.fz).map T.bare = ds.map T.fz := by
  rw [List.map_map]
  exact List.map_congr_left fun d _ => bare_fz d
theorem at_lst {l : Option Addr} {ts : List T} {k : Nat} {u : T} {π : List Nat} (h : ts[k]? = some u) : (T.lst l ts).at? (k :: π) = u.at? π := by rw [T.at?, h]
theorem at_tup {l : Option Addr} {ts : List T} {k : Nat} {u : T} {π : List Nat} (h : ts[k]? = some u) : (T.tup l ts).at? (k :: π) = u.at? π := by rw [T.at?, h]
theorem put_lst {l : Option Addr} {ts : List T} {k : Nat} {t u : T} {π : List Nat} (h : ts[k]? = some t) : (T.lst l ts).put (k :: π) u = .lst l (ts.set k (t.put π u)) := by rw [T.put, h]
theorem put_tup {l : Option Addr} {ts : List T} {k : Nat} {t u : T} {π : List Nat} (h : ts[k]? = some t) : (T.tup l ts).put (k :: π) u = .tup l (ts.set k (t.put π u)) := by rw [T.put, h]
theorem range_set {α : Type} {n : Nat} {F G : Nat → α} {i : Nat} {y : α} (h1 : G i = y) (h2 : ∀ j, j ≠ i → G j = F j) : ((List.range n).map F).set i y = (List.range n).map G := by
  apply List.ext_getElem (by simp)
  intro j h h'
  simp only [List.getElem_set, List.getElem_map, List.getElem_range]
  split
  · rename_i e; subst e; exact h1.symm
  · rename_i e; exact (h2 j (fun z => e z.symm)).symm
section
variable {X : Cx} {W : Wc} {ρ : Env} {Φ : Out → Prop}
/-- where the parts stand is forgotten -/
theorem sxs_bare {sts : List Stmt} (j : Nat) {t u : T} (hj : ρ[j]? = some (some (tr t))) (e : t.bare = u) (h : Sxs X W sts (ρ.set j (some (tr u))) Φ) : Sxs X W sts ρ Φ := ⟨fun pins s σ F H M B F0 D I ok q => by
  subst e
  obtain ⟨v, hσ, hS⟩ := ok.ok.at_ j _ hj
  exact h pins s σ F H M B F0 D I (ok.reslot hj hσ (OT.bare _ _ _ hS)) q⟩
/-- as sxs_alias, sxs_setItemN, .. with what the tree is then -/
theorem sxs_aliasE {rest : List Stmt} {e : Expr} {pos : Pos} {π : List Nat} {t : T} {l : Option Addr} {ts : List T} (t' : Addr → T) (i j : Nat) {x : Str} {pos' : Pos} (hij : i ≠ j) (hj : ρ[j]? = some (some (tr t))) (hn : Nd X W ρ e j π) (hπ : t.at? π = some (.lst l ts)) (ht : ∀ q, t.put π (.lst (some q) ts) = t' q) (k : ∀ q : Addr, Sxs X W rest ((ρ.set j (some (tr (t' q)))).set i (some (adr q))) Φ) (hN : X.N.Nodup)
    (hi : X.N[i]? = some x := by rfl) (hx : Loc X.env.scope x := by first | exact Or.inl rfl | exact Or.inr rfl) (hs : swapsWith e (some (.Name x pos')) pos.line X.env = pure false := by rfl)
    (hf : X.fn x = true ∨ X.env.scope.names.lookup x = some .local := by first | exact .inl rfl | exact .inr rfl) : Sxs X W (.Assign [.Name x pos'] e pos :: rest) ρ Φ :=
  sxs_alias i j hij hj hn hπ (fun q => by rw [ht q]; exact k q) hN hi hx hs hf
theorem sxs_setItemE {rest : List Stmt} {e b d : Expr} {pos : Pos} {π : List Nat} {t : T} {l : Option Addr} {ts : List T} (t' : T) (j : Nat) {pb : Pos} {u : T} {i : Int} {n : Nat} (hj : ρ[j]? = some (some (tr t))) (hn : Nd X W ρ e j π) (hπ : t.at? π = some (.lst l ts)) (hd : FrT X W ρ d u) (hb : Ev X W ρ b (.int i)) (hi : ixN ts.length i = some n) (ht : t.put π (.lst l (ts.set n u)) = t') (k : Sxs X W rest (ρ.set j (some (tr t'))) Φ)
    (hp : ∀ t u w, PE X e t → PE X d u → PE X b w → PS X (.Assign [.Subscript e b pb] d pos) (tAsg u (gSub t w rSetL)) := by exact fun t u w h h' h'' => ps_asg h' (pg_sub h h'' set_list)) :
    Sxs X W (.Assign [.Subscript e b pb] d pos :: rest) ρ Φ := sxs_setItemN j hj hn hπ hd hb hi (by rw [ht]; exact k) hp
theorem sxs_appendE {rest : List Stmt} {e d : Expr} {pos p : Pos} {π : List Nat} {t : T} {l : Option Addr} {ts : List T} (t' : T) (j : Nat) {pa : Pos} {u : T} (hj : ρ[j]? = some (some (tr t))) (hn : Nd X W ρ e j π) (hπ : t.at? π = some (.lst l ts)) (hd : FrT X W ρ d u) (c : ts.length < sizeLine) (ht : t.put π (.lst l (ts ++ [u])) = t') (k : Sxs X W rest (ρ.set j (some (tr t'))) Φ)
    (hp : ∀ t u, PE X e t → PE X d u → PE X (.Call (.Attribute e "append" pa) [d] [] p) (tBM X.K "list" rAppend t (tCons u tNil)) := by exact fun t u h h' => pe_bm PySem.F.plainAttrs_list PySem.F.slot_list_append PySem.F.type_list_append mt_append h (pa_cons h' pa_nil))
    (hs : swapsWith (.Call (.Attribute e "append" pa) [d] [] p) none pos.line X.env = pure false := by rfl) : Sxs X W (.Expr (.Call (.Attribute e "append" pa) [d] [] p) pos :: rest) ρ Φ := sxs_appendN j hj hn hπ hd c (by rw [ht]; exact k) hp hs
theorem sxs_extendE {rest : List Stmt} {e d : Expr} {pos p : Pos} {π : List Nat} {t : T} {l : Option Addr} {ts : List T} (t' : T) (j : Nat) {pa : Pos} {ds : List PyData} (hj : ρ[j]? = some (some (tr t))) (hn : Nd X W ρ e j π) (hπ : t.at? π = some (.lst l ts)) (hd : Bv X W ρ d ds) (c : ts.length + ds.length ≤ sizeLine) (ht : t.put π (.lst l (ts ++ ds.map T.fz)) = t') (k : Sxs X W rest (ρ.set j (some (tr t'))) Φ)
    (hp : ∀ t u, PE X e t → PE X d u → PE X (.Call (.Attribute e "extend" pa) [d] [] p) (tBM X.K "list" rExtendR t (tCons u tNil)) := by exact fun t u h h' => pe_bm PySem.F.plainAttrs_list PySem.F.slot_list_extend PySem.F.type_list_extend mt_extendR h (pa_cons h' pa_nil))
    (hs : swapsWith (.Call (.Attribute e "extend" pa) [d] [] p) none pos.line X.env = pure false := by rfl) : Sxs X W (.Expr (.Call (.Attribute e "extend" pa) [d] [] p) pos :: rest) ρ Φ := sxs_extendN j hj hn hπ hd c (by rw [ht]; exact k) hp hs
end
end PV

/-! The pure-value layer: x in a list. -/
namespace PV
open PySem PySem.Spec PyProof.Rows L2
section
variable {X : Cx} {W : Wc} {ρ : Env} {e a b : Expr} {pos : Pos} {C : Ec → Addr} {k : Nat}
theorem cm_inD {d : PyData} {ds : List PyData} (c : Ctx X C W k) (ha : Rv X W ρ a d) (hb : Rv X W ρ b (.list ds)) (sa : SeqAt.shaped d = true) (sb : SeqAt.shaped (.list ds) = true) : Cm X W ρ .In a b (ds.any fun z => PyData.eqv z d) :=
  cm_of (op_inD (by have := c.room.un; omega)) ha hb fun x z H Q h1 h2 q => ⟨d, ds, h1.dp _ _ (can0_of_shaped sa), h2.dp _ _ (can0_of_shaped sb), sa, sb, q⟩
theorem cm_ninD {d : PyData} {ds : List PyData} (c : Ctx X C W k) (ha : Rv X W ρ a d) (hb : Rv X W ρ b (.list ds)) (sa : SeqAt.shaped d = true) (sb : SeqAt.shaped (.list ds) = true) : Cm X W ρ .NotIn a b (!ds.any fun z => PyData.eqv z d) :=
  cm_of (op_notInD (by have := c.room.un; omega)) ha hb fun x z H Q h1 h2 q => ⟨d, ds, h1.dp _ _ (can0_of_shaped sa), h2.dp _ _ (can0_of_shaped sb), sa, sb, q⟩
theorem any_ints (i : Int) (l : List Int) : ((l.map PyData.int).any fun z => PyData.eqv z (.int i)) = decide (i ∈ l) := by
  induction l with
  | nil => rfl
  | cons x l ih =>
    rw [List.map_cons, List.any_cons, ih]
    have : PyData.eqv (.int x) (.int i) = decide (x = i) := by
      simp only [PyData.eqv]
      by_cases h : x = i <;> simp [h]
    rw [this, ← Bool.decide_or, decide_eq_decide, List.mem_cons]
    constructor
    · rintro (h | h)
      · exact .inl h.symm
      · exact .inr h
    · rintro (h | h)
      · exact .inl h.symm
      · exact .inr h
end
end PV

/-! The pure-value layer: defs that change what is handed in. -/
namespace PV
open PySem PySem.Spec PyProof.Rows L2
/-- a slot of an object, with or without where it stands -/
structure Asl where
  G : Option Addr → Slot
  ok : ∀ (p : Option Addr) (K : PySem.W.Frag) (F : Hp) (v : V) (m : Mini), (G p).R K F v m ↔ (∃ a, v = .ref a ∧ ∀ q, p = some q → a = q) ∧ (G none).R K F v m
def owA (ds : List PyData) : Asl := ⟨fun p => ow p ds, fun p K F v m => ⟨fun ⟨a, vs, h1, h2, h3, h4⟩ => ⟨⟨a, h1, h3⟩, a, vs, h1, h2, (fun _ z => nomatch z), h4⟩, fun ⟨⟨a, h1, h3⟩, a', vs, h1', h2, _, h4⟩ => by
  subst h1
  obtain rfl : a' = a := by injection h1' with e; exact e.symm
  exact ⟨a', vs, rfl, h2, h3, h4⟩⟩⟩
theorem trL_iff (ts : List T) (p : Option Addr) (K : PySem.W.Frag) (F : Hp) (v : V) (m : Mini) : OT K F v (.lst p ts) m ↔ (∃ a, v = .ref a ∧ ∀ q, p = some q → a = q) ∧ OT K F v (.lst none ts) m := by
  constructor
  · intro h
    cases h with
    | lst h1 h2 h3 => exact ⟨⟨_, rfl, h1⟩, .lst (fun _ z => nomatch z) h2 h3⟩
  · rintro ⟨⟨a, rfl, h1⟩, h⟩
    cases h with
    | lst _ h2 h3 => exact .lst h1 h2 h3
def trA (ts : List T) : Asl := ⟨fun p => tr (.lst p ts), fun p K F v m => trL_iff ts p K F v m⟩
inductive Ar where
  | ro (S : Slot) | mu (G : Asl)
def ArgsR (K : PySem.W.Frag) (F : Hp) : Nat → List V → List Ar → (Nat → Mini) → Prop
  | _, [], [], _ => True
  | j, v :: vs, .ro S :: as, M => (S.R K F v [] ∧ M j = []) ∧ ArgsR K F (j + 1) vs as M
  | j, v :: vs, .mu G :: as, M => (G.G none).R K F v (M j) ∧ ArgsR K F (j + 1) vs as M
  | _, _, _, _ => False
def muIx : Nat → List Ar → List Nat
  | _, [] => []
  | j, .ro _ :: as => muIx (j + 1) as
  | j, .mu _ :: as => j :: muIx (j + 1) as
def OutsR (K : PySem.W.Frag) (F : Hp) (vs : List V) (M : Nat → Mini) : List Nat → List Asl → Prop
  | [], [] => True
  | j :: js, G :: Gs => (∃ v, vs[j]? = some v ∧ (G.G none).R K F v (M j)) ∧ OutsR K F vs M js Gs
  | _, _ => False
structure Post (F H : Hp) (M : Nat → Mini) (F' H' : Hp) (m : Mini) (M' : Nat → Mini) : Prop where
  f : Same F F'
  sub : Same F' H'
  keep : ∀ a o, H a = some o → (∀ j o', (a, o') ∉ M j) → H' a = some o
  new : ∀ a o, F' a = some o → F a = none → H a = none ∨ ∃ j o', (a, o') ∈ M j
  own : ∀ j a o, (a, o) ∈ M' j → H' a = some o ∧ F' a = none ∧ (H a = none ∨ ∃ k o', (a, o') ∈ M k)
  ownm : ∀ a o, (a, o) ∈ m → H' a = some o ∧ F' a = none ∧ (H a = none ∨ ∃ k o', (a, o') ∈ M k)
  apart : ∀ j k a o o', (a, o) ∈ M' j → (a, o') ∈ M' k → j = k
  apartm : ∀ j a o o', (a, o) ∈ m → (a, o') ∉ M' j
/-- a def that may change what stands at its arguments of kind mu -/
def spM (K : PySem.W.Frag) (C : Ec → Addr) {ι : Type} (n : Nat) (ins : ι → List Ar) (pre : ι → Prop) (r : ι → Except Ec Slot → List Asl → Prop) : Sp := fun vs H Q E =>
  ∃ (i : ι) (F : Hp) (M : Nat → Mini), Same F H ∧ vs.length = n ∧ ArgsR K F 0 vs (ins i) M ∧ (∀ j a o, (a, o) ∈ M j → H a = some o ∧ F a = none) ∧ (∀ j k a o o', (a, o) ∈ M j → (a, o') ∈ M k → j = k) ∧ pre i ∧
    (∀ S outs, r i (.ok S) outs → ∀ v F' H' m M', Post F H M F' H' m M' → S.R K F' v m → OutsR K F' vs M' (muIx 0 (ins i)) outs → Q v H') ∧
    (∀ c outs, r i (.error c) outs → ∀ F' H' M', Post F H M F' H' [] M' → OutsR K F' vs M' (muIx 0 (ins i)) outs → E (.ref (C c)) none H')
/-! ### the names of the caller -/
def dropAll (ρ : Env) : List (Nat × Option Addr) → Env
  | [] => ρ
  | x :: l => dropAll (ρ.set x.1 none) l
def giveAll (ρ : Env) : List (Nat × Option Addr) → List Asl → Env
  | x :: l, G :: Gs => giveAll (ρ.set x.1 (some (G.G x.2))) l Gs
  | _, _ => ρ
/-- the arguments of a call, by the caller's slots -/
def CallR (K : PySem.W.Frag) (F : Hp) (ρ : Env) (σ : St) (M : Nat → Mini) : List V → List Ar → List (Nat × Option Addr) → Prop
  | [], [], [] => True
  | v :: vs, .ro S :: as, ix => S.R K F v [] ∧ CallR K F ρ σ M vs as ix
  | v :: vs, .mu G :: as, x :: ix => (ρ[x.1]? = some (some (G.G x.2)) ∧ σ[x.1]? = some (some v) ∧ (G.G x.2).R K F v (M x.1)) ∧ CallR K F ρ σ M vs as ix
  | _, _, _ => False
/-- what the callee owns: by position, from the caller's -/
def mOf (M : Nat → Mini) : Nat → List Ar → List (Nat × Option Addr) → Nat → Mini
  | j, .ro _ :: as, ix => fun k => if k = j then [] else mOf M (j + 1) as ix k
  | j, .mu _ :: as, x :: ix => fun k => if k = j then M x.1 else mOf M (j + 1) as ix k
  | _, _, _ => fun _ => []
theorem mOf_lt {M : Nat → Mini} : ∀ {as : List Ar} {ix : List (Nat × Option Addr)} {j k : Nat}, k < j → mOf M j as ix k = []
  | [], _, _, _, _ => by unfold mOf; rfl
  | .ro _ :: as, ix, j, k, h => by unfold mOf; rw [if_neg (by omega)]; exact mOf_lt (by omega)
  | .mu _ :: as, [], j, k, h => by unfold mOf; rfl
  | .mu _ :: as, x :: ix, j, k, h => by unfold mOf; rw [if_neg (by omega)]; exact mOf_lt (by omega)
theorem mOf_mem {M : Nat → Mini} : ∀ {as : List Ar} {ix : List (Nat × Option Addr)} {j k : Nat} {y : Addr × HO}, y ∈ mOf M j as ix k → ∃ x ∈ ix, y ∈ M x.1
  | [], _, _, _, _, h => by unfold mOf at h; cases h
  | .ro _ :: as, ix, j, k, y, h => by
    unfold mOf at h
    split at h
    · cases h
    · exact mOf_mem h
  | .mu _ :: as, [], j, k, _, h => by unfold mOf at h; cases h
  | .mu _ :: as, x :: ix, j, k, y, h => by
    unfold mOf at h
    split at h
    · exact ⟨x, List.mem_cons_self, h⟩
    · obtain ⟨x', h1, h2⟩ := mOf_mem h
      exact ⟨x', List.mem_cons_of_mem _ h1, h2⟩
theorem mOf_apart {M : Nat → Mini} (ap : ∀ i j a o o', (a, o) ∈ M i → (a, o') ∈ M j → i = j) : ∀ {as : List Ar} {ix : List (Nat × Option Addr)} {j : Nat}, (ix.map (·.1)).Nodup → ∀ k l a o o', (a, o) ∈ mOf M j as ix k → (a, o') ∈ mOf M j as ix l → k = l
  | [], _, _, _, _, _, _, _, _, h, _ => by unfold mOf at h; cases h
  | .ro _ :: as, ix, j, nd, k, l, a, o, o', h, h' => by
    unfold mOf at h h'
    split at h
    · cases h
    · split at h'
      · cases h'
      · exact mOf_apart ap nd k l a o o' h h'
  | .mu _ :: as, [], j, _, _, _, _, _, _, h, _ => by unfold mOf at h; cases h
  | .mu _ :: as, x :: ix, j, nd, k, l, a, o, o', h, h' => by
    rw [List.map_cons, List.nodup_cons] at nd
    unfold mOf at h h'
    split at h
    · split at h'
      · omega
      · obtain ⟨x', h1, h2⟩ := mOf_mem h'
        have e := ap _ _ _ _ _ h h2
        exact absurd (List.mem_map.mpr ⟨x', h1, e.symm⟩) nd.1
    · split at h'
      · obtain ⟨x', h1, h2⟩ := mOf_mem h
        have e := ap _ _ _ _ _ h' h2
        exact absurd (List.mem_map.mpr ⟨x', h1, e.symm⟩) nd.1
      · exact mOf_apart ap nd.2 k l a o o' h h'
theorem CallR.args {K : PySem.W.Frag} {F : Hp} {ρ : Env} {σ : St} {M N : Nat → Mini} : ∀ {vs : List V} {as : List Ar} {ix : List (Nat × Option Addr)} {j : Nat}, CallR K F ρ σ M vs as ix → (∀ k, j ≤ k → N k = mOf M j as ix k) → ArgsR K F j vs as N
  | [], [], [], _, _, _ => trivial
  | v :: vs, .ro S :: as, ix, j, h, e => by
    refine ⟨⟨h.1, ?_⟩, CallR.args h.2 fun k hk => ?_⟩
    · rw [e j (Nat.le_refl _)]; unfold mOf; rw [if_pos rfl]
    · rw [e k (by omega)]
      show (if k = j then [] else mOf M (j + 1) as ix k) = _
      rw [if_neg (by omega)]
  | v :: vs, .mu G :: as, x :: ix, j, h, e => by
    refine ⟨?_, CallR.args h.2 fun k hk => ?_⟩
    · rw [e j (Nat.le_refl _)]
      show (G.G none).R K F v (if j = j then M x.1 else _)
      rw [if_pos rfl]
      exact ((G.ok x.2 K F v (M x.1)).mp h.1.2.2).2
    · rw [e k (by omega)]
      show (if k = j then M x.1 else mOf M (j + 1) as ix k) = _
      rw [if_neg (by omega)]
  | [], [], _ :: _, _, h, _ => h.elim
  | [], _ :: _, _, _, h, _ => h.elim
  | _ :: _, [], _, _, h, _ => h.elim
  | _ :: _, .mu _ :: _, [], _, h, _ => h.elim
theorem CallR.len {K : PySem.W.Frag} {F : Hp} {ρ : Env} {σ : St} {M : Nat → Mini} : ∀ {vs : List V} {as : List Ar} {ix : List (Nat × Option Addr)}, CallR K F ρ σ M vs as ix → vs.length = as.length
  | [], [], [], _ => rfl
  | v :: vs, .ro S :: as, ix, h => by rw [List.length_cons, List.length_cons, CallR.len h.2]
  | v :: vs, .mu G :: as, x :: ix, h => by rw [List.length_cons, List.length_cons, CallR.len h.2]
  | [], [], _ :: _, h => h.elim
  | [], _ :: _, _, h => h.elim
  | _ :: _, [], _, h => h.elim
  | _ :: _, .mu _ :: _, [], h => h.elim
theorem mOf_cover {K : PySem.W.Frag} {F : Hp} {ρ : Env} {σ : St} {M : Nat → Mini} : ∀ {vs : List V} {as : List Ar} {ix : List (Nat × Option Addr)} {j : Nat}, CallR K F ρ σ M vs as ix → ∀ x ∈ ix, ∀ y ∈ M x.1, ∃ k, y ∈ mOf M j as ix k
  | [], [], [], _, _, _, h, _, _ => nomatch h
  | v :: vs, .ro S :: as, ix, j, h, x, hx, y, hy => by
    obtain ⟨k, hk⟩ := mOf_cover (j := j + 1) h.2 x hx y hy
    refine ⟨k, ?_⟩
    show y ∈ (if k = j then [] else mOf M (j + 1) as ix k)
    rw [if_neg (fun e => by subst e; rw [mOf_lt (by omega)] at hk; cases hk)]
    exact hk
  | v :: vs, .mu G :: as, x0 :: ix, j, h, x, hx, y, hy => by
    rcases List.mem_cons.mp hx with e | e
    · subst e
      exact ⟨j, by show y ∈ (if j = j then M x.1 else _); rw [if_pos rfl]; exact hy⟩
    · obtain ⟨k, hk⟩ := mOf_cover (j := j + 1) h.2 x e y hy
      refine ⟨k, ?_⟩
      show y ∈ (if k = j then M x0.1 else mOf M (j + 1) as ix k)
      rw [if_neg (fun e => by subst e; rw [mOf_lt (by omega)] at hk; cases hk)]
      exact hk
  | [], [], _ :: _, _, h, _, _, _, _ => h.elim
  | [], _ :: _, _, _, h, _, _, _, _ => h.elim
  | _ :: _, [], _, _, h, _, _, _, _ => h.elim
  | _ :: _, .mu _ :: _, [], _, h, _, _, _, _ => h.elim
/-- the callee's outs for the caller's names, in order -/
def GiveR (K : PySem.W.Frag) (F : Hp) (σ : St) (M' : Nat → Mini) : List (Nat × Option Addr) → List Asl → List Nat → Prop
  | [], [], [] => True
  | x :: ix, G :: Gs, j :: js => (∃ v, σ[x.1]? = some (some v) ∧ (G.G x.2).R K F v (M' j)) ∧ GiveR K F σ M' ix Gs js
  | _, _, _ => False
theorem CallR.give {K : PySem.W.Frag} {F F' : Hp} {ρ : Env} {σ : St} {M M' : Nat → Mini} {ws : List V} : ∀ {vs : List V} {as : List Ar} {ix : List (Nat × Option Addr)} {j : Nat} {outs : List Asl}, CallR K F ρ σ M vs as ix → (∀ k v, vs[k]? = some v → ws[j + k]? = some v) → OutsR K F' ws M' (muIx j as) outs → GiveR K F' σ M' ix outs (muIx j as)
  | [], [], [], _, [], _, _, _ => trivial
  | [], [], [], _, _ :: _, _, _, h => h.elim
  | v :: vs, .ro S :: as, ix, j, outs, h, e, o => by
    have := CallR.give (j := j + 1) (ws := ws) (outs := outs) h.2 (fun k u hk => by rw [show j + 1 + k = j + (k + 1) by omega]; exact e (k + 1) u (by simpa using hk)) o
    exact this
  | v :: vs, .mu G :: as, x :: ix, j, [], h, e, o => o.elim
  | v :: vs, .mu G :: as, x :: ix, j, G' :: outs, h, e, o => by
    obtain ⟨⟨w, hw, hR⟩, o2⟩ := o
    have ew : w = v := by
      have := e 0 v rfl
      rw [Nat.add_zero] at this
      rw [this] at hw
      exact (Option.some.inj hw).symm
    subst ew
    refine ⟨⟨w, h.1.2.1, (G'.ok x.2 K F' w (M' j)).mpr ⟨?_, hR⟩⟩, CallR.give (j := j + 1) (ws := ws) (outs := outs) h.2 (fun k u hk => by rw [show j + 1 + k = j + (k + 1) by omega]; exact e (k + 1) u (by simpa using hk)) o2⟩
    exact ((G.ok x.2 K F w (M x.1)).mp h.1.2.2).1
  | [], [], _ :: _, _, _, h, _, _ => h.elim
  | [], _ :: _, _, _, _, h, _, _ => h.elim
  | _ :: _, [], _, _, _, h, _, _ => h.elim
  | _ :: _, .mu _ :: _, [], _, _, h, _, _ => h.elim
section
variable {K : PySem.W.Frag} {B F0 F H F' H' : Hp} {ρ : Env} {σ : St} {M : Nat → Mini}
def wipeM (M : Nat → Mini) : List (Nat × Option Addr) → Nat → Mini
  | [] => M
  | x :: l => wipeM (upM M x.1 []) l
theorem wipeM_sub : ∀ {ix : List (Nat × Option Addr)} {M : Nat → Mini} {i : Nat} {y : Addr × HO}, y ∈ wipeM M ix i → y ∈ M i ∧ ∀ x ∈ ix, x.1 ≠ i
  | [], _, _, _, h => ⟨h, fun _ z => nomatch z⟩
  | x :: ix, M, i, y, h => by
    obtain ⟨h1, h2⟩ := wipeM_sub (ix := ix) (M := upM M x.1 []) h
    by_cases e : i = x.1
    · subst e; rw [upM_same] at h1; cases h1
    · rw [upM_ne e] at h1
      refine ⟨h1, fun z hz => ?_⟩
      rcases List.mem_cons.mp hz with q | q
      · subst q; exact fun w => e w.symm
      · exact h2 z q
theorem PInv.dropAll : ∀ {ix : List (Nat × Option Addr)} {ρ : Env} {M : Nat → Mini}, PInv K B F0 ρ F σ H M → PInv K B F0 (PV.dropAll ρ ix) F σ H (wipeM M ix)
  | [], _, _, x => x
  | y :: ix, ρ, M, x => PInv.dropAll (ix := ix) (x.drop y.1)
theorem PInv.frame {A : Nat → Mini} {m : Mini} {A' : Nat → Mini} (x : PInv K B F0 ρ F σ H M) (p : Post F H A F' H' m A') (hA : ∀ j a o, (a, o) ∈ A j → B a = none) (hM : ∀ i j a o o', (a, o) ∈ M i → (a, o') ∉ A j) : PInv K B F0 ρ F' σ H' M where
  ok := {
    len := x.ok.len
    sub := p.sub
    at_ := fun i S h => by
      obtain ⟨v, h1, h2⟩ := x.ok.at_ i S h
      exact ⟨v, h1, S.mono K F F' v (M i) p.f h2⟩
    own := fun i a o h => by
      obtain ⟨h1, h2⟩ := x.ok.own i a o h
      refine ⟨p.keep a o h1 fun j o' => hM i j a o o' h, ?_⟩
      cases q : F' a with
      | none => rfl
      | some u =>
        rcases p.new a u q h2 with z | ⟨j, o', z⟩
        · rw [z] at h1; cases h1
        · exact absurd z (hM i j a o o' h)
    apart := x.ok.apart }
  base := fun a o h => p.keep a o (x.base a o h) fun j o' z => by rw [hA j a o' z] at h; cases h
  f0 := x.f0.trans p.f
  nb := fun a o h1 h2 => by
    cases q : F a with
    | some u => exact x.nb a u q h2
    | none =>
      rcases p.new a o h1 q with z | ⟨j, o', z⟩
      · exact x.base.free z
      · exact hA j a o' z
  mb := x.mb
theorem PInv.give {i : Nat} {S : Slot} {v : V} {m : Mini} (x : PInv K B F0 ρ F σ H M) (hσ : σ[i]? = some (some v)) (hS : S.R K F v m)
    (hm : ∀ (a : Addr) (o : HO), (a, o) ∈ m → H a = some o ∧ F a = none ∧ B a = none ∧ ∀ (j : Nat) (o' : HO), j ≠ i → (a, o') ∉ M j) : PInv K B F0 (ρ.set i (some S)) F σ H (upM M i m) := by
  have := x.set hS hm
  have e : σ.set i (some v) = σ := by
    apply List.ext_getElem?
    intro j
    by_cases h : j = i
    · subst h
      have hl := (List.getElem?_eq_some_iff.mp hσ).1
      rw [List.getElem?_set_self hl, hσ]
    · rw [List.getElem?_set_ne (Ne.symm h)]
  rwa [e] at this
theorem PInv.giveAll {M' : Nat → Mini} (hB : ∀ j a o, (a, o) ∈ M' j → H a = some o ∧ F a = none ∧ B a = none) (ap : ∀ j k a o o', (a, o) ∈ M' j → (a, o') ∈ M' k → j = k) : ∀ {ix : List (Nat × Option Addr)} {outs : List Asl} {js : List Nat} {ρ : Env} {M : Nat → Mini}, PInv K B F0 ρ F σ H M → GiveR K F σ M' ix outs js → js.Nodup → (∀ i, ∀ j ∈ js, ∀ a o o', (a, o) ∈ M' j → (a, o') ∉ M i) →
    ∃ M2, PInv K B F0 (PV.giveAll ρ ix outs) F σ H M2 ∧ ∀ i y, y ∈ M2 i → y ∈ M i ∨ ∃ j ∈ js, y ∈ M' j
  | [], [], [], ρ, M, x, _, _, _ => ⟨M, x, fun i y h => .inl h⟩
  | y :: ix, G :: outs, j :: js, ρ, M, x, h, nj, hM => by
    obtain ⟨⟨v, hv, hS⟩, h2⟩ := h
    rw [List.nodup_cons] at nj
    have x1 := x.give hv hS fun a o hm => ⟨(hB j a o hm).1, (hB j a o hm).2.1, (hB j a o hm).2.2, fun k o' _ => hM k j List.mem_cons_self a o o' hm⟩
    obtain ⟨M2, x2, hs⟩ := PInv.giveAll hB ap x1 h2 nj.2 fun i j2 hj2 a o o' hm z => by
      by_cases e : i = y.1
      · subst e
        rw [upM_same] at z
        have := ap _ _ _ _ _ hm z
        subst this
        exact nj.1 hj2
      · rw [upM_ne e] at z
        exact hM i j2 (List.mem_cons_of_mem _ hj2) a o o' hm z
    refine ⟨M2, x2, fun i u hu => ?_⟩
    rcases hs i u hu with z | ⟨j2, h3, z⟩
    · by_cases e : i = y.1
      · subst e
        rw [upM_same] at z
        exact .inr ⟨j, List.mem_cons_self, z⟩
      · rw [upM_ne e] at z
        exact .inl z
    · exact .inr ⟨j2, List.mem_cons_of_mem _ h3, z⟩
  | [], [], _ :: _, _, _, _, h, _, _ => h.elim
  | [], _ :: _, _, _, _, _, h, _, _ => h.elim
  | _ :: _, [], _, _, _, _, h, _, _ => h.elim
  | _ :: _, _ :: _, [], _, _, _, h, _, _ => h.elim
end
theorem muIx_ge : ∀ {as : List Ar} {j k : Nat}, k ∈ muIx j as → j ≤ k
  | [], _, _, h => nomatch h
  | .ro _ :: as, j, k, h => by have := muIx_ge (as := as) (j := j + 1) h; omega
  | .mu _ :: as, j, k, h => by
    rcases List.mem_cons.mp h with e | e
    · omega
    · have := muIx_ge e; omega
theorem muIx_nodup : ∀ {as : List Ar} {j : Nat}, (muIx j as).Nodup
  | [], _ => List.nodup_nil
  | .ro _ :: as, j => muIx_nodup (as := as)
  | .mu _ :: as, j => by
    rw [muIx, List.nodup_cons]
    exact ⟨fun h => by have := muIx_ge h; omega, muIx_nodup⟩
/-! ### expressions that change what names own -/
structure EvM (X : Cx) (W : Wc) (ρ : Env) (e : Expr) (R : Except Ec Slot → Env → Prop) : Prop where
  run : ∀ (pins : List (Addr × Obj)) (s : Shared) (σ : St) (F H : Hp) (M : Nat → Mini) (B F0 : Hp) (Q : VK), Inv X pins σ H s → PInv X.K B F0 ρ F σ H M →
    (∀ S ρ', R (.ok S) ρ' → ∀ v F' H' M' m, PInv X.K B F0 ρ' F' σ H' M' → S.R X.K F' v m → (∀ a o, (a, o) ∈ m → H' a = some o ∧ F' a = none ∧ B a = none ∧ ∀ j o', (a, o') ∉ M' j) → Q v H') →
    (∀ c ρ', R (.error c) ρ' → ∀ F' H' M', PInv X.K B F0 ρ' F' σ H' M' → W c σ H') →
    wpAny (model X.prog X.w) X.A (eval e X.env) (EP X pins σ Q) X.xe s
instance coEvM {X : Cx} {W : Wc} {ρ : Env} {e : Expr} {R : Except Ec Slot → Env → Prop} : CoeFun (EvM X W ρ e R) fun _ => ∀ (pins : List (Addr × Obj)) (s : Shared) (σ : St) (F H : Hp) (M : Nat → Mini) (B F0 : Hp) (Q : VK), Inv X pins σ H s → PInv X.K B F0 ρ F σ H M →
    (∀ S ρ', R (.ok S) ρ' → ∀ v F' H' M' m, PInv X.K B F0 ρ' F' σ H' M' → S.R X.K F' v m → (∀ a o, (a, o) ∈ m → H' a = some o ∧ F' a = none ∧ B a = none ∧ ∀ j o', (a, o') ∉ M' j) → Q v H') →
    (∀ c ρ', R (.error c) ρ' → ∀ F' H' M', PInv X.K B F0 ρ' F' σ H' M' → W c σ H') →
    wpAny (model X.prog X.w) X.A (eval e X.env) (EP X pins σ Q) X.xe s := ⟨fun h => h.run⟩
def tEvM (X : Cx) (W : Wc) (ρ : Env) (R : Except Ec Slot → Env → Prop) : TE := fun σ H Q => ∃ F M B F0, PInv X.K B F0 ρ F σ H M ∧
    (∀ S ρ', R (.ok S) ρ' → ∀ v F' H' M' m, PInv X.K B F0 ρ' F' σ H' M' → S.R X.K F' v m → (∀ a o, (a, o) ∈ m → H' a = some o ∧ F' a = none ∧ B a = none ∧ ∀ j o', (a, o') ∉ M' j) → Q v H') ∧
    (∀ c ρ', R (.error c) ρ' → ∀ F' H' M', PInv X.K B F0 ρ' F' σ H' M' → W c σ H')
theorem EvM.pe {X : Cx} {W : Wc} {ρ : Env} {e : Expr} {R : Except Ec Slot → Env → Prop} (h : EvM X W ρ e R) : PE X e (tEvM X W ρ R) := ⟨fun pins s σ H Q I ⟨F, M, B, F0, ok, h1, h2⟩ => h pins s σ F H M B F0 Q I ok h1 h2⟩
structure EvAM (X : Cx) (W : Wc) (ρ : Env) (es : List Expr) (as : List Ar) (ix : List (Nat × Option Addr)) : Prop where
  run : ∀ (pos : Pos) (pins : List (Addr × Obj)) (s : Shared) (σ : St) (F H : Hp) (M : Nat → Mini) (Q : List V → Hp → Prop), Inv X pins σ H s → EOk X.K ρ F σ H M →
    (∀ vs F' H', Ext F H F' H' → CallR X.K F' ρ σ M vs as ix → Q vs H') → wpAny (model X.prog X.w) X.A (spliced (backTo pos (starEach es X.env))) (AP X pins σ Q) X.xe s
instance coEvAM {X : Cx} {W : Wc} {ρ : Env} {es : List Expr} {as : List Ar} {ix : List (Nat × Option Addr)} : CoeFun (EvAM X W ρ es as ix) fun _ => ∀ (pos : Pos) (pins : List (Addr × Obj)) (s : Shared) (σ : St) (F H : Hp) (M : Nat → Mini) (Q : List V → Hp → Prop), Inv X pins σ H s → EOk X.K ρ F σ H M →
    (∀ vs F' H', Ext F H F' H' → CallR X.K F' ρ σ M vs as ix → Q vs H') → wpAny (model X.prog X.w) X.A (spliced (backTo pos (starEach es X.env))) (AP X pins σ Q) X.xe s := ⟨fun h => h.run⟩
def tEvAM (X : Cx) (ρ : Env) (as : List Ar) (ix : List (Nat × Option Addr)) : TA := fun σ H Q => ∃ F M, EOk X.K ρ F σ H M ∧ (∀ vs F' H', Ext F H F' H' → CallR X.K F' ρ σ M vs as ix → Q vs H')
theorem CallR.mono {K : PySem.W.Frag} {F F' : Hp} {ρ : Env} {σ : St} {M : Nat → Mini} (e : Same F F') : ∀ {vs : List V} {as : List Ar} {ix : List (Nat × Option Addr)}, CallR K F ρ σ M vs as ix → CallR K F' ρ σ M vs as ix
  | [], [], [], _ => trivial
  | v :: vs, .ro S :: as, ix, h => ⟨S.mono K F F' v [] e h.1, CallR.mono e h.2⟩
  | v :: vs, .mu G :: as, x :: ix, h => ⟨⟨h.1.1, h.1.2.1, (G.G x.2).mono K F F' v _ e h.1.2.2⟩, CallR.mono e h.2⟩
  | [], [], _ :: _, h => h.elim
  | [], _ :: _, _, h => h.elim
  | _ :: _, [], _, h => h.elim
  | _ :: _, .mu _ :: _, [], h => h.elim
section
variable {X : Cx} {W : Wc} {ρ : Env} {e a b : Expr} {es : List Expr} {pos p : Pos} {C : Ec → Addr} {k : Nat} {rest : List Stmt} {Φ : Out → Prop}
theorem EvAM.pa {as : List Ar} {ix : List (Nat × Option Addr)} (h : EvAM X W ρ es as ix) : PA X es (tEvAM X ρ as ix) := ⟨fun pos pins s σ H Q I ⟨F, M, ok, h1⟩ => h pos pins s σ F H M Q I ok h1⟩
theorem am_nil : EvAM X W ρ [] [] [] := ⟨fun pos pins s σ F H M Q I ok h => pa_nil.run pos pins s σ H Q I (h _ F H (.refl ok.sub) trivial)⟩
theorem am_ro {S : Slot} {as : List Ar} {ix : List (Nat × Option Addr)} (ha : EvS X W ρ e S) (hr : EvAM X W ρ es as ix) (hs : starEach (e :: es) X.env = (false, eval e X.env) :: starEach es X.env := by rfl) : EvAM X W ρ (e :: es) (.ro S :: as) ix :=
  ⟨fun pos pins s σ F H M Q I ok h => (pa_cons ha.pe hr.pa hs).run pos pins s σ H Q I ⟨F, M, ok, fun v F1 H1 x1 dv => ⟨F1, M, ok.ext x1, fun vs F2 H2 x2 dvs => h _ F2 H2 (x1.trans x2) ⟨S.mono _ _ _ _ _ x2.f dv, dvs⟩⟩⟩⟩
theorem am_mu (i : Nat) (p : Option Addr) {G : Asl} {as : List Ar} {ix : List (Nat × Option Addr)} {x : Str} {px : Pos} (hd : ρ[i]? = some (some (G.G p))) (hr : EvAM X W ρ es as ix) (hN : X.N[i]? = some x := by rfl) (hv : Vis X.env.scope x := by first | exact Or.inl rfl | exact Or.inr (Or.inl rfl) | exact Or.inr (Or.inr rfl))
    (h1 : (x == ("__debug__" : Str)) = false := by decide) (h2 : (x == ("__classdict__" : Str)) = false := by decide) (hs : starEach (.Name x px :: es) X.env = (false, eval (.Name x px) X.env) :: starEach es X.env := by rfl) : EvAM X W ρ (.Name x px :: es) (.mu G :: as) ((i, p) :: ix) :=
  ⟨fun pos pins s σ F H M Q I ok h => (pa_cons (pe_var hN hv h1 h2) hr.pa hs).run pos pins s σ H Q I (by
    obtain ⟨v, e, q⟩ := ok.at_ i _ hd
    exact ⟨v, e, ⟨F, M, ok, fun vs F2 H2 x2 dvs => h _ F2 H2 x2 ⟨⟨hd, e, (G.G p).mono _ _ _ _ _ x2.f q⟩, dvs⟩⟩⟩)⟩
variable {ι : Type} {n : Nat} {ins : ι → List Ar} {pre : ι → Prop} {r : ι → Except Ec Slot → List Asl → Prop} {x : Str} {j : Nat}
/-- a call that may change what the names ix own -/
theorem evm_call (ix : List (Nat × Option Addr)) (c : Ctx X C W k) (G : Callee X.prog X.w X.K X.mg X.base j x (spM X.K C n ins pre r)) (i : ι) (hp : pre i) (ha : EvAM X W ρ (e :: es) (ins i) ix) (hj : j ≤ k := by decide) (hn : (ins i).length = n := by rfl) (hix : (ix.map (·.1)).Nodup := by decide)
    (hg : Gl X x := by rfl) (hdb : (x == ("__debug__" : Str)) = false := by decide) (he : starEach (e :: es) X.env = (false, eval e X.env) :: starEach es X.env := by rfl) (hpl : (backTo pos (starEach es X.env)).any (·.1) = false := by rfl) :
    EvM X W ρ (.Call (.Name x p) (e :: es) [] pos) (fun o ρ' => ∃ outs, r i o outs ∧ ρ' = giveAll (dropAll ρ ix) ix outs) := by
  refine ⟨?_⟩
  intro pins s σ F H M B F0 Q I ok h1 h2
  obtain ⟨f, fd, ps, hF, hm, hk, hb⟩ := G
  refine (pe_callS (E := WE (fun cls d σ H => ∃ c, cls = .ref (C c) ∧ d = none ∧ W c σ H)) hF (c.room.mono hj) hg hm hk hb (fun σ => passAt c.tk σ) ha.pa hdb he hpl).run pins s σ H Q I ?_
  refine ⟨F, M, ok.ok, fun vs F1 H1 x1 dvs => ?_⟩
  have ok1 := ok.ext x1
  have hcov := mOf_cover (j := 0) dvs
  have hA : ∀ j a o, (a, o) ∈ mOf M 0 (ins i) ix j → B a = none := fun j a o h => by
    obtain ⟨y, _, hy⟩ := mOf_mem h
    exact ok1.mb _ _ _ hy
  have hmM : ∀ i' j a o o', (a, o) ∈ wipeM M ix i' → (a, o') ∉ mOf M 0 (ins i) ix j := fun i' j a o o' h h' => by
    obtain ⟨h3, h4⟩ := wipeM_sub h
    obtain ⟨y, hy, hy2⟩ := mOf_mem h'
    exact h4 y hy (ok1.ok.apart _ _ _ _ _ hy2 h3)
  have key : ∀ {F' H' : Hp} {m : Mini} {M' : Nat → Mini} {outs : List Asl}, Post F1 H1 (mOf M 0 (ins i) ix) F' H' m M' → OutsR X.K F' vs M' (muIx 0 (ins i)) outs → ∃ M2, PInv X.K B F0 (giveAll (dropAll ρ ix) ix outs) F' σ H' M2 ∧ ∀ i' y, y ∈ M2 i' → y ∈ wipeM M ix i' ∨ ∃ j, y ∈ M' j := by
    intro F' H' m M' outs po oo
    have fr := (PInv.dropAll (ix := ix) ok1).frame po hA hmM
    have gv := CallR.give (ws := vs) dvs (fun k v hk => by rw [Nat.zero_add]; exact hk) oo
    have bn : ∀ a : Addr, (H1 a = none ∨ ∃ k o', (a, o') ∈ mOf M 0 (ins i) ix k) → B a = none := fun a h => by
      rcases h with z | ⟨k, o', z⟩
      · exact ok1.base.free z
      · exact hA k a o' z
    obtain ⟨M2, y1, y2⟩ := fr.giveAll (M' := M') (fun j a o h => ⟨(po.own j a o h).1, (po.own j a o h).2.1, bn a (po.own j a o h).2.2⟩) po.apart gv muIx_nodup fun i' j _ a o o' h h' => by
      have h3 := (ok1.dropAll (ix := ix)).ok.own i' a o' h'
      rcases (po.own j a o h).2.2 with z | ⟨k, o2, z⟩
      · rw [z] at h3; cases h3.1
      · exact hmM i' k a o' o2 h' z
    exact ⟨M2, y1, fun i' y hy => (y2 i' y hy).imp id fun ⟨j, _, z⟩ => ⟨j, z⟩⟩
  refine ⟨i, F1, mOf M 0 (ins i) ix, x1.sub, (CallR.len dvs).trans hn, CallR.args dvs fun k _ => rfl, fun j a o h => ?_, mOf_apart ok1.ok.apart hix, hp, fun S outs hS v F' H' m M' po hv oo => ?_, fun c' outs hc F' H' M' po oo => ⟨c', rfl, rfl, ?_⟩⟩
  · obtain ⟨y, _, hy⟩ := mOf_mem h
    exact ok1.ok.own _ _ _ hy
  · obtain ⟨M2, y1, y2⟩ := key po oo
    refine h1 S _ ⟨outs, hS, rfl⟩ v F' H' M2 m y1 hv fun a o hmm => ?_
    obtain ⟨z1, z2, z3⟩ := po.ownm a o hmm
    refine ⟨z1, z2, ?_, fun i' o' hi' => ?_⟩
    · rcases z3 with z | ⟨k, o', z⟩
      · exact ok1.base.free z
      · exact hA k a o' z
    · rcases y2 i' _ hi' with w | ⟨j, w⟩
      · have h3 := (ok1.dropAll (ix := ix)).ok.own i' a o' w
        rcases z3 with z | ⟨k, o2, z⟩
        · rw [z] at h3; cases h3.1
        · exact hmM i' k a o' o2 w z
      · exact po.apartm j a o o' hmm w
  · obtain ⟨M2, y1, _⟩ := key po oo
    exact h2 c' _ ⟨outs, hc, rfl⟩ F' H' M2 y1
/-! ### in statements -/
theorem sxs_exprM {R : Except Ec Slot → Env → Prop} (he : EvM X W ρ e R) (k : ∀ S ρ', R (.ok S) ρ' → Sxs X W rest ρ' Φ) (kr : ∀ c ρ', R (.error c) ρ' → Φ (.raise c ρ')) (hs : swapsWith e none pos.line X.env = pure false := by rfl) : Sxs X W (.Expr e pos :: rest) ρ Φ :=
  sxs_of (ps_expr he.pe hs) fun σ F H M B F0 D ok q => ⟨F, M, B, F0, ok, fun S ρ' hR v F' H' M' m x _ _ => ⟨_, Φ, F', M', B, F0, k S ρ' hR, x, q⟩, fun c ρ' hR F' H' M' x => q _ (kr c ρ' hR) F' σ H' M' x⟩
theorem sxs_retM {R : Except Ec Slot → Env → Prop} (he : EvM X W ρ e R) (k : ∀ S ρ', R (.ok S) ρ' → Φ (.ret S ρ')) (kr : ∀ c ρ', R (.error c) ρ' → Φ (.raise c ρ')) : Sxs X W (.Return (some e) pos :: rest) ρ Φ :=
  sxs_of (ps_ret he.pe) fun σ F H M B F0 D ok q => ⟨F, M, B, F0, ok, fun S ρ' hR v F' H' M' m x hv hm => q _ (k S ρ' hR) v F' σ H' _ (x.push hv hm), fun c ρ' hR F' H' M' x => q _ (kr c ρ' hR) F' σ H' M' x⟩
theorem sxs_setE (i : Nat) {x : Str} {pos' : Pos} {R : Except Ec Slot → Env → Prop} (he : EvM X W ρ e R) (k : ∀ S ρ', R (.ok S) ρ' → Sxs X W rest (ρ'.set i (some S)) Φ) (kr : ∀ c ρ', R (.error c) ρ' → Φ (.raise c ρ')) (hN : X.N.Nodup)
    (hi : X.N[i]? = some x := by rfl) (hx : Loc X.env.scope x := by first | exact Or.inl rfl | exact Or.inr rfl) (hs : swapsWith e (some (.Name x pos')) pos.line X.env = pure false := by rfl)
    (hf : X.fn x = true ∨ X.env.scope.names.lookup x = some .local := by first | exact .inl rfl | exact .inr rfl) : Sxs X W (.Assign [.Name x pos'] e pos :: rest) ρ Φ :=
  sxs_of (ps_set hN hi hx he.pe hs hf) fun σ F H M B F0 D ok q => ⟨F, M, B, F0, ok, fun S ρ' hR v F' H' M' m x hv hm => ⟨_, Φ, F', _, B, F0, k S ρ' hR, x.set hv fun a o z => ⟨(hm a o z).1, (hm a o z).2.1, (hm a o z).2.2.1, fun j o' _ => (hm a o z).2.2.2 j o'⟩, q⟩, fun c ρ' hR F' H' M' x => q _ (kr c ρ' hR) F' σ H' M' x⟩
end
end PV

/-! The pure-value layer: tests that change things; the defs themselves. -/
namespace PV
open PySem PySem.Spec PyProof.Rows L2
structure TstM (X : Cx) (W : Wc) (ρ : Env) (e : Expr) (R : Except Ec Bool → Env → Prop) : Prop where
  run : ∀ (pins : List (Addr × Obj)) (s : Shared) (σ : St) (F H : Hp) (M : Nat → Mini) (B F0 : Hp) (Q : Bool → Hp → Prop), Inv X pins σ H s → PInv X.K B F0 ρ F σ H M →
    (∀ b ρ', R (.ok b) ρ' → ∀ F' H' M', PInv X.K B F0 ρ' F' σ H' M' → Q b H') → (∀ c ρ', R (.error c) ρ' → ∀ F' H' M', PInv X.K B F0 ρ' F' σ H' M' → W c σ H') →
    wpAny (model X.prog X.w) X.A (isTrue e X.env (eval e X.env)) (TP X pins σ Q) X.xe s
instance coTstM {X : Cx} {W : Wc} {ρ : Env} {e : Expr} {R : Except Ec Bool → Env → Prop} : CoeFun (TstM X W ρ e R) fun _ => ∀ (pins : List (Addr × Obj)) (s : Shared) (σ : St) (F H : Hp) (M : Nat → Mini) (B F0 : Hp) (Q : Bool → Hp → Prop), Inv X pins σ H s → PInv X.K B F0 ρ F σ H M →
    (∀ b ρ', R (.ok b) ρ' → ∀ F' H' M', PInv X.K B F0 ρ' F' σ H' M' → Q b H') → (∀ c ρ', R (.error c) ρ' → ∀ F' H' M', PInv X.K B F0 ρ' F' σ H' M' → W c σ H') →
    wpAny (model X.prog X.w) X.A (isTrue e X.env (eval e X.env)) (TP X pins σ Q) X.xe s := ⟨fun h => h.run⟩
def tTstM (X : Cx) (W : Wc) (e : Expr) : TT := fun σ H Q => ∃ ρ R F M B F0, TstM X W ρ e R ∧ PInv X.K B F0 ρ F σ H M ∧ (∀ b ρ', R (.ok b) ρ' → ∀ F' H' M', PInv X.K B F0 ρ' F' σ H' M' → Q b H') ∧ (∀ c ρ', R (.error c) ρ' → ∀ F' H' M', PInv X.K B F0 ρ' F' σ H' M' → W c σ H')
theorem pt_tstM {X : Cx} {W : Wc} {e : Expr} : PT X e (tTstM X W e) := ⟨fun pins s σ H Q I ⟨ρ, R, F, M, B, F0, h, ok, h1, h2⟩ => h pins s σ F H M B F0 Q I ok h1 h2⟩
section
variable {X : Cx} {W : Wc} {ρ : Env} {e a b : Expr} {es : List Expr} {pos : Pos} {C : Ec → Addr} {k : Nat} {rest : List Stmt} {Φ : Out → Prop}
/-- the outcomes of a test, from those of its value -/
def boolR (R : Except Ec Slot → Env → Prop) : Except Ec Bool → Env → Prop
  | .ok t, ρ' => R (.ok (fz (.bool t))) ρ'
  | .error c, ρ' => R (.error c) ρ'
theorem tstM_val {R : Except Ec Slot → Env → Prop} (h : EvM X W ρ e R) (hb : ∀ S ρ', R (.ok S) ρ' → ∃ t, S = fz (.bool t)) (he : ∀ whole, isTrue e X.env whole = (do let v ← whole; standAt e.pos; holding [v] (truthy v)) := by intro _; rfl) : TstM X W ρ e (boolR R) :=
  ⟨fun pins s σ F H M B F0 Q I ok h1 h2 => (pt_val h.pe he).run pins s σ H Q I ⟨F, M, B, F0, ok, fun S ρ' hR v F' H' M' m x hv hm => by
    obtain ⟨t, rfl⟩ := hb S ρ' hR
    exact ⟨t, dq_bl hv.2, h1 t ρ' hR F' H' M' x⟩, fun c ρ' hR F' H' M' x => h2 c ρ' hR F' H' M' x⟩⟩
theorem tstM_of {b : Bool} (h : Tst X W ρ e b) : TstM X W ρ e (fun o ρ' => o = .ok b ∧ ρ' = ρ) :=
  ⟨fun pins s σ F H M B F0 Q I ok h1 h2 => h pins s σ F H M Q I ok.ok fun F' H' x => h1 b ρ ⟨rfl, rfl⟩ F' H' M (ok.ext x)⟩
theorem tstM_not {R : Except Ec Bool → Env → Prop} (h : TstM X W ρ e R) : TstM X W ρ (.UnaryOp .Not e pos) (fun o ρ' => match o with | .ok t => R (.ok (!t)) ρ' | .error c => R (.error c) ρ') :=
  ⟨fun pins s σ F H M B F0 Q I ok h1 h2 => (pt_not pt_tstM).run pins s σ H Q I ⟨ρ, R, F, M, B, F0, h, ok, fun t ρ' hR F' H' M' x => h1 (!t) ρ' (by show R (.ok (!!t)) ρ'; rw [Bool.not_not]; exact hR) F' H' M' x, h2⟩⟩
theorem tstM_and2 {p : Bool} {R : Except Ec Bool → Env → Prop} (h : Tst X W ρ a p) (h2 : p = true → TstM X W ρ b R) : TstM X W ρ (.BoolOp .And [a, b] pos) (fun o ρ' => (p = false ∧ o = .ok false ∧ ρ' = ρ) ∨ (p = true ∧ R o ρ')) :=
  ⟨fun pins s σ F H M B F0 Q I ok q1 q2 => by
    cases p with
    | false => exact (pw_and h.pt pw_none).run _ pins s σ H Q I ⟨F, M, ok.ok, fun F' H' x => iteF (q1 false ρ (.inl ⟨rfl, rfl, rfl⟩) F' H' M (ok.ext x))⟩
    | true => exact (pw_and h.pt (pw_and1 pt_tstM)).run _ pins s σ H Q I ⟨F, M, ok.ok, fun F' H' x => iteT ⟨ρ, R, F', M, B, F0, h2 rfl, ok.ext x, fun t ρ' hR => q1 t ρ' (.inr ⟨rfl, hR⟩), fun c ρ' hR => q2 c ρ' (.inr ⟨rfl, hR⟩)⟩⟩⟩
/-- if .. -/
theorem sxs_ifM {c : Expr} {a b : List Stmt} {R : Except Ec Bool → Env → Prop} (hc : TstM X W ρ c R) (ha : ∀ ρ', R (.ok true) ρ' → Sxs X W a ρ' (thenS X W rest Φ)) (hb : ∀ ρ', R (.ok false) ρ' → Sxs X W b ρ' (thenS X W rest Φ)) (kr : ∀ cl ρ', R (.error cl) ρ' → Φ (.raise cl ρ')) : Sxs X W (.If c a b pos :: rest) ρ Φ :=
  sxs_of (ps_if (pt_tstM (W := W)) (pss_Sxs X W a) (pss_Sxs X W b)) fun σ F H M B F0 D ok q => ⟨ρ, R, F, M, B, F0, hc, ok, fun t ρ' hR F' H' M' x => by
    cases t with
    | true => exact iteT ⟨ρ', _, F', M', B, F0, ha ρ' hR, x, thenS_ok q⟩
    | false => exact iteF ⟨ρ', _, F', M', B, F0, hb ρ' hR, x, thenS_ok q⟩, fun cl ρ' hR F' H' M' x => q _ (kr cl ρ' hR) F' σ H' M' x⟩
/-- while .. -/
theorem sxs_whileM {body : List Stmt} (c : Ctx X C W k) (P : Nat → Env → Prop) {m0 : Nat} (h0 : P m0 ρ)
    (step : ∀ m ρ, P m ρ → ∃ R, TstM X W ρ e R ∧ (∀ ρ', R (.ok true) ρ' → Sxs X W body ρ' (turnS (fun ρ' => ∃ m', m' < m ∧ P m' ρ') X W rest Φ)) ∧ (∀ ρ', R (.ok false) ρ' → Sxs X W rest ρ' Φ) ∧ (∀ cl ρ', R (.error cl) ρ' → Φ (.raise cl ρ'))) : Sxs X W (.While e body [] pos :: rest) ρ Φ := by
  refine sxs_of (ps_while c.po (pt_tstM (W := W)) (pss_Sxs X W body)) fun σ F H M B F0 D ok q => ?_
  refine ⟨fun m σ H => ∃ ρ F M, P m ρ ∧ PInv X.K B F0 ρ F σ H M, ⟨m0, ρ, F, M, h0, ok⟩, ?_⟩
  rintro m σ2 H2 ⟨ρ2, F2, M2, p2, ok2⟩
  obtain ⟨R, hb, h1, h2, h3⟩ := step m ρ2 p2
  refine ⟨ρ2, R, F2, M2, B, F0, hb, ok2, fun b ρ3 hR F' H' M' ok3 => ?_, fun cl ρ' hR F' H' M' x => q _ (h3 cl ρ' hR) F' σ2 H' M' x⟩
  cases b with
  | false => exact iteF ⟨ρ3, Φ, F', M', B, F0, h2 ρ3 hR, ok3, q⟩
  | true =>
    refine iteT ⟨fun σ' H' => ∃ m', m' < m ∧ ∃ ρ F M, P m' ρ ∧ PInv X.K B F0 ρ F σ' H' M, fun σ' H' h => h, ρ3, _, F', M', B, F0, h1 ρ3 hR, ok3, fun o ho => ?_⟩
    have again : ∀ ρ', (∃ ρ'', Wk ρ' ρ'' ∧ ∃ m', m' < m ∧ P m' ρ'') → ∀ F σ H M, PInv X.K B F0 ρ' F σ H M → ∃ m', m' < m ∧ ∃ ρ F M, P m' ρ ∧ PInv X.K B F0 ρ F σ H M := fun ρ' ⟨ρ'', w, m', hm, p⟩ F σ H M ok5 => ⟨m', hm, ρ'', F, M, p, ok5.weak w⟩
    cases o with
    | next ρ' => exact again ρ' ho
    | cont ρ' => exact again ρ' ho
    | brk ρ' => exact fun F σ H M ok5 => ⟨ρ', Φ, F, M, B, F0, ho, ok5, q⟩
    | ret S ρ' => exact q _ ho
    | raise c ρ' => exact q _ ho
end
/-! ### the def itself -/
def envIn (ad : Nat → Addr) : Nat → List Ar → Env
  | _, [] => []
  | j, .ro S :: as => some S :: envIn ad (j + 1) as
  | j, .mu G :: as => some (G.G (some (ad j))) :: envIn ad (j + 1) as
def OutIn (ad : Nat → Addr) (ρ : Env) : List Nat → List Asl → Prop
  | [], [] => True
  | j :: js, G :: Gs => ρ[j]? = some (some (G.G (some (ad j)))) ∧ OutIn ad ρ js Gs
  | _, _ => False
def bodyM (ad : Nat → Addr) (js : List Nat) (r : Except Ec Slot → List Asl → Prop) : Out → Prop
  | .next ρ => ∃ outs, r (.ok (fz .none)) outs ∧ OutIn ad ρ js outs
  | .ret S ρ => ∃ outs, r (.ok S) outs ∧ OutIn ad ρ js outs
  | .raise c ρ => ∃ outs, r (.error c) outs ∧ OutIn ad ρ js outs
  | _ => False
section
variable {P : Program} {w : World} {K : PySem.W.Frag} {mg : Str → Option Value} {base : Heap} {C : Ec → Addr} {k : Nat} {x : Str} {st : Stmt} {N ps : List Str} {ι : Type} {ins : ι → List Ar} {pre : ι → Prop} {r : ι → Except Ec Slot → List Asl → Prop}
def adOf (vs : List V) (j : Nat) : Addr := match vs[j]? with
  | some (.ref a) => a
  | _ => 0
theorem ArgsR.len {F : Hp} : ∀ {vs : List V} {as : List Ar} {M : Nat → Mini} {j : Nat}, ArgsR K F j vs as M → vs.length = as.length
  | [], [], _, _, _ => rfl
  | v :: vs, .ro S :: as, M, j, h => by rw [List.length_cons, List.length_cons, ArgsR.len h.2]
  | v :: vs, .mu G :: as, M, j, h => by rw [List.length_cons, List.length_cons, ArgsR.len h.2]
  | [], _ :: _, _, _, h => h.elim
  | _ :: _, [], _, _, h => h.elim
theorem envIn_len (ad : Nat → Addr) : ∀ (as : List Ar) (j : Nat), (envIn ad j as).length = as.length
  | [], _ => rfl
  | .ro S :: as, j => by rw [envIn, List.length_cons, List.length_cons, envIn_len ad as]
  | .mu G :: as, j => by rw [envIn, List.length_cons, List.length_cons, envIn_len ad as]
theorem envIn_at {F : Hp} {ws : List V} : ∀ {vs : List V} {as : List Ar} {M : Nat → Mini} {j : Nat}, ArgsR K F j vs as M → (∀ k v, vs[k]? = some v → ws[j + k]? = some v) → ∀ (i : Nat) (S : Slot), (envIn (adOf ws) j as)[i]? = some (some S) → ∃ v, vs[i]? = some v ∧ S.R K F v (M (j + i))
  | [], [], M, j, _, _, i, S, h => by rw [envIn] at h; simp at h
  | v :: vs, .ro T :: as, M, j, h, e, 0, S, hS => by
    rw [envIn] at hS
    obtain rfl : T = S := by simpa using hS
    refine ⟨v, rfl, ?_⟩
    rw [Nat.add_zero, h.1.2]
    exact h.1.1
  | v :: vs, .ro T :: as, M, j, h, e, i + 1, S, hS => by
    rw [envIn, List.getElem?_cons_succ] at hS
    obtain ⟨u, h1, h2⟩ := envIn_at h.2 (fun k u hk => by rw [show j + 1 + k = j + (k + 1) by omega]; exact e (k + 1) u (by simpa using hk)) i S hS
    exact ⟨u, by simpa using h1, by rw [show j + (i + 1) = j + 1 + i by omega]; exact h2⟩
  | v :: vs, .mu G :: as, M, j, h, e, 0, S, hS => by
    rw [envIn] at hS
    have hS : G.G (some (adOf ws j)) = S := by simpa using hS
    subst hS
    refine ⟨v, rfl, ?_⟩
    rw [Nat.add_zero]
    refine (G.ok _ K F v (M j)).mpr ⟨?_, h.1⟩
    obtain ⟨a, rfl, _⟩ := ((G.ok none K F v (M j)).mp h.1).1
    refine ⟨a, rfl, fun q hq => ?_⟩
    have := e 0 _ rfl
    rw [Nat.add_zero] at this
    have e2 : adOf ws j = a := by unfold adOf; rw [this]
    rw [← e2]; exact Option.some.inj hq
  | v :: vs, .mu G :: as, M, j, h, e, i + 1, S, hS => by
    rw [envIn, List.getElem?_cons_succ] at hS
    obtain ⟨u, h1, h2⟩ := envIn_at h.2 (fun k u hk => by rw [show j + 1 + k = j + (k + 1) by omega]; exact e (k + 1) u (by simpa using hk)) i S hS
    exact ⟨u, by simpa using h1, by rw [show j + (i + 1) = j + 1 + i by omega]; exact h2⟩
  | [], _ :: _, _, _, h, _, _, _, _ => h.elim
  | _ :: _, [], _, _, h, _, _, _, _ => h.elim
theorem muIx_val {F : Hp} {ws : List V} : ∀ {vs : List V} {as : List Ar} {M : Nat → Mini} {j : Nat}, ArgsR K F j vs as M → (∀ k v, vs[k]? = some v → ws[j + k]? = some v) → ∀ i ∈ muIx j as, ws[i]? = some (.ref (adOf ws i))
  | [], [], M, j, _, _, i, h => nomatch h
  | v :: vs, .ro T :: as, M, j, h, e, i, hi => muIx_val (as := as) h.2 (fun k u hk => by rw [show j + 1 + k = j + (k + 1) by omega]; exact e (k + 1) u (by simpa using hk)) i hi
  | v :: vs, .mu G :: as, M, j, h, e, i, hi => by
    rcases List.mem_cons.mp hi with q | q
    · subst q
      obtain ⟨a, rfl, _⟩ := ((G.ok none K F v (M i)).mp h.1).1
      have := e 0 _ rfl
      rw [Nat.add_zero] at this
      have e2 : adOf ws i = a := by unfold adOf; rw [this]
      rw [this, e2]
    · exact muIx_val (as := as) h.2 (fun k u hk => by rw [show j + 1 + k = j + (k + 1) by omega]; exact e (k + 1) u (by simpa using hk)) i q
  | [], _ :: _, _, _, h, _, _, _ => h.elim
  | _ :: _, [], _, _, h, _, _, _ => h.elim
theorem OutIn.outs {F : Hp} {ws : List V} {ρ : Env} {σ : St} {M : Nat → Mini} (at_ : ∀ (i : Nat) (S : Slot), ρ[i]? = some (some S) → ∃ v, σ[i]? = some (some v) ∧ S.R K F v (M i)) : ∀ {js : List Nat} {outs : List Asl}, (∀ i ∈ js, ws[i]? = some (.ref (adOf ws i))) → OutIn (adOf ws) ρ js outs → OutsR K F ws M js outs
  | [], [], _, _ => trivial
  | j :: js, G :: outs, hw, h => by
    refine ⟨?_, OutIn.outs at_ (fun i hi => hw i (List.mem_cons_of_mem _ hi)) h.2⟩
    obtain ⟨v, _, hR⟩ := at_ j _ h.1
    obtain ⟨⟨a, rfl, ha⟩, hR2⟩ := (G.ok _ K F v (M j)).mp hR
    refine ⟨_, hw j List.mem_cons_self, ?_⟩
    rw [← ha _ rfl]
    exact hR2
  | [], _ :: _, _, h => h.elim
  | _ :: _, [], _, h => h.elim
theorem OutsR.congr {F : Hp} {ws : List V} {M M' : Nat → Mini} : ∀ {js : List Nat} {outs : List Asl}, (∀ i ∈ js, M i = M' i) → OutsR K F ws M js outs → OutsR K F ws M' js outs
  | [], [], _, _ => trivial
  | j :: js, G :: outs, e, h => ⟨by rw [← e j List.mem_cons_self]; exact h.1, OutsR.congr (fun i hi => e i (List.mem_cons_of_mem _ hi)) h.2⟩
  | [], _ :: _, _, h => h.elim
  | _ :: _, [], _, h => h.elim
theorem fnok_ofM {m : Str} {f : Addr} {fd : FuncData} (F : Fun K m x st f fd) (S : FnScope N ps (defScope st))
    (body : ∀ (f : Addr) (cdv : Value) (A : Around) (outer : List PySem.Env) (s : Shared) (H : Hp) (E : XK), Ctx (cxD P w K mg base N x st f cdv A outer s H E) C (fun c σ H => E (.ref (C c)) none H) k → ∀ i, pre i → ∀ ad : Nat → Addr,
      Sxs (cxD P w K mg base N x st f cdv A outer s H E) (fun c σ H => E (.ref (C c)) none H) (defBody st) (envIn ad 0 (ins i) ++ List.replicate (N.length - (ins i).length) none) (bodyM ad (muIx 0 (ins i)) (r i))) : FnOk P w K mg base (L2.CX P w) (k + 1) f fd ps (spM K C ps.length ins pre r) := by
  refine F.okX S (fun vs H Q E ⟨i, F, M, _, h, _⟩ => h) (fun cdv A outer s H vs Q E hr h => ?_)
  obtain ⟨i, F0, M, s0, hl, hv, hM, ap, hp, q1, q2⟩ := h
  have tk : Takes (cxD P w K mg base N x st f cdv A outer s H E) (fun cls d σ H => ∃ c, cls = .ref (C c) ∧ d = none ∧ E (.ref (C c)) none H) :=
    Takes.imp (takes_of rfl rfl rfl rfl) fun cls d σ H ⟨c, e1, e2, z⟩ => by subst e1 e2; exact z
  have cc : Ctx (cxD P w K mg base N x st f cdv A outer s H E) C (fun c σ H => E (.ref (C c)) none H) k := ⟨rfl, hr, S.nd, passes_of rfl, tk⟩
  have b := body f cdv A outer s H E cc i hp (adOf vs)
  have hlen := ArgsR.len hv
  have hvz : ∀ k v, vs[k]? = some v → vs[0 + k]? = some v := fun k v hk => by rw [Nat.zero_add]; exact hk
  have el : N.length - (ins i).length = N.length - vs.length := by rw [hlen]
  let B : Hp := fun a => open Classical in if (∃ j o, (a, o) ∈ M j) then none else H a
  have hB1 : ∀ j a o, (a, o) ∈ M j → B a = none := fun j a o h => by
    show (open Classical in if (∃ j o, (a, o) ∈ M j) then none else H a) = none
    rw [if_pos ⟨j, o, h⟩]
  have hB2 : ∀ a o, B a = some o → H a = some o := fun a o h => by
    have h : (open Classical in if (∃ j o, (a, o) ∈ M j) then none else H a) = some o := h
    split at h
    · cases h
    · exact h
  have hB3 : ∀ a, B a = none → H a = none ∨ ∃ k o', (a, o') ∈ M k := fun a h => by
    have h : (open Classical in if (∃ j o, (a, o) ∈ M j) then none else H a) = none := h
    split at h
    · rename_i z; exact .inr z
    · exact .inl h
  have ok : EOk K (envIn (adOf vs) 0 (ins i) ++ List.replicate (N.length - (ins i).length) none) F0 (start N vs) H M := by
    rw [el]
    refine ⟨?_, s0, fun j S' hj => ?_, fun j a o h => hM j a o h, fun j k' a o o' h h' => ap j k' a o o' h h'⟩
    · show (vs.map some ++ List.replicate (N.length - vs.length) none).length = _
      simp [envIn_len, hlen]
    · have hlt : j < (envIn (adOf vs) 0 (ins i)).length := by
        by_cases q : j < (envIn (adOf vs) 0 (ins i)).length
        · exact q
        · rw [List.getElem?_append_right (by omega), List.getElem?_replicate] at hj
          split at hj <;> cases hj
      rw [List.getElem?_append_left hlt] at hj
      obtain ⟨v, h1, h2⟩ := envIn_at hv hvz j S' hj
      rw [Nat.zero_add] at h2
      refine ⟨v, ?_, h2⟩
      show (vs.map some ++ List.replicate (N.length - vs.length) none)[j]? = _
      rw [List.getElem?_append_left (by rw [List.length_map, hlen, ← envIn_len (adOf vs) (ins i) 0]; exact hlt), List.getElem?_map, h1]
      rfl
  have hmv := muIx_val hv hvz
  have post : ∀ {F' H' : Hp} {ρ : Env} {σ : St} {M' : Nat → Mini} {m : Mini} {N' : Nat → Mini}, PInv K B F0 ρ F' σ H' M' → (∀ j y, y ∈ N' j → ∃ l, y ∈ M' l) → (∀ y, y ∈ m → ∃ l, y ∈ M' l) → (∀ j k a o o', (a, o) ∈ N' j → (a, o') ∈ N' k → j = k) → (∀ j a o o', (a, o) ∈ m → (a, o') ∉ N' j) → Post F0 H M F' H' m N' := by
    intro F' H' ρ σ M' m N' y n1 n2 n3 n4
    refine ⟨y.f0, y.ok.sub, fun a o h1 h2 => y.base a o ?_, fun a o h1 h2 => hB3 a (y.nb a o h1 h2), fun j a o h => ?_, fun a o h => ?_, n3, n4⟩
    · show (open Classical in if (∃ j o, (a, o) ∈ M j) then none else H a) = some o
      rw [if_neg (fun ⟨j, o', z⟩ => h2 j o' z)]
      exact h1
    · obtain ⟨l, hl⟩ := n1 j _ h
      exact ⟨(y.ok.own l a o hl).1, (y.ok.own l a o hl).2, hB3 a (y.mb l a o hl)⟩
    · obtain ⟨l, hl⟩ := n2 _ h
      exact ⟨(y.ok.own l a o hl).1, (y.ok.own l a o hl).2, hB3 a (y.mb l a o hl)⟩
  refine ⟨_, pss_Sxs _ _ _, _, _, F0, _, B, F0, b, ⟨ok, hB2, .refl _, (fun a o h1 h2 => by rw [h1] at h2; cases h2), hB1⟩, fun o ho => ?_⟩
  cases o with
  | next ρ =>
    intro F' σ H' M' y
    obtain ⟨outs, h1, h2⟩ := ho
    exact q1 _ outs h1 .non F' H' [] M' (post y (fun j u hu => ⟨j, hu⟩) (fun _ z => nomatch z) y.ok.apart (fun _ _ _ _ z => nomatch z)) ⟨rfl, .non⟩ (OutIn.outs y.ok.at_ hmv h2)
  | ret S' ρ =>
    intro v F' σ H' M' y
    obtain ⟨outs, h1, h2⟩ := ho
    obtain ⟨v', e, hv'⟩ := y.ok.at_ 0 S' rfl
    have e' : v = v' := by simpa using e
    subst e'
    refine q1 S' outs h1 v F' H' (M' 0) (fun j => M' (j + 1)) (post y (fun j u hu => ⟨j + 1, hu⟩) (fun u hu => ⟨0, hu⟩) (fun j k' a o o' z z' => by have := y.ok.apart _ _ _ _ _ z z'; omega) (fun j a o o' z z' => by have := y.ok.apart _ _ _ _ _ z z'; omega)) hv' ?_
    exact OutIn.outs (ρ := ρ) (σ := σ) (M := fun j => M' (j + 1)) (fun j T hT => y.ok.at_ (j + 1) T (by simpa using hT)) hmv h2
  | brk ρ => exact ho.elim
  | cont ρ => exact ho.elim
  | raise c ρ =>
    intro F' σ H' M' y
    obtain ⟨outs, h1, h2⟩ := ho
    exact q2 c outs h1 F' H' M' (post y (fun j u hu => ⟨j, hu⟩) (fun _ z => nomatch z) y.ok.apart (fun _ _ _ _ z => nomatch z)) (OutIn.outs y.ok.at_ hmv h2)
theorem callee_ofM (D : Df K mg x st) (S : FnScope N ps (defScope st))
    (hb : ∀ (kV doc pm : Value) (an : Option Addr) (cdv ct : Value) (us : List Value), us.length = ps.length → bindArgs (PySem.W.fnOf x x (defArgs st) (defBody st) (defScope st) .none kV doc pm an cdv ct) ⟨us, []⟩ = pure (ps.zip us))
    (body : ∀ (f : Addr) (cdv : Value) (A : Around) (outer : List PySem.Env) (s : Shared) (H : Hp) (E : XK), Ctx (cxD P w K mg base N x st f cdv A outer s H E) C (fun c σ H => E (.ref (C c)) none H) k → ∀ i, pre i → ∀ ad : Nat → Addr,
      Sxs (cxD P w K mg base N x st f cdv A outer s H E) (fun c σ H => E (.ref (C c)) none H) (defBody st) (envIn ad 0 (ins i) ++ List.replicate (N.length - (ins i).length) none) (bodyM ad (muIx 0 (ins i)) (r i))) : Callee P w K mg base (k + 1) x (spM K C ps.length ins pre r) := by
  obtain ⟨f, fd, F, hm⟩ := D
  exact ⟨f, fd, ps, fnok_ofM F S body, hm, F.kp, F.binds hb⟩
end
end PV

/-! The pure-value layer: what is read of a call with things that names own. -/
namespace PV
open PySem PySem.Spec PyProof.Rows L2
section
variable {X : Cx} {W : Wc} {ρ ρ' : Env} {e a b : Expr} {pos : Pos} {C : Ec → Addr} {k : Nat} {rest : List Stmt} {Φ : Out → Prop}
theorem rv_borrow {d : PyData} (f : FrzL ρ ρ') (h : Rv X W ρ' e d) : Rv X W ρ e d := ⟨fun pins s σ F H M Q I ok q => h pins s σ H H _ Q I (ok.frz f) fun v F' H' x dv => q v F H' (Ext.under ok.sub x) dv⟩
theorem sxs_retS {S : Slot} (he : FrS X W ρ e S) (k : Φ (.ret S ρ)) : Sxs X W (.Return (some e) pos :: rest) ρ Φ :=
  sxs_of (ps_ret he.pe) fun σ F H M B F0 D ok q => ⟨F, M, ok.ok, fun v F' H' m x hv hm => q _ k v F' σ H' _ ((ok.ext x).push hv fun a o z => by
    obtain ⟨y1, y2, y3⟩ := hm a o z
    refine ⟨y1, y2, ok.base.free y3, fun j o' hm' => ?_⟩
    have w := (ok.ok.own j a o' hm').1
    rw [y3] at w; cases w)⟩
theorem Ev.sl {d : PyData} (h : Ev X W ρ e d) : FrS X W ρ e (fz d) := ⟨fun pins s σ F H M Q I ok q => h pins s σ F H M Q I ok (fun d' hd v F' H' x dv => by cases hd; exact q v F' H' [] x ⟨rfl, dv⟩ fun _ _ z => nomatch z) fun c hc => nomatch hc⟩
theorem FrS.to {S S' : Slot} (h : FrS X W ρ e S) (q : S = S') : FrS X W ρ e S' := q ▸ h
end
end PV

/-! The pure-value layer: x += n. -/
namespace PV
open PySem PySem.Spec PyProof.Rows L2
section
variable {X : Cx} {W : Wc} {ρ ρ' : Env} {e a b : Expr} {pos : Pos} {C : Ec → Addr} {k : Nat} {rest : List Stmt} {Φ : Out → Prop}
theorem sxs_augAdd (i : Nat) {x : Str} {pos' : Pos} {n m : Int} (hd : ρ[i]? = some (some (fz (.int n)))) (he : Ev X W ρ e (.int m)) (k : Sxs X W rest (ρ.set i (some (fz (.int (n + m))))) Φ) (hN : X.N.Nodup)
    (hi : X.N[i]? = some x := by rfl) (hx : Loc X.env.scope x := by first | exact Or.inl rfl | exact Or.inr rfl) (hf : X.fn x = true ∨ X.env.scope.names.lookup x = some .local := by first | exact .inl rfl | exact .inr rfl) : Sxs X W (.AugAssign (.Name x pos') .Add e pos :: rest) ρ Φ :=
  sxs_of (ps_aug hN hi hx he.pe ip_add hf) fun σ F H M B F0 D ok q => by
    obtain ⟨v, e1, _, dv⟩ := ok.ok.at_ i _ hd
    exact ⟨v, e1, rd ok.ok fun y F1 H1 x1 dy => ⟨n, m, dq_int dv, dq_int dy, _, Φ, F1, _, B, F0, k, (ok.ext x1).setF (.int _), q⟩⟩
end
end PV

/-! The pure-value layer: what a slot holds, of a call with things that names own. -/
namespace PV
open PySem PySem.Spec PyProof.Rows L2
section
variable {X : Cx} {W : Wc} {ρ ρ' : Env} {e a b : Expr} {pos : Pos} {C : Ec → Addr} {k : Nat} {rest : List Stmt} {Φ : Out → Prop}
def Slot.free (S : Slot) : Prop := ∀ (K : PySem.W.Frag) (F F' : Hp) (v : V) (m : Mini), S.R K F v m → S.R K F' v m
theorem free_fz {d : PyData} (h : scalar d = true) : (fz d).free := fun K F F' v m ⟨h1, h2⟩ => ⟨h1, dq_scalar h2 h⟩
theorem free_tr {t : T} (h : t.sc = true) : (tr t).free := fun K F F' v m hv => OT.sc t v m h hv
theorem s_borrow {S : Slot} (f : FrzL ρ ρ') (h : FrS X W ρ' e S) (hS : S.free) : FrS X W ρ e S := ⟨fun pins s σ F H M Q I ok q => h pins s σ H H _ Q I (ok.frz f) fun v F' H' m x hv hm =>
  q v F H' m (Ext.under ok.sub x) (hS _ _ _ _ _ hv) fun a o hmem => by
    obtain ⟨h1, h2, h3⟩ := hm a o hmem
    refine ⟨h1, ?_, h3⟩
    exact ok.sub.free h3⟩
end
end PV

/-! The pure-value layer: both ways of an if lead to one kind of environment. -/
namespace PV
open PySem PySem.Spec PyProof.Rows L2
def joinP (J : Env → Prop) (Φ : Out → Prop) : Out → Prop
  | .next ρ => ∃ ρ', Wk ρ ρ' ∧ J ρ'
  | o => Φ o
section
variable {X : Cx} {W : Wc} {ρ ρ' : Env} {e a b : Expr} {pos : Pos} {C : Ec → Addr} {k : Nat} {rest : List Stmt} {Φ : Out → Prop}
theorem join_then {J : Env → Prop} (k : ∀ ρ', J ρ' → Sxs X W rest ρ' Φ) : ∀ o, joinP J Φ o → thenS X W rest Φ o := fun o h => by
  cases o with
  | next ρ => obtain ⟨ρ', w, j⟩ := h; exact sxs_weak w (k ρ' j)
  | ret S ρ => exact h
  | brk ρ => exact h
  | cont ρ => exact h
  | raise c ρ => exact h
theorem sxs_ifMJ (J : Env → Prop) {c : Expr} {a b : List Stmt} {R : Except Ec Bool → Env → Prop} (hc : TstM X W ρ c R) (ha : ∀ ρ', R (.ok true) ρ' → Sxs X W a ρ' (joinP J Φ)) (hb : ∀ ρ', R (.ok false) ρ' → Sxs X W b ρ' (joinP J Φ)) (kr : ∀ cl ρ', R (.error cl) ρ' → Φ (.raise cl ρ')) (k : ∀ ρ', J ρ' → Sxs X W rest ρ' Φ) : Sxs X W (.If c a b pos :: rest) ρ Φ :=
  sxs_ifM hc (fun ρ' h => sxs_mono (ha ρ' h) (join_then k)) (fun ρ' h => sxs_mono (hb ρ' h) (join_then k)) kr
theorem sxs_ifJP (J : Env → Prop) {c : Expr} {a b : List Stmt} {t : Bool} (hc : Tst X W ρ c t) (ha : t = true → Sxs X W a ρ (joinP J Φ)) (hb : t = false → Sxs X W b ρ (joinP J Φ)) (k : ∀ ρ', J ρ' → Sxs X W rest ρ' Φ) : Sxs X W (.If c a b pos :: rest) ρ Φ :=
  sxs_if hc (fun h => sxs_mono (ha h) (join_then k)) (fun h => sxs_mono (hb h) (join_then k))
end
end PV

/-! The pure-value layer: defs with defaults; what comes of a call, by a relation. -/
namespace PV
open PySem PySem.Spec PyProof.Rows L2
/-- a def of the module, called with defaults dv behind what is written -/
def CalleeD (P : Program) (w : World) (K : PySem.W.Frag) (mg : Str → Option Value) (base : Heap) (k : Nat) (x : Str) (dv : List V) (sp : Sp) : Prop :=
  ∃ f fd ps ds, FnOk P w K mg base (L2.CX P w) k f fd ps sp ∧ mg x = some (.ref f) ∧ PySem.W.keepIn K (.ref f) = true ∧ Vals dv ds ∧ Binds K fd ps ds
def DfD (K : PySem.W.Frag) (mg : Str → Option Value) (x : Str) (st : Stmt) (dvs : List V) : Prop := ∃ f fd, FunD K x x (defArgs st) (defBody st) (defScope st) dvs [] f fd ∧ mg x = some (.ref f)
section
variable {K : PySem.W.Frag} {mg : Str → Option Value} {h : Heap} {fa : List He.Fa} {fn : List He.DefD}
theorem df_ofD (X : K.In h) (G : h.Ns mainGlobals mg) (c : He.SaysD fa fn K) (i j : Nat) {x : Str} {st : Stmt} {dfl : List He.Dv} (h1 : fn[i]? = some (ddD x st dfl) := by rfl) (h2 : fa[j]? = some (.glo x) := by rfl) : DfD K mg x st (dfl.map (He.Dv.v K)) := by
  obtain ⟨fd, F⟩ := c.def_ i h1
  exact ⟨_, fd, F, He.glo_ok X G (c.fact j h2)⟩
end
section
variable {P : Program} {w : World} {K : PySem.W.Frag} {mg : Str → Option Value} {base : Heap} {C : Ec → Addr} {k : Nat} {x : Str} {st : Stmt} {N ps : List Str} {ι : Type} {ins : ι → List Slot} {pre : ι → Prop} {r : ι → Except Ec Slot → Prop} {dvs : List V} {f : Addr} {fd : FuncData}
theorem fnok_ofD (F : FunD K x x (defArgs st) (defBody st) (defScope st) dvs [] f fd) (S : FnScope N ps (defScope st))
    (body : ∀ (f : Addr) (cdv : Value) (A : Around) (outer : List PySem.Env) (s : Shared) (H : Hp) (E : XK), Ctx (cxD P w K mg base N x st f cdv A outer s H E) C (fun c σ H => E (.ref (C c)) none H) k → ∀ i, pre i →
      Sxs (cxD P w K mg base N x st f cdv A outer s H E) (fun c σ H => E (.ref (C c)) none H) (defBody st) ((ins i).map some ++ List.replicate (N.length - (ins i).length) none) (bodyS (r i))) : FnOk P w K mg base (L2.CX P w) (k + 1) f fd ps (spP K C ps.length ins pre r) := by
  refine F.ok S (fun vs H Q E ⟨i, F, _, h, _⟩ => h) (fun cdv A outer s H vs Q E hr h => ?_)
  obtain ⟨i, F0, s0, hl, hv, hp, q1, q2⟩ := h
  have tk : Takes (cxD P w K mg base N x st f cdv A outer s H E) (fun cls d σ H => ∃ c, cls = .ref (C c) ∧ d = none ∧ E (.ref (C c)) none H) :=
    Takes.imp (takes_of rfl rfl rfl rfl) fun cls d σ H ⟨c, e1, e2, z⟩ => by subst e1 e2; exact z
  have cc : Ctx (cxD P w K mg base N x st f cdv A outer s H E) C (fun c σ H => E (.ref (C c)) none H) k := ⟨rfl, hr, S.nd, passes_of rfl, tk⟩
  have b := body f cdv A outer s H E cc i hp
  have el : N.length - (ins i).length = N.length - vs.length := by rw [Paired.length hv]
  have ok : EOk K ((ins i).map some ++ List.replicate (N.length - (ins i).length) none) F0 (start N vs) H (fun _ => []) := by
    rw [el]; exact EOk_args s0 hv
  have gr : ∀ {F' H' : Hp} {ρ : Env} {σ : St} {M : Nat → Mini}, PInv K H F0 ρ F' σ H' M → Ext F0 H F' H' := fun y => ⟨y.f0, y.base, y.ok.sub, y.nb⟩
  refine ⟨_, pss_Sxs _ _ _, _, _, F0, _, H, F0, b, ⟨ok, .refl _, .refl _, (fun a o h1 h2 => by rw [h1] at h2; cases h2), fun _ _ _ z => nomatch z⟩, fun o ho => ?_⟩
  cases o with
  | next ρ => exact fun F' σ H' M y => q1 _ ho .non F' H' [] (gr y) ⟨rfl, .non⟩ fun _ _ z => nomatch z
  | ret S ρ =>
    intro v F' σ H' M y
    obtain ⟨v', e, hv'⟩ := y.ok.at_ 0 S rfl
    have e' : v = v' := by simpa using e
    subst e'
    exact q1 S ho v F' H' (M 0) (gr y) hv' fun a o hm => ⟨(y.ok.own 0 a o hm).1, (y.ok.own 0 a o hm).2, y.mb 0 a o hm⟩
  | brk ρ => exact ho.elim
  | cont ρ => exact ho.elim
  | raise c ρ => exact fun F' σ H' M y => q2 c ho F' H' (gr y)
/-- called with n values, the defaults behind the first j of them fill up -/
theorem callee_ofD (n j : Nat) (D : DfD K mg x st dvs) (hd : dvs ≠ []) (S : FnScope N ps (defScope st)) (hn : n + (dvs.length - j) = ps.length)
    (hb : ∀ (T : Addr) (kV doc pm : Value) (an : Option Addr) (cdv ct : Value) (us its : List Value), us.length = n → its.length = dvs.length →
      ∃ k, bindArgs (PySem.W.fnOf x x (defArgs st) (defBody st) (defScope st) (.ref T) kV doc pm an cdv ct) ⟨us, []⟩ = seqItems? (.ref T) >>= k ∧ k (some its.toArray) = pure (ps.zip (us ++ its.drop j)))
    (body : ∀ (f : Addr) (cdv : Value) (A : Around) (outer : List PySem.Env) (s : Shared) (H : Hp) (E : XK), Ctx (cxD P w K mg base N x st f cdv A outer s H E) C (fun c σ H => E (.ref (C c)) none H) k → ∀ i, pre i →
      Sxs (cxD P w K mg base N x st f cdv A outer s H E) (fun c σ H => E (.ref (C c)) none H) (defBody st) ((ins i).map some ++ List.replicate (N.length - (ins i).length) none) (bodyS (r i))) : CalleeD P w K mg base (k + 1) x (dvs.drop j) (spP K C ps.length ins pre r) := by
  obtain ⟨f, fd, F, hm⟩ := D
  obtain ⟨ds, h1, h2⟩ := F.binds1 (ps := ps) n j hd hn hb
  exact ⟨f, fd, ps, ds, fnok_ofD F S body, hm, F.kp, h1, h2⟩
end
section
variable {X : Cx} {W : Wc} {ρ ρ' : Env} {e a b : Expr} {es : List Expr} {pos p : Pos} {C : Ec → Addr} {k : Nat} {rest : List Stmt} {Φ : Out → Prop}
variable {ι : Type} {n : Nat} {ins : ι → List Slot} {pre : ι → Prop} {r : ι → Except Ec Slot → Prop} {x : Str} {j : Nat}
/-- whatever comes of a call that changes nothing -/
theorem evm_callP (c : Ctx X C W k) (G : Callee X.prog X.w X.K X.mg X.base j x (spP X.K C n ins pre r)) (i : ι) (hp : pre i) (ha : EvAS X W ρ (e :: es) (ins i)) (hj : j ≤ k := by decide) (hn : (ins i).length = n := by rfl)
    (hg : Gl X x := by rfl) (hdb : (x == ("__debug__" : Str)) = false := by decide) (he : starEach (e :: es) X.env = (false, eval e X.env) :: starEach es X.env := by rfl) (hpl : (backTo pos (starEach es X.env)).any (·.1) = false := by rfl) :
    EvM X W ρ (.Call (.Name x p) (e :: es) [] pos) (fun o ρ' => r i o ∧ ρ' = ρ) := ⟨fun pins s σ F H M B F0 Q I ok h1 h2 =>
  call_any c G hj i hp ha hn hg hdb he hpl pins s σ F H M Q I ok.ok (fun S hS v F' H' m x hv hm => h1 S ρ ⟨hS, rfl⟩ v F' H' M m (ok.ext x) hv fun a o hmm => by
    obtain ⟨z1, z2, z3⟩ := hm a o hmm
    refine ⟨z1, z2, ok.base.free z3, fun j o' hj => ?_⟩
    have := (ok.ok.own j a o' hj).1
    rw [z3] at this; cases this) fun c' hc F' H' x => h2 c' ρ ⟨hc, rfl⟩ F' H' M (ok.ext x)⟩
/-- the same with defaults -/
theorem evm_callD {dv : List V} {Ss Ds : List Slot} (c : Ctx X C W k) (G : CalleeD X.prog X.w X.K X.mg X.base j x dv (spP X.K C n ins pre r)) (i : ι) (hp : pre i) (ha : EvAS X W ρ (e :: es) Ss) (hd : ∀ F, SlotsR X.K F dv Ds) (hi : ins i = Ss ++ Ds) (hj : j ≤ k := by decide) (hn : (ins i).length = n := by rfl)
    (hg : Gl X x := by rfl) (hdb : (x == ("__debug__" : Str)) = false := by decide) (he : starEach (e :: es) X.env = (false, eval e X.env) :: starEach es X.env := by rfl) (hpl : (backTo pos (starEach es X.env)).any (·.1) = false := by rfl) :
    EvM X W ρ (.Call (.Name x p) (e :: es) [] pos) (fun o ρ' => r i o ∧ ρ' = ρ) := by
  refine ⟨?_⟩
  intro pins s σ F H M B F0 Q I ok h1 h2
  obtain ⟨f, fd, ps, ds, hF, hm, hk, hv, hb⟩ := G
  refine (pe_callSD (E := WE (fun cls d σ H => ∃ c, cls = .ref (C c) ∧ d = none ∧ W c σ H)) hF (c.room.mono hj) hg hm hk hb hv (fun σ => passAt c.tk σ) ha.pa hdb he hpl).run pins s σ H Q I ?_
  refine ⟨F, M, ok.ok, fun vs F1 H1 x1 dvs => ?_⟩
  have ok1 := ok.ext x1
  have app : ∀ {vs ws : List V} {Ss Ts : List Slot}, SlotsR X.K F1 vs Ss → SlotsR X.K F1 ws Ts → SlotsR X.K F1 (vs ++ ws) (Ss ++ Ts) := by
    intro vs ws Ss Ts h h'
    induction h with
    | nil => exact h'
    | cons a t ih => exact .cons a ih
  have all := app dvs (hd F1)
  rw [← hi] at all
  refine ⟨i, F1, x1.sub, (Paired.length all).trans hn, all, hp, fun S hS v F' H' m x2 hv hm => ?_, fun c hc F' H' x2 => ⟨c, rfl, rfl, h2 c ρ ⟨hc, rfl⟩ F' H' M (ok.ext (x1.trans x2))⟩⟩
  refine h1 S ρ ⟨hS, rfl⟩ v F' H' M m (ok.ext (x1.trans x2)) hv fun a o hmm => ?_
  obtain ⟨z1, z2, z3⟩ := hm a o hmm
  refine ⟨z1, z2, ok1.base.free z3, fun j o' hj => ?_⟩
  have := (ok1.ok.own j a o' hj).1
  rw [z3] at this; cases this
/-- an item of a tuple that comes of it -/
theorem evm_ixT {R : Except Ec Slot → Env → Prop} {i : Int} (R2 : PyData → Env → Prop) (ha : EvM X W ρ a R) (hR : ∀ S ρ', R (.ok S) ρ' → ∃ ds d, S = fz (.tuple ds) ∧ atI ds i = some d ∧ R2 d ρ') {j' : Nat} {pos' : Pos} (hs : PlainIx (.Constant (.int i) j' pos') := by exact fun _ _ => rfl) :
    EvM X W ρ (.Subscript a (.Constant (.int i) j' pos') pos) (fun o ρ' => match o with
      | .ok S => ∃ d, R2 d ρ' ∧ S = fz d
      | .error c => R (.error c) ρ') := by
  refine ⟨?_⟩
  intro pins s σ F H M B F0 Q I ok h1 h2
  refine (pe_ix ix_tup ha.pe pe_int hs).run pins s σ H Q I ⟨F, M, B, F0, ok, fun S ρ' hS v F1 H1 M1 m x1 hv hm => ?_, fun c ρ' hc F' H' M' x => h2 c ρ' hc F' H' M' x⟩
  obtain ⟨ds, d, rfl, e, hd⟩ := hR S ρ' hS
  obtain ⟨_, dx⟩ := hv
  obtain ⟨p, vs, rfl, g1, g2⟩ := dq_tup dx
  obtain ⟨u, g3, g4⟩ := atI_dq g2 e
  exact ⟨p, vs, i, u, rfl, rfl, same_seqT x1.ok.sub g1, g3, h1 (fz d) ρ' ⟨d, hd, rfl⟩ u F1 H1 M1 [] x1 ⟨rfl, g4⟩ fun _ _ z => nomatch z⟩
end
end PV

/-! The pure-value layer: dicts of keys that are numbers or texts, read wherever they stand; frozen ones. -/
namespace PV
open PySem PySem.Spec PyProof.Rows L2
section
variable {K : PySem.W.Frag} {F H : Hp}
theorem DqKv.kv : ∀ {ps : List (Key × V)} {qs : List (Key × PyData)}, DqKv K F ps qs → KvR K F ps qs
  | _, _, .nil => .nil
  | _, _, .cons h t => .cons ⟨rfl, h⟩ (DqKv.kv t)
theorem KvR.dqKv : ∀ {ps : List (Key × V)} {qs : List (Key × PyData)}, KvR K F ps qs → DqKv K F ps qs
  | _, _, .nil => .nil
  | (k, v) :: _, (_, d) :: _, .cons ⟨e, h⟩ t => by
    cases e
    exact .cons h (KvR.dqKv t)
theorem kD_inj : ∀ {k j : Key}, kD k = kD j → k = j
  | .inl _, .inl _, h => by injection h with h; rw [h]
  | .inr _, .inr _, h => by injection h with h; rw [h]
  | .inl _, .inr _, h => by cases h
  | .inr _, .inl _, h => by cases h
theorem kvs_inj : ∀ {qs rs : List (Key × PyData)}, (qs.map fun q => (kD q.1, q.2)) = rs.map (fun q => (kD q.1, q.2)) → qs = rs
  | [], [], _ => rfl
  | [], _ :: _, h => by simp at h
  | _ :: _, [], h => by simp at h
  | (k, d) :: qs, (j, e) :: rs, h => by
    simp only [List.map_cons, List.cons.injEq, Prod.mk.injEq] at h
    rw [kD_inj h.1.1, h.1.2, kvs_inj h.2]
theorem dq_dct {v : V} {qs : List (Key × PyData)} (h : Dq K F v (dctD qs)) : ∃ a o ps, v = .ref a ∧ F a = some (.frz o (.dK ps)) ∧ KvR K F ps qs := by
  generalize e : dctD qs = d at h
  cases h with
  | non => cases e
  | bl b => cases e
  | int i => cases e
  | str x => cases e
  | lst _ _ => cases e
  | tup _ _ => cases e
  | dct h1 h2 =>
    have e2 : qs = _ := kvs_inj (by unfold dctD at e; injection e)
    subst e2
    exact ⟨_, _, _, rfl, h1, h2.kv⟩
end
/-- e is a dict of these keys and things, to be read -/
structure Dv (X : Cx) (W : Wc) (ρ : Env) (e : Expr) (qs : List (Key × PyData)) : Prop where
  run : ∀ (pins : List (Addr × Obj)) (s : Shared) (σ : St) (F H : Hp) (M : Nat → Mini) (Q : VK), Inv X pins σ H s → EOk X.K ρ F σ H M →
    (∀ a ps F' H', Ext F H F' H' → Rd H' a (.dK ps) → KvR X.K F' ps qs → Q (.ref a) H') → wpAny (model X.prog X.w) X.A (eval e X.env) (EP X pins σ Q) X.xe s
instance coDv {X : Cx} {W : Wc} {ρ : Env} {e : Expr} {qs : List (Key × PyData)} : CoeFun (Dv X W ρ e qs) fun _ => ∀ (pins : List (Addr × Obj)) (s : Shared) (σ : St) (F H : Hp) (M : Nat → Mini) (Q : VK), Inv X pins σ H s → EOk X.K ρ F σ H M →
    (∀ a ps F' H', Ext F H F' H' → Rd H' a (.dK ps) → KvR X.K F' ps qs → Q (.ref a) H') → wpAny (model X.prog X.w) X.A (eval e X.env) (EP X pins σ Q) X.xe s := ⟨fun h => h.run⟩
def tDv (X : Cx) (ρ : Env) (qs : List (Key × PyData)) : TE := fun σ H Q => ∃ F M, EOk X.K ρ F σ H M ∧ ∀ a ps F' H', Ext F H F' H' → Rd H' a (.dK ps) → KvR X.K F' ps qs → Q (.ref a) H'
section
variable {X : Cx} {W : Wc} {ρ : Env} {e a b d : Expr} {es : List Expr} {pos p : Pos} {C : Ec → Addr} {k : Nat} {rest : List Stmt} {Φ : Out → Prop} {qs : List (Key × PyData)} {y : Key}
theorem Dv.pe (h : Dv X W ρ e qs) : PE X e (tDv X ρ qs) := ⟨fun pins s σ H Q I ⟨F, M, ok, h1⟩ => h pins s σ F H M Q I ok h1⟩
theorem dv_ev (h : Ev X W ρ e (dctD qs)) : Dv X W ρ e qs := ⟨fun pins s σ F H M Q I ok q => h pins s σ F H M Q I ok (fun d hd v F' H' x dv => by
  cases hd
  obtain ⟨a, o, ps, rfl, h1, h2⟩ := dq_dct dv
  exact q a ps F' H' x (.inr ⟨o, x.sub _ _ h1⟩) h2) fun c hc => nomatch hc⟩
theorem dv_var (i : Nat) {x : Str} (hd : ρ[i]? = some (some (dk qs))) (hN : X.N[i]? = some x := by rfl) (hv : Vis X.env.scope x := by first | exact Or.inl rfl | exact Or.inr (Or.inl rfl) | exact Or.inr (Or.inr rfl))
    (h1 : (x == ("__debug__" : Str)) = false := by decide) (h2 : (x == ("__classdict__" : Str)) = false := by decide) : Dv X W ρ (.Name x pos) qs :=
  ⟨fun pins s σ F H M Q I ok h => (pe_var hN hv h1 h2).run pins s σ H Q I (by
    obtain ⟨v, e, a, ps, rfl, hm, r⟩ := ok.at_ i _ hd
    exact ⟨_, e, h a ps F H (.refl ok.sub) (.of (ok.own i a _ (by rw [hm]; exact List.mem_cons_self)).1) r⟩)⟩
/-- what stands at a key -/
theorem kv_get {K : PySem.W.Frag} {F H : Hp} {a : Addr} {ps : List (Key × V)} {v : V} (hH : Rd H a (.dK ps)) (r : KvR K F ps qs) (dv : Dq K F v (kD y)) :
    (getP qs y = none ∧ DGet H a v none) ∨ ∃ u d, getP qs y = some d ∧ DGet H a v (some u) ∧ Dq K F u d := by
  have hg : DGet H a (kV y) (valV ps y) := .inl ⟨ps, y, hH, rfl, rfl⟩
  rw [dq_key dv]
  rcases r.get y with ⟨h1, h2⟩ | ⟨u, d, h1, h2, h3⟩
  · rw [h1] at hg; exact .inl ⟨h2, hg⟩
  · rw [h1] at hg; exact .inr ⟨u, d, h2, hg, h3⟩
theorem ev_dgetV {z : PyData} (c : Ctx X C W k) (ha : Dv X W ρ a qs) (hb : Ev X W ρ b (kD y)) (hg : getP qs y = some z) (hs : NoSl b := by exact fun _ _ => rfl) : Ev X W ρ (.Subscript a b pos) z :=
  ev1_of (pe_dget c.hu ha.pe hb.pe hs) fun σ F H M Q ok h => ⟨F, M, ok, fun p ps F1 H1 x1 hp r => rd (ok.ext x1) fun v F2 H2 x2 dv => by
    rcases kv_get (same_rd x2.h hp) (r.mono x2.f) dv with ⟨z, _⟩ | ⟨u, d', z, g, du⟩
    · rw [z] at hg; cases hg
    · rw [z] at hg; cases hg
      exact ⟨p, u, rfl, g, h u F2 H2 (x1.trans x2) du⟩⟩
theorem cm_inV (c : Ctx X C W k) (hb : Ev X W ρ b (kD y)) (ha : Dv X W ρ a qs) : Cm X W ρ .In b a (getP qs y).isSome :=
  ⟨fun pins s σ F H M Q I ok h => (pc_din c.hu hb.pe ha.pe).run pins s σ H Q I (rd ok fun v F1 H1 x1 dv => ⟨F1, M, ok.ext x1, fun p ps F2 H2 x2 hp r => by
    rcases kv_get hp r (dq_mono x2.f _ _ dv) with ⟨z, g⟩ | ⟨u, d', z, g, du⟩
    · rw [z] at h; exact ⟨p, none, rfl, g, h F2 H2 (x1.trans x2)⟩
    · rw [z] at h; exact ⟨p, some u, rfl, g, h F2 H2 (x1.trans x2)⟩⟩)⟩
theorem cm_ninV (c : Ctx X C W k) (hb : Ev X W ρ b (kD y)) (ha : Dv X W ρ a qs) : Cm X W ρ .NotIn b a (!(getP qs y).isSome) :=
  ⟨fun pins s σ F H M Q I ok h => (pc_dnotin c.hu hb.pe ha.pe).run pins s σ H Q I (rd ok fun v F1 H1 x1 dv => ⟨F1, M, ok.ext x1, fun p ps F2 H2 x2 hp r => by
    rcases kv_get hp r (dq_mono x2.f _ _ dv) with ⟨z, g⟩ | ⟨u, d', z, g, du⟩
    · rw [z] at h; exact ⟨p, none, rfl, g, h F2 H2 (x1.trans x2)⟩
    · rw [z] at h; exact ⟨p, some u, rfl, g, h F2 H2 (x1.trans x2)⟩⟩)⟩
theorem ev_dgetV2 {apos : Pos} {z : PyData} (c : Ctx X C W k) (ha : Dv X W ρ a qs) (hb : Ev X W ρ b (kD y)) (hf : Ev X W ρ d z) (m : M2 X a "get" apos b d pos := by exact ⟨rfl, rfl, rfl, rfl⟩) : Ev X W ρ (.Call (.Attribute a "get" apos) [b, d] [] pos) ((getP qs y).getD z) :=
  ev1_of (pe_dget2 c.hu ha.pe hb.pe hf.pe m) fun σ F H M Q ok h => ⟨F, M, ok, fun p ps F1 H1 x1 hp r => ⟨p, rfl, .inl ⟨ps, hp⟩, rd (ok.ext x1) fun v F2 H2 x2 dv => rd (ok.ext (x1.trans x2)) fun w F3 H3 x3 dw => by
    rcases kv_get (same_rd (x2.trans x3).h hp) (r.mono (x2.trans x3).f) (dq_mono x3.f _ _ dv) with ⟨e, g⟩ | ⟨u, d', e, g, du⟩
    · rw [e] at h; exact ⟨none, g, h w F3 H3 ((x1.trans x2).trans x3) dw⟩
    · rw [e] at h; exact ⟨some u, g, h u F3 H3 ((x1.trans x2).trans x3) du⟩⟩⟩
end
end PV

/-! The pure-value layer: what is made of dicts: copies, lists of their keys, the keys in order; taking out; freezing. -/
namespace PV
open PySem PySem.Spec PyProof.Rows L2
/-! ### texts in order -/
def leS (x y : Str) : Bool := !ltCps y.cps.toList x.cps.toList
theorem ltCps_anti : ∀ {a b : List Nat}, ltCps a b = false → ltCps b a = false → a = b
  | [], [], _, _ => rfl
  | [], _ :: _, h, _ => by simp [ltCps] at h
  | _ :: _, [], _, h => by simp [ltCps] at h
  | a :: r, b :: t, h, h' => by
    simp only [ltCps, Bool.or_eq_false_iff, Bool.and_eq_false_iff, decide_eq_false_iff_not, beq_eq_false_iff_ne] at h h'
    have e : a = b := by omega
    subst e
    rw [ltCps_anti (h.2.resolve_left (fun z => z rfl)) (h'.2.resolve_left (fun z => z rfl))]
theorem ltCps_trans : ∀ {a b c : List Nat}, ltCps b a = false → ltCps c b = false → ltCps c a = false
  | [], _, [], _, _ => rfl
  | [], [], _ :: _, _, _ => rfl
  | [], _ :: _, _ :: _, _, _ => rfl
  | _ :: _, [], _, h, _ => by simp [ltCps] at h
  | _ :: _, _ :: _, [], _, h => by simp [ltCps] at h
  | a :: r, b :: t, c :: u, h, h' => by
    simp only [ltCps, Bool.or_eq_false_iff, Bool.and_eq_false_iff, decide_eq_false_iff_not, beq_eq_false_iff_ne] at h h' ⊢
    refine ⟨by omega, ?_⟩
    by_cases e : c = a
    · right
      subst e
      have e2 : b = c := by omega
      subst e2
      exact ltCps_trans (h.2.resolve_left (fun z => z rfl)) (h'.2.resolve_left (fun z => z rfl))
    · exact .inl e
theorem ltCps_asym : ∀ {a b : List Nat}, ltCps a b = true → ltCps b a = false
  | [], [], h => by simp [ltCps] at h
  | [], _ :: _, _ => rfl
  | _ :: _, [], h => by simp [ltCps] at h
  | a :: r, b :: t, h => by
    simp only [ltCps, Bool.or_eq_true, Bool.and_eq_true, decide_eq_true_eq, beq_iff_eq] at h
    simp only [ltCps, Bool.or_eq_false_iff, Bool.and_eq_false_iff, decide_eq_false_iff_not, beq_eq_false_iff_ne]
    rcases h with h | ⟨h, h2⟩
    · exact ⟨by omega, .inl (by omega)⟩
    · exact ⟨by omega, .inr (ltCps_asym h2)⟩
theorem leS_trans {x y z : Str} (h : leS x y = true) (h' : leS y z = true) : leS x z = true := by
  unfold leS at *
  rw [Bool.not_eq_true'] at *
  exact ltCps_trans h h'
theorem leS_total (x y : Str) : (leS x y || leS y x) = true := by
  unfold leS
  cases e : ltCps y.cps.toList x.cps.toList with
  | false => rfl
  | true => rw [ltCps_asym e]; rfl
theorem leS_anti {x y : Str} (h : leS x y = true) (h' : leS y x = true) : x = y := by
  unfold leS at *
  rw [Bool.not_eq_true'] at *
  have e := ltCps_anti h' h
  cases x; cases y
  congr 1
  exact Array.toList_inj.mp e
def sortK (ks : List Str) : List Str := ks.mergeSort leS
theorem sorted_pair : ∀ {ys : List Str}, sortedS ys = true → ys.Pairwise fun a b => leS a b = true
  | [], _ => .nil
  | x :: r, h => by
    have go : ∀ (r : List Str) (p : Str), risingS p r = true → (p :: r).Pairwise fun a b => leS a b = true := by
      intro r
      induction r with
      | nil => exact fun p _ => List.pairwise_singleton _ _
      | cons x r ih =>
        intro p h
        have h : (!ltCps x.cps.toList p.cps.toList && risingS x r) = true := h
        rw [Bool.and_eq_true] at h
        have q := ih x h.2
        refine List.pairwise_cons.mpr ⟨fun y hy => ?_, q⟩
        rcases List.mem_cons.mp hy with e | e
        · subst e; exact h.1
        · exact leS_trans h.1 ((List.pairwise_cons.mp q).1 y e)
    exact go r x h
theorem perm_uniq : ∀ {ys zs : List Str}, ys.Perm zs → (ys.Pairwise fun a b => leS a b = true) → (zs.Pairwise fun a b => leS a b = true) → ys = zs
  | [], zs, h, _, _ => by rw [List.nil_perm.mp h]
  | y :: ys, [], h, _, _ => by simpa using h.length_eq
  | y :: ys, z :: zs, h, hy, hz => by
    have hy' := List.pairwise_cons.mp hy
    have hz' := List.pairwise_cons.mp hz
    have e : y = z := by
      rcases List.mem_cons.mp (h.subset List.mem_cons_self) with e | e
      · exact e
      · rcases List.mem_cons.mp (h.symm.subset List.mem_cons_self) with e' | e'
        · exact e'.symm
        · exact leS_anti (hy'.1 z e') (hz'.1 y e)
    subst e
    rw [perm_uniq (List.Perm.cons_inv h) hy'.2 hz'.2]
theorem sortK_uniq {ys ks : List Str} (h : ys.Perm ks) (hs : sortedS ys = true) : ys = sortK ks :=
  perm_uniq (h.trans (List.mergeSort_perm ks leS).symm) (sorted_pair hs) (List.pairwise_mergeSort (le := leS) (fun _ _ _ => leS_trans) leS_total ks)
theorem sortK_mem {ks : List Str} {x : Str} : x ∈ sortK ks ↔ x ∈ ks := List.mem_mergeSort
theorem sortK_len (ks : List Str) : (sortK ks).length = ks.length := List.length_mergeSort ks
/-! ### expressions -/
section
variable {X : Cx} {W : Wc} {ρ : Env} {e a b d : Expr} {es : List Expr} {pos p : Pos} {C : Ec → Addr} {k : Nat} {rest : List Stmt} {Φ : Out → Prop} {qs : List (Key × PyData)} {y : Key}
theorem call_len_dK : L2.CallR X (.builtin "len") (fun xs H Q => ∃ (a : Addr) (kvs : List (Key × V)), xs = [.ref a] ∧ Rd H a (.dK kvs) ∧ Q (.int kvs.length) H) := by
  intro pins s σ H xs us Q I r q
  obtain ⟨a, kvs, ex, hd, q⟩ := q
  subst ex
  obtain ⟨u, eu, rx⟩ := vals1 r
  subst eu
  cases rx
  exact d_len I hd fun t s' I' => ⟨.int kvs.length, H, I', ⟨t, rfl⟩, q⟩
theorem ev_lenV (B : Blt X.mg) (ha : Dv X W ρ a qs) (hg : Gl X "len" := by rfl) (he : starEach (a :: []) X.env = (false, eval a X.env) :: starEach [] X.env := by rfl) : Ev X W ρ (.Call (.Name "len" p) [a] [] pos) (.int qs.length) :=
  ev1_of (pe_callB call_len_dK hg B.len PySem.boot_len (pa_cons ha.pe pa_nil he) (he := he)) fun σ F H M Q ok h => ⟨F, M, ok, fun p ps F1 H1 x1 hp r => ⟨p, ps, rfl, hp, by
    rw [r.len]
    exact h _ F1 H1 x1 (.int _)⟩⟩
/-- dict(a) -/
theorem s_copyV (B : Blt X.mg) (ha : Dv X W ρ a qs) (hg : Gl X "dict" := by rfl) (he : starEach (a :: []) X.env = (false, eval a X.env) :: starEach [] X.env := by rfl) : FrS X W ρ (.Call (.Name "dict" p) [a] [] pos) (dk qs) :=
  ⟨fun pins s σ F H M Q I ok h => (pe_callTy call_dictD hg B.dict (by decide +kernel) (pa_cons ha.pe pa_nil he) (he := he)).run pins s σ H Q I ⟨F, M, ok, fun p ps F1 H1 x1 hp r => ⟨p, ps, rfl, hp, fun q hq =>
    h _ F1 _ [(q, .dK ps)] (x1.trans (.beside x1.sub hq)) ⟨q, ps, rfl, rfl, r⟩ fun a o z => by
      have z : (a, o) = (q, HO.dK ps) := by simpa using z
      cases z
      refine ⟨upd_same, x1.sub.free hq, ?_⟩
      exact x1.h.free hq⟩⟩⟩
theorem keysV {K : PySem.W.Frag} {F : Hp} : ∀ {ps : List (Key × V)} {qs : List (Key × PyData)}, KvR K F ps qs → DqAll K F (ps.map fun kv => kV kv.1) (qs.map fun q => kD q.1)
  | _, _, .nil => .nil
  | (k, _) :: _, (_, _) :: _, .cons ⟨e, _⟩ t => by
    cases e
    refine .cons ?_ (keysV t)
    cases k with
    | inl i => exact .int i
    | inr s => exact .str s
/-- list(a): the keys -/
theorem fr_keysV (c : Ctx X C W k) (B : Blt X.mg) (ha : Dv X W ρ a qs) (hg : Gl X "list" := by rfl) (he : starEach (a :: []) X.env = (false, eval a X.env) :: starEach [] X.env := by rfl) : Fr X W ρ (.Call (.Name "list" p) [a] [] pos) (qs.map fun q => kD q.1) :=
  ⟨fun pins s σ F H M Q I ok h => (pe_callTy (call_listD c.calm) hg B.list (by decide +kernel) (pa_cons ha.pe pa_nil he) (he := he)).run pins s σ H Q I ⟨F, M, ok, fun p ps F1 H1 x1 hp r => ⟨p, ps, rfl, hp, fun q hq =>
    h q _ F1 _ (x1.trans (.beside x1.sub hq)) (x1.h.free hq) (x1.sub.free hq) upd_same (keysV r)⟩⟩⟩
/-- sorted(a): the keys, all texts, in order -/
theorem fr_sortV {ks : List Str} (c : Ctx X C W k) (B : Blt X.mg) (ha : Dv X W ρ a qs) (hk : qs.map (·.1) = ks.map Sum.inr) (hl : ks.length < 64) (hg : Gl X "sorted" := by rfl) (he : starEach (a :: []) X.env = (false, eval a X.env) :: starEach [] X.env := by rfl) : Fr X W ρ (.Call (.Name "sorted" p) [a] [] pos) ((sortK ks).map .str) :=
  ⟨fun pins s σ F H M Q I ok h => (pe_callB (call_sortedD c.calm) hg B.sorted (by decide +kernel) (pa_cons ha.pe pa_nil he) (he := he)).run pins s σ H Q I ⟨F, M, ok, fun p ps F1 H1 x1 hp r => ⟨p, ps, ks, rfl, hp, by
    have go : ∀ {ps : List (Key × V)} {qs : List (Key × PyData)}, KvR X.K F1 ps qs → ps.map (·.1) = qs.map (·.1) := by
      intro ps qs h
      induction h with
      | nil => rfl
      | cons h t ih => rw [List.map_cons, List.map_cons, h.1, ih]
    rw [go r, hk], hl, fun ys q hy hs hq => by
    rw [sortK_uniq hy hs]
    exact h q _ F1 _ (x1.trans (.beside x1.sub hq)) (x1.h.free hq) (x1.sub.free hq) upd_same (by
      have go : ∀ l : List Str, DqAll X.K F1 (l.map V.str) (l.map PyData.str) := fun l => by
        induction l with
        | nil => exact .nil
        | cons x l ih => exact .cons (.str x) ih
      exact go _)⟩⟩⟩
/-- isinstance(x, T) of a dict -/
theorem ev_isiV {T : Str} {T0 : String} {p2 : Pos} {r : Bool} (B : Blt X.mg) (ha : Dv X W ρ a qs) (hT : bootBuiltins T = some (.type T0)) (hmT : X.mg T = none) (hk : kitB "dict" T0 = some r) (hgT : Gl X T := by rfl) (hg : Gl X "isinstance" := by rfl)
    (he : starEach (a :: [.Name T p2]) X.env = (false, eval a X.env) :: starEach [.Name T p2] X.env := by rfl) (he2 : starEach (.Name T p2 :: []) X.env = (false, eval (.Name T p2) X.env) :: starEach [] X.env := by rfl) (hpl : (backTo pos (starEach [.Name T p2] X.env)).any (·.1) = false := by rfl)
    (hn1 : T ≠ "__name__" := by decide) (hn2 : (T == ("__debug__" : Str)) = false := by decide) : Ev X W ρ (.Call (.Name "isinstance" p) [a, .Name T p2] [] pos) (.bool r) :=
  ev1_of (pe_callB call_isi hg B.isinstance (by decide +kernel) (pa_cons ha.pe (pa_cons (pe_bltn (v := .ty T0) hgT hmT hT rfl hn1 hn2) pa_nil he2) he) (he := he) (hpl := hpl)) fun σ F H M Q ok h => ⟨F, M, ok, fun p ps F1 H1 x1 hp r1 => by
    refine ⟨.ref p, .ty T0, .type "dict", .type T0, r, rfl, .ty T0, ?_, kit_ty hk, h _ F1 H1 x1 (.bl _)⟩
    rcases hp with hp | ⟨o, hp⟩
    · exact .base (.dK hp)
    · exact .fDict hp⟩
/-- for .. in a, a frozen one -/
theorem iv_keys {tg : Expr} (ha : Ev X W ρ a (dctD qs)) : Iv X W ρ tg a (qs.map fun q => kD q.1) := ⟨_, pi_keys ha.pe, fun σ F H M R ok h => rd ok fun v F1 H1 e1 dv => by
  obtain ⟨p, o, ps, rfl, h1, h2⟩ := dq_dct dv
  have hk := keysV h2
  have hl : ps.length = qs.length := h2.len
  refine ⟨p, o, rfl, .inl ⟨ps, e1.sub _ _ h1, h _ F1 H1 e1 ⟨fun i F2 H2 s1 s2 hi => ?_, fun i F2 H2 x H3 s1 s2 hi y => ?_, fun F2 H2 s1 s2 => ?_⟩⟩⟩
  · rw [List.length_map] at hi
    exact ⟨(s1.trans s2) _ _ h1, by omega⟩
  · obtain ⟨rfl, k, v, hk', rfl⟩ := y
    obtain ⟨d, q1, q2⟩ := DqAll_getV hk (by rw [List.getElem?_map, hk']; rfl)
    exact ⟨F2, d, .refl s2, q1, dq_mono s1 _ _ q2⟩
  · rw [List.length_map]
    exact ⟨(s1.trans s2) _ _ h1, by omega⟩⟩
/-! ### what changes a dict that a name owns -/
theorem KvR.drop {K : PySem.W.Frag} {F : Hp} (k : Key) : ∀ {ps : List (Key × V)} {qs : List (Key × PyData)}, KvR K F ps qs → KvR K F (dropK ps k) (qs.filter fun q => decide (q.1 ≠ k))
  | _, _, .nil => .nil
  | (j, v) :: ps, (_, d) :: qs, .cons ⟨e, h⟩ t => by
    cases e
    have ih := KvR.drop k t
    unfold dropK at ih ⊢
    by_cases q : j = k
    · rw [List.filter_cons_of_neg (by simpa using q), List.filter_cons_of_neg (by simpa using q)]
      exact ih
    · rw [List.filter_cons_of_pos (by simpa using q), List.filter_cons_of_pos (by simpa using q)]
      exact .cons ⟨rfl, h⟩ ih
/-- x.pop(b): there, and dropped -/
theorem sxs_dpop (i : Nat) {x : Str} {px apos : Pos} {z : PyData} (c : Ctx X C W k) (hd : ρ[i]? = some (some (dk qs))) (hb : Ev X W ρ b (kD y)) (hg : getP qs y = some z) (kk : Sxs X W rest (ρ.set i (some (dk (qs.filter fun q => decide (q.1 ≠ y))))) Φ)
    (m : M1 X (.Name x px) "pop" apos b pos := by exact ⟨rfl, rfl, rfl, rfl⟩) (hs : swapsWith (.Call (.Attribute (.Name x px) "pop" apos) [b] [] pos) none p.line X.env = pure false := by rfl) (hN : X.N[i]? = some x := by rfl) (hv : Vis X.env.scope x := by first | exact Or.inl rfl | exact Or.inr (Or.inl rfl) | exact Or.inr (Or.inr rfl))
    (h1 : (x == ("__debug__" : Str)) = false := by decide) (h2 : (x == ("__classdict__" : Str)) = false := by decide) : Sxs X W (.Expr (.Call (.Attribute (.Name x px) "pop" apos) [b] [] pos) p :: rest) ρ Φ :=
  sxs_of (ps_expr (pe_dpop1 (pe_var hN hv h1 h2) hb.pe m) hs) fun σ F H M B F0 D ok q => by
    obtain ⟨v, e, a, ps, rfl, hm, r⟩ := ok.ok.at_ i _ hd
    have hH : H a = some (.dK ps) := (ok.ok.own i a _ (by rw [hm]; exact List.mem_cons_self)).1
    refine ⟨_, e, a, rfl, .inl ⟨ps, .of hH⟩, rd ok.ok fun u F2 H2 x2 du => ?_⟩
    have ok2 := ok.ext x2
    rw [dq_key du]
    rcases r.get y with ⟨_, z⟩ | ⟨w, d', z1, z2, _⟩
    · rw [z] at hg; cases hg
    · exact ⟨ps, y, w, x2.h _ _ hH, rfl, z1, _, Φ, F2, _, B, F0, kk, ok2.mutS hd e hm ⟨a, _, rfl, rfl, (r.mono x2.f).drop y⟩, q⟩
/-- a dict is frozen: nobody changes it from here on -/
theorem PInv.freezeD {K : PySem.W.Frag} {B F0 F H : Hp} {σ : St} {M : Nat → Mini} {i : Nat} {a : Addr} {o : Obj} {ps : List (Key × V)} (x : PInv K B F0 ρ F σ H M) (hi : ρ[i]? = some (some (dk qs))) (hσ : σ[i]? = some (some (.ref a))) (hM : M i = [(a, .dK ps)]) (r : KvR K F ps qs) :
    PInv K B F0 (ρ.set i (some (fz (dctD qs)))) (upd F a (.frz o (.dK ps))) σ (upd H a (.frz o (.dK ps))) (upM M i []) := by
  have ha : (a, HO.dK ps) ∈ M i := by rw [hM]; exact List.mem_cons_self
  have hH := (x.ok.own i a _ ha).1
  have hF := (x.ok.own i a _ ha).2
  have hB := x.mb i a _ ha
  have sF : Same F (upd F a (.frz o (.dK ps))) := fun b u e => by rw [upd_ne (ne_of_none e hF)]; exact e
  have ne : ∀ j b u, (b, u) ∈ M j → j ≠ i → b ≠ a := fun j b u h hj e => by
    subst e
    exact hj (x.ok.apart j i b u _ h ha)
  refine ⟨⟨by rw [List.length_set]; exact x.ok.len, fun b u e => ?_, fun j S h => ?_, fun j b u h => ?_, fun j l b u u' h h' => ?_⟩, fun b u e => ?_, x.f0.trans sF, fun b u e1 e2 => ?_, fun j b u h => ?_⟩
  · by_cases hb : b = a
    · subst hb; rw [upd_same] at e ⊢; exact e
    · rw [upd_ne hb] at e ⊢; exact x.ok.sub b u e
  · by_cases hj : j = i
    · subst hj
      have hl : j < ρ.length := (List.getElem?_eq_some_iff.mp hi).1
      rw [List.getElem?_set_self hl] at h
      cases h
      exact ⟨_, hσ, upM_same, .dct (o := o) upd_same (KvR.dqKv (r.mono sF))⟩
    · rw [List.getElem?_set_ne (Ne.symm hj)] at h
      obtain ⟨v, h1, h2⟩ := x.ok.at_ j S h
      exact ⟨v, h1, by rw [upM_ne hj]; exact S.mono _ _ _ _ _ sF h2⟩
  · by_cases hj : j = i
    · subst hj; rw [upM_same] at h; cases h
    · rw [upM_ne hj] at h
      obtain ⟨h1, h2⟩ := x.ok.own j b u h
      have nb := ne j b u h hj
      exact ⟨by rw [upd_ne nb]; exact h1, by rw [upd_ne nb]; exact h2⟩
  · by_cases hj : j = i
    · subst hj; rw [upM_same] at h; cases h
    · by_cases hl : l = i
      · subst hl; rw [upM_same] at h'; cases h'
      · rw [upM_ne hj] at h; rw [upM_ne hl] at h'
        exact x.ok.apart j l b u u' h h'
  · rw [upd_ne (ne_of_none e hB)]; exact x.base b u e
  · by_cases hb : b = a
    · subst hb; exact hB
    · rw [upd_ne hb] at e1; exact x.nb b u e1 e2
  · by_cases hj : j = i
    · subst hj; rw [upM_same] at h; cases h
    · rw [upM_ne hj] at h; exact x.mb j b u h
theorem sxs_freezeD {sts : List Stmt} (i : Nat) (hi : ρ[i]? = some (some (dk qs))) (h : Sxs X W sts (ρ.set i (some (fz (dctD qs)))) Φ) : Sxs X W sts ρ Φ := ⟨fun pins s σ F H M B F0 D I ok q => by
  obtain ⟨v, e, a, ps, rfl, hm, r⟩ := ok.ok.at_ i _ hi
  have hH : H a = some (.dK ps) := (ok.ok.own i a _ (by rw [hm]; exact List.mem_cons_self)).1
  obtain ⟨od, I'⟩ := I.lock hH (by exact True.intro)
  exact h pins s σ _ _ _ B F0 D I' (ok.freezeD hi e hm r) q⟩
end
end PV

/-! The pure-value layer: objects with fields. -/
namespace PV
open PySem PySem.Spec PyProof.Rows L2
inductive OSs (K : PySem.W.Frag) (F : Hp) : List V → List Slot → Mini → Prop
  | nil : OSs K F [] [] []
  | cons {v : V} {S : Slot} {m : Mini} {vs : List V} {Ss : List Slot} {m' : Mini} : S.R K F v m → OSs K F vs Ss m' → Ap m m' → OSs K F (v :: vs) (S :: Ss) (m ++ m')
section
variable {K : PySem.W.Frag} {F F' H : Hp}
theorem OSs.mono (e : Same F F') : ∀ {vs : List V} {Ss : List Slot} {m : Mini}, OSs K F vs Ss m → OSs K F' vs Ss m
  | _, _, _, .nil => .nil
  | _, _, _, .cons (S := S) h t a => .cons (S.mono _ _ _ _ _ e h) (OSs.mono e t) a
theorem OSs.len : ∀ {vs : List V} {Ss : List Slot} {m : Mini}, OSs K F vs Ss m → vs.length = Ss.length
  | _, _, _, .nil => rfl
  | _, _, _, .cons _ t _ => congrArg (· + 1) (OSs.len t)
theorem OSs.at : ∀ {vs : List V} {Ss : List Slot} {m : Mini} {k : Nat} {S : Slot}, OSs K F vs Ss m → Ss[k]? = some S → ∃ v mu, vs[k]? = some v ∧ S.R K F v mu ∧ (∀ x, x ∈ mu → x ∈ m) ∧
    ∀ (F' : Hp) (w : V) (S' : Slot) (mu' : Mini), Same F F' → S'.R K F' w mu' → (∀ b o, (b, o) ∈ mu' → (∃ o', (b, o') ∈ mu) ∨ ∀ o', (b, o') ∉ m) → ∃ m', OSs K F' (vs.set k w) (Ss.set k S') m' ∧ ∀ b o, (b, o) ∈ m' → ((b, o) ∈ m ∧ ∀ o', (b, o') ∉ mu) ∨ (b, o) ∈ mu'
  | _, _, _, _, _, .nil, e => by simp at e
  | _, _, _, 0, u, .cons (v := v) (m := m1) (m' := m2) (vs := vs) (Ss := ts) h t a, e => by
    have e : _ = u := Option.some.inj e
    subst e
    refine ⟨v, m1, rfl, h, fun x hx => List.mem_append_left _ hx, fun F' w u' mu' sF hw hq => ⟨mu' ++ m2, .cons hw (OSs.mono sF t) fun b o o' h1 h2 => ?_, fun b o hm => ?_⟩⟩
    · rcases hq b o h1 with ⟨o2, z⟩ | z
      · exact a b o2 o' z h2
      · exact z o' (List.mem_append_right _ h2)
    · rcases List.mem_append.mp hm with z | z
      · exact .inr z
      · exact .inl ⟨List.mem_append_right _ z, fun o' hz => a b o' o hz z⟩
  | _, _, _, k + 1, u, .cons (v := v) (S := t0) (m := m1) (m' := m2) (vs := vs) (Ss := ts) h t a, e => by
    obtain ⟨w, mu, h1, h2, h3, h4⟩ := OSs.at (k := k) (S := u) t (by simpa using e)
    refine ⟨w, mu, by simpa using h1, h2, fun x hx => List.mem_append_right _ (h3 x hx), fun F' w' u' mu' sF hw hq => ?_⟩
    obtain ⟨m', q1, q2⟩ := h4 F' w' u' mu' sF hw fun b o hm => by
      rcases hq b o hm with z | z
      · exact .inl z
      · exact .inr fun o' hz => z o' (List.mem_append_right _ hz)
    refine ⟨m1 ++ m', .cons (t0.mono _ _ _ _ _ sF h) q1 fun b o o' z1 z2 => ?_, fun b o hm => ?_⟩
    · rcases q2 b o' z2 with ⟨z, _⟩ | z
      · exact a b o o' z1 z
      · rcases hq b o' z with ⟨o2, z3⟩ | z3
        · exact a b o o2 z1 (h3 _ z3)
        · exact z3 o (List.mem_append_left _ z1)
    · rcases List.mem_append.mp hm with z | z
      · exact .inl ⟨List.mem_append_left _ z, fun o' hz => a b o o' z (h3 _ hz)⟩
      · rcases q2 b o z with ⟨z1, z2⟩ | z1
        · exact .inl ⟨List.mem_append_right _ z1, z2⟩
        · exact .inr z1
theorem OSs.snoc : ∀ {vs : List V} {Ss : List Slot} {m : Mini} {w : V} {S : Slot} {mu : Mini}, OSs K F vs Ss m → S.R K F w mu → Ap m mu → OSs K F (vs ++ [w]) (Ss ++ [S]) (m ++ mu)
  | _, _, _, _, _, mu, .nil, h, _ => by
    have z := OSs.cons h .nil (fun _ _ _ _ h => nomatch h)
    rw [List.append_nil] at z
    exact z
  | _, _, _, _, _, mu, .cons (m := m1) (m' := m2) h t a, h', ap => by
    rw [List.append_assoc]
    refine .cons h (OSs.snoc t h' fun b o o' z z' => ap b o o' (List.mem_append_right _ z) z') fun b o o' z z' => ?_
    rcases List.mem_append.mp z' with q | q
    · exact a b o o' z q
    · exact ap b o o' (List.mem_append_left _ z) q
end
/-- an object of the class at C, of fields ns, with or without where it stands -/
def obj (C : Addr) (ns : List Str) (Ss : List Slot) (p : Option Addr) : Slot :=
  ⟨fun K F v m => ∃ a dx ws m', v = .ref a ∧ (∀ q, p = some q → a = q) ∧ m = (a, .ins C dx (ns.zip ws)) :: (dx, .own a) :: m' ∧ OSs K F ws Ss m' ∧ ws.length = ns.length ∧ a ≠ dx ∧ (∀ o, (a, o) ∉ m') ∧ ∀ o, (dx, o) ∉ m',
   fun _ _ _ _ _ e ⟨a, dx, ws, m', h1, h2, h3, h4, h5⟩ => ⟨a, dx, ws, m', h1, h2, h3, h4.mono e, h5⟩⟩
def objA (C : Addr) (ns : List Str) (Ss : List Slot) : Asl := ⟨fun p => obj C ns Ss p, fun p K F v m => ⟨fun ⟨a, dx, ws, m', h1, h2, h3⟩ => ⟨⟨a, h1, h2⟩, a, dx, ws, m', h1, (fun _ z => nomatch z), h3⟩, fun ⟨⟨a, h1, h2⟩, a', dx, ws, m', h1', _, h3⟩ => by
  subst h1
  obtain rfl : a' = a := by injection h1' with e; exact e.symm
  exact ⟨a', dx, ws, m', rfl, h2, h3⟩⟩⟩
/-- what of its class must be known -/
structure ClsO (K : PySem.W.Frag) (C : Addr) (ns : List Str) : Prop where
  cls : Cls K C
  na : ∀ f ∈ ns, NoAttr K C f
theorem zip_look {f : Str} : ∀ {ns : List Str} {ws : List V} {k : Nat}, ns.Nodup → ns[k]? = some f → ws.length = ns.length → (ns.zip ws).lookup f = ws[k]?
  | [], _, _, _, h, _ => by simp at h
  | g :: ns, [], _, _, _, h => by simp at h
  | g :: ns, w :: ws, 0, _, h, _ => by
    have h : g = f := Option.some.inj h
    subst h
    simp [List.lookup]
  | g :: ns, w :: ws, k + 1, nd, h, hl => by
    have h : ns[k]? = some f := h
    rw [List.nodup_cons] at nd
    have ne : f ≠ g := fun e => nd.1 (e ▸ List.mem_of_getElem? h)
    have hb : (f == g) = false := beq_eq_false_iff_ne.mpr ne
    rw [List.zip_cons_cons, List.lookup_cons, hb]
    exact zip_look nd.2 h (by simpa using hl)
theorem zip_look_none {f : Str} : ∀ {ns : List Str} {ws : List V}, f ∉ ns → (ns.zip ws).lookup f = none
  | [], _, _ => by simp [List.lookup]
  | g :: ns, [], _ => by simp [List.lookup]
  | g :: ns, w :: ws, h => by
    have ne : f ≠ g := fun e => h (e ▸ List.mem_cons_self)
    have hb : (f == g) = false := beq_eq_false_iff_ne.mpr ne
    rw [List.zip_cons_cons, List.lookup_cons, hb]
    exact zip_look_none fun z => h (List.mem_cons_of_mem _ z)
theorem zip_put {f : Str} {y : V} : ∀ {ns : List Str} {ws : List V} {k : Nat}, ns.Nodup → ns[k]? = some f → ws.length = ns.length → putF f y (ns.zip ws) = ns.zip (ws.set k y)
  | [], _, _, _, h, _ => by simp at h
  | g :: ns, [], _, _, _, h => by simp at h
  | g :: ns, w :: ws, 0, _, h, _ => by
    have h : g = f := Option.some.inj h
    subst h
    simp [putF]
  | g :: ns, w :: ws, k + 1, nd, h, hl => by
    have h : ns[k]? = some f := h
    rw [List.nodup_cons] at nd
    have ne : ¬ g = f := fun e => nd.1 (e ▸ List.mem_of_getElem? h)
    rw [List.zip_cons_cons]
    show (if g = f then _ else (g, w) :: putF f y (ns.zip ws)) = _
    rw [if_neg ne, zip_put nd.2 h (by simpa using hl)]
    rfl
theorem zip_new {f : Str} {y : V} : ∀ {ns : List Str} {ws : List V}, f ∉ ns → ws.length = ns.length → putF f y (ns.zip ws) = (ns ++ [f]).zip (ws ++ [y])
  | [], [], _, _ => rfl
  | [], _ :: _, _, h => by simp at h
  | g :: ns, [], _, h => by simp at h
  | g :: ns, w :: ws, h, hl => by
    have ne : ¬ g = f := fun e => h (e ▸ List.mem_cons_self)
    rw [List.zip_cons_cons]
    show (if g = f then _ else (g, w) :: putF f y (ns.zip ws)) = _
    rw [if_neg ne, zip_new (fun z => h (List.mem_cons_of_mem _ z)) (by simpa using hl)]
    rfl
section
variable {X : Cx} {W : Wc} {ρ : Env} {e a b d : Expr} {es : List Expr} {pos p px : Pos} {C : Ec → Addr} {kk : Nat} {rest : List Stmt} {Φ : Out → Prop} {D : Addr} {ns : List Str} {Ss : List Slot} {pa : Option Addr} {x f : Str} {S : Slot}
/-- x.f, as it stands -/
def tFldO (X : Cx) (ρ : Env) (i : Nat) (S : Slot) : TE := fun σ H Q => ∃ F M, EOk X.K ρ F σ H M ∧ ∀ v mu, S.R X.K F v mu → (∀ y, y ∈ mu → y ∈ M i) → Q v H
theorem pe_fldO (i k : Nat) (O : ClsO X.K D ns) (hd : ρ[i]? = some (some (obj D ns Ss pa))) (hS : Ss[k]? = some S) (hk : ns[k]? = some f := by rfl) (nd : ns.Nodup := by decide) (hN : X.N[i]? = some x := by rfl) (hv : Vis X.env.scope x := by first | exact Or.inl rfl | exact Or.inr (Or.inl rfl) | exact Or.inr (Or.inr rfl))
    (h1 : (x == ("__debug__" : Str)) = false := by decide) (h2 : (x == ("__classdict__" : Str)) = false := by decide) (hb : attributeBase (.Name x px) f X.env (eval (.Name x px) X.env) = eval (.Name x px) X.env := by rfl) : PE X (.Attribute (.Name x px) f pos) (tFldO X ρ i S) :=
  ⟨fun pins s σ H Q I ⟨F, M, ok, h⟩ => (pe_fld (pe_var hN hv h1 h2) hb).run pins s σ H Q I (by
    obtain ⟨v, e, a, dx, ws, m', rfl, _, hm, hO, hl, _⟩ := ok.at_ i _ hd
    obtain ⟨w, mu, g1, g2, g3, _⟩ := hO.at hS
    have hH := (ok.own i a _ (by rw [hm]; exact List.mem_cons_self)).1
    exact ⟨_, e, a, D, dx, _, w, rfl, hH, O.cls, O.na f (List.mem_of_getElem? hk), by rw [zip_look nd hk hl, g1], h w mu g2 fun y hy => by rw [hm]; exact List.mem_cons_of_mem _ (List.mem_cons_of_mem _ (g3 y hy))⟩)⟩
theorem ev_fld (i k : Nat) {z : PyData} (O : ClsO X.K D ns) (hd : ρ[i]? = some (some (obj D ns Ss pa))) (hS : Ss[k]? = some (fz z)) (hk : ns[k]? = some f := by rfl) (nd : ns.Nodup := by decide) (hN : X.N[i]? = some x := by rfl) (hv : Vis X.env.scope x := by first | exact Or.inl rfl | exact Or.inr (Or.inl rfl) | exact Or.inr (Or.inr rfl))
    (h1 : (x == ("__debug__" : Str)) = false := by decide) (h2 : (x == ("__classdict__" : Str)) = false := by decide) (hb : attributeBase (.Name x px) f X.env (eval (.Name x px) X.env) = eval (.Name x px) X.env := by rfl) : Ev X W ρ (.Attribute (.Name x px) f pos) z :=
  ev1_of (pe_fldO i k O hd hS hk nd hN hv h1 h2 hb) fun σ F H M Q ok h => ⟨F, M, ok, fun v mu hR _ => h v F H (.refl ok.sub) hR.2⟩
theorem bv_fld (i k : Nat) {q : Option Addr} {ds : List PyData} (O : ClsO X.K D ns) (hd : ρ[i]? = some (some (obj D ns Ss pa))) (hS : Ss[k]? = some (ow q ds)) (hk : ns[k]? = some f := by rfl) (nd : ns.Nodup := by decide) (hN : X.N[i]? = some x := by rfl) (hv : Vis X.env.scope x := by first | exact Or.inl rfl | exact Or.inr (Or.inl rfl) | exact Or.inr (Or.inr rfl))
    (h1 : (x == ("__debug__" : Str)) = false := by decide) (h2 : (x == ("__classdict__" : Str)) = false := by decide) (hb : attributeBase (.Name x px) f X.env (eval (.Name x px) X.env) = eval (.Name x px) X.env := by rfl) : Bv X W ρ (.Attribute (.Name x px) f pos) ds :=
  ⟨fun pins s σ F H M Q I ok h => (pe_fldO i k O hd hS hk nd hN hv h1 h2 hb).run pins s σ H Q I ⟨F, M, ok, fun v mu ⟨a, vs, e1, e2, _, e4⟩ hm => by
    subst e1
    exact h _ F H (.refl ok.sub) ⟨a, vs, rfl, .of (ok.own i a _ (hm _ (by rw [e2]; exact List.mem_cons_self))).1, e4⟩⟩⟩
theorem dv_fld (i k : Nat) {qs : List (Key × PyData)} (O : ClsO X.K D ns) (hd : ρ[i]? = some (some (obj D ns Ss pa))) (hS : Ss[k]? = some (dk qs)) (hk : ns[k]? = some f := by rfl) (nd : ns.Nodup := by decide) (hN : X.N[i]? = some x := by rfl) (hv : Vis X.env.scope x := by first | exact Or.inl rfl | exact Or.inr (Or.inl rfl) | exact Or.inr (Or.inr rfl))
    (h1 : (x == ("__debug__" : Str)) = false := by decide) (h2 : (x == ("__classdict__" : Str)) = false := by decide) (hb : attributeBase (.Name x px) f X.env (eval (.Name x px) X.env) = eval (.Name x px) X.env := by rfl) : Dv X W ρ (.Attribute (.Name x px) f pos) qs :=
  ⟨fun pins s σ F H M Q I ok h => (pe_fldO i k O hd hS hk nd hN hv h1 h2 hb).run pins s σ H Q I ⟨F, M, ok, fun v mu ⟨a, ps, e1, e2, e3⟩ hm => by
    subst e1
    exact h a ps F H (.refl ok.sub) (.of (ok.own i a _ (hm _ (by rw [e2]; exact List.mem_cons_self))).1) e3⟩⟩
theorem rv_fld (i k : Nat) {t : T} (O : ClsO X.K D ns) (hd : ρ[i]? = some (some (obj D ns Ss pa))) (hS : Ss[k]? = some (tr t)) (hk : ns[k]? = some f := by rfl) (nd : ns.Nodup := by decide) (hN : X.N[i]? = some x := by rfl) (hv : Vis X.env.scope x := by first | exact Or.inl rfl | exact Or.inr (Or.inl rfl) | exact Or.inr (Or.inr rfl))
    (h1 : (x == ("__debug__" : Str)) = false := by decide) (h2 : (x == ("__classdict__" : Str)) = false := by decide) (hb : attributeBase (.Name x px) f X.env (eval (.Name x px) X.env) = eval (.Name x px) X.env := by rfl) : Rv X W ρ (.Attribute (.Name x px) f pos) t.er :=
  ⟨fun pins s σ F H M Q I ok h => (pe_fldO i k O hd hS hk nd hN hv h1 h2 hb).run pins s σ H Q I ⟨F, M, ok, fun v mu hR hm =>
    h v F H (.refl ok.sub) (OT.dq ok.sub _ _ _ hR fun a o z => (ok.own i a o (hm _ z)).1)⟩⟩
/-! ### what changes -/
/-- a field gets another value -/
theorem PInv.fldPut {K : PySem.W.Frag} {B F0 F H : Hp} {σ : St} {M : Nat → Mini} {i k : Nat} {S' : Slot} {w : V} {mu' : Mini} {a dx : Addr} {fs : List (Str × V)} (y : PInv K B F0 ρ F σ H M) (hd : ρ[i]? = some (some (obj D ns Ss pa))) (hσ : σ[i]? = some (some (.ref a))) (hk : ns[k]? = some f) (nd : ns.Nodup) (hk2 : k < Ss.length)
    (hH : H a = some (.ins D dx fs)) (hw : S'.R K F w mu') (hm : ∀ b o, (b, o) ∈ mu' → H b = some o ∧ F b = none ∧ B b = none ∧ ∀ j o', (b, o') ∉ M j) :
    fs.length = ns.length ∧ ∃ M', PInv K B F0 (ρ.set i (some (obj D ns (Ss.set k S') pa))) F σ (upd H a (.ins D dx (L2.putF f w fs))) M' := by
  obtain ⟨v, e, a', dx', ws, m', rfl, ha', hmm, hO, hl, hne, hn1, hn2⟩ := y.ok.at_ i _ hd
  rw [hσ] at e
  cases e
  have hH' := (y.ok.own i a _ (by rw [hmm]; exact List.mem_cons_self)).1
  rw [hH] at hH'
  cases hH'
  have hS0 : Ss[k]? = some Ss[k] := List.getElem?_eq_getElem hk2
  obtain ⟨w0, mu, g1, g2, g3, g4⟩ := hO.at hS0
  obtain ⟨m2, q1, q2⟩ := g4 F w S' mu' (.refl _) hw fun b o hb => .inr fun o' z => (hm b o hb).2.2.2 i o' (by rw [hmm]; exact List.mem_cons_of_mem _ (List.mem_cons_of_mem _ z))
  have hin : ∀ b o, (b, o) ∈ m' → (b, o) ∈ M i := fun b o z => by rw [hmm]; exact List.mem_cons_of_mem _ (List.mem_cons_of_mem _ z)
  have nm : ∀ c, ((c, HO.ins D dx (ns.zip ws)) ∈ M i ∨ (c, HO.own a) ∈ M i) → (∀ o, (c, o) ∉ m') → ∀ o, (c, o) ∉ m2 := fun c hc hcn o z => by
    rcases q2 c o z with ⟨z, _⟩ | z
    · exact hcn o z
    · rcases hc with hc | hc
      · exact (hm c o z).2.2.2 i _ hc
      · exact (hm c o z).2.2.2 i _ hc
  have hma : (a, HO.ins D dx (ns.zip ws)) ∈ M i := by rw [hmm]; exact List.mem_cons_self
  have hmd : (dx, HO.own a) ∈ M i := by rw [hmm]; exact List.mem_cons_of_mem _ List.mem_cons_self
  refine ⟨by rw [List.length_zip, hl]; omega, _, y.change (S' := obj D ns (Ss.set k S') pa) (m' := (a, .ins D dx (ns.zip (ws.set k w))) :: (dx, .own a) :: m2) (o' := .ins D dx (L2.putF f w (ns.zip ws))) hd hσ hma
    ⟨a, dx, ws.set k w, m2, rfl, ha', rfl, q1, by rw [List.length_set]; exact hl, hne, nm a (.inl hma) hn1, nm dx (.inr hmd) hn2⟩ fun b u hb => ?_⟩
  rcases List.mem_cons.mp hb with z | z
  · cases z
    refine ⟨by rw [upd_same, zip_put nd hk hl], (y.ok.own i a _ hma).2, y.mb i a _ hma, fun j u' hj hz => hj (y.ok.apart j i a u' _ hz hma)⟩
  · rcases List.mem_cons.mp z with z | z
    · cases z
      refine ⟨by rw [upd_ne (Ne.symm hne)]; exact (y.ok.own i dx _ hmd).1, (y.ok.own i dx _ hmd).2, y.mb i dx _ hmd, fun j u' hj hz => hj (y.ok.apart j i dx u' _ hz hmd)⟩
    · have hba : b ≠ a := fun e => nm a (.inl hma) hn1 u (e ▸ z)
      rcases q2 b u z with ⟨z, _⟩ | z
      · have hbm := hin b u z
        refine ⟨by rw [upd_ne hba]; exact (y.ok.own i b _ hbm).1, (y.ok.own i b _ hbm).2, y.mb i b _ hbm, fun j u' hj hz => hj (y.ok.apart j i b u' _ hz hbm)⟩
      · obtain ⟨z1, z2, z3, z4⟩ := hm b u z
        exact ⟨by rw [upd_ne hba]; exact z1, z2, z3, fun j u' _ => z4 j u'⟩
/-- a field that was not there -/
theorem PInv.fldNew {K : PySem.W.Frag} {B F0 F H : Hp} {σ : St} {M : Nat → Mini} {i : Nat} {S' : Slot} {w : V} {mu' : Mini} {a dx : Addr} {fs : List (Str × V)} (y : PInv K B F0 ρ F σ H M) (hd : ρ[i]? = some (some (obj D ns Ss pa))) (hσ : σ[i]? = some (some (.ref a))) (hf : f ∉ ns)
    (hH : H a = some (.ins D dx fs)) (hw : S'.R K F w mu') (hm : ∀ b o, (b, o) ∈ mu' → H b = some o ∧ F b = none ∧ B b = none ∧ ∀ j o', (b, o') ∉ M j) :
    fs.length = ns.length ∧ ∃ M', PInv K B F0 (ρ.set i (some (obj D (ns ++ [f]) (Ss ++ [S']) pa))) F σ (upd H a (.ins D dx (L2.putF f w fs))) M' := by
  obtain ⟨v, e, a', dx', ws, m', rfl, ha', hmm, hO, hl, hne, hn1, hn2⟩ := y.ok.at_ i _ hd
  rw [hσ] at e
  cases e
  have hH' := (y.ok.own i a _ (by rw [hmm]; exact List.mem_cons_self)).1
  rw [hH] at hH'
  cases hH'
  have hin : ∀ b o, (b, o) ∈ m' → (b, o) ∈ M i := fun b o z => by rw [hmm]; exact List.mem_cons_of_mem _ (List.mem_cons_of_mem _ z)
  have q1 := hO.snoc hw fun b o o' z z' => (hm b o' z').2.2.2 i o (hin b o z)
  have hma : (a, HO.ins D dx (ns.zip ws)) ∈ M i := by rw [hmm]; exact List.mem_cons_self
  have hmd : (dx, HO.own a) ∈ M i := by rw [hmm]; exact List.mem_cons_of_mem _ List.mem_cons_self
  have na : ∀ o, (a, o) ∉ m' ++ mu' := fun o z => (List.mem_append.mp z).elim (hn1 o) fun z => (hm a o z).2.2.2 i _ hma
  refine ⟨by rw [List.length_zip, hl]; omega, _, y.change (S' := obj D (ns ++ [f]) (Ss ++ [S']) pa) (m' := (a, .ins D dx ((ns ++ [f]).zip (ws ++ [w]))) :: (dx, .own a) :: (m' ++ mu')) (o' := .ins D dx (L2.putF f w (ns.zip ws))) hd hσ hma
    ⟨a, dx, ws ++ [w], m' ++ mu', rfl, ha', rfl, q1, by rw [List.length_append, List.length_append, hl]; rfl, hne, na, fun o z => (List.mem_append.mp z).elim (hn2 o) fun z => (hm dx o z).2.2.2 i _ hmd⟩ fun b u hb => ?_⟩
  rcases List.mem_cons.mp hb with z | z
  · cases z
    refine ⟨by rw [upd_same, zip_new hf hl], (y.ok.own i a _ hma).2, y.mb i a _ hma, fun j u' hj hz => hj (y.ok.apart j i a u' _ hz hma)⟩
  · rcases List.mem_cons.mp z with z | z
    · cases z
      refine ⟨by rw [upd_ne (Ne.symm hne)]; exact (y.ok.own i dx _ hmd).1, (y.ok.own i dx _ hmd).2, y.mb i dx _ hmd, fun j u' hj hz => hj (y.ok.apart j i dx u' _ hz hmd)⟩
    · have hba : b ≠ a := fun e => na u (e ▸ z)
      rcases List.mem_append.mp z with z | z
      · have hbm := hin b u z
        refine ⟨by rw [upd_ne hba]; exact (y.ok.own i b _ hbm).1, (y.ok.own i b _ hbm).2, y.mb i b _ hbm, fun j u' hj hz => hj (y.ok.apart j i b u' _ hz hbm)⟩
      · obtain ⟨z1, z2, z3, z4⟩ := hm b u z
        exact ⟨by rw [upd_ne hba]; exact z1, z2, z3, fun j u' _ => z4 j u'⟩
end
end PV

/-! The pure-value layer: statements about fields. -/
namespace PV
open PySem PySem.Spec PyProof.Rows L2
section
variable {X : Cx} {W : Wc} {ρ : Env} {e a b d : Expr} {es : List Expr} {pos p px po : Pos} {C : Ec → Addr} {kk : Nat} {rest : List Stmt} {Φ : Out → Prop} {D : Addr} {ns : List Str} {Ss : List Slot} {pa : Option Addr} {x f : Str} {S : Slot}
theorem evm_s (h : FrS X W ρ e S) : EvM X W ρ e (fun o ρ' => o = .ok S ∧ ρ' = ρ) := ⟨fun pins s σ F H M B F0 Q I ok h1 _ => h pins s σ F H M Q I ok.ok fun v F' H' m x hv hm => h1 S ρ ⟨rfl, rfl⟩ v F' H' M m (ok.ext x) hv fun a o z => by
  obtain ⟨y1, y2, y3⟩ := hm a o z
  refine ⟨y1, y2, ok.base.free y3, fun j o' hm' => ?_⟩
  have w := (ok.ok.own j a o' hm').1
  rw [y3] at w; cases w⟩
theorem evm_e {r : Except Ec PyData} (h : EvR X W ρ e r) : EvM X W ρ e (fun o ρ' => ρ' = ρ ∧ o = match r with | .ok d => .ok (fz d) | .error c => .error c) := ⟨fun pins s σ F H M B F0 Q I ok h1 h2 => h pins s σ F H M Q I ok.ok
  (fun d hd v F' H' x dv => by subst hd; exact h1 _ ρ ⟨rfl, rfl⟩ v F' H' M [] (ok.ext x) ⟨rfl, dv⟩ fun _ _ z => nomatch z) fun c hc F' H' x => by subst hc; exact h2 c ρ ⟨rfl, rfl⟩ F' H' M (ok.ext x)⟩
/-- x.f = e, a field that is there -/
theorem sxs_fldM (i k : Nat) {R : Except Ec Slot → Env → Prop} (O : ClsO X.K D ns) (he : EvM X W ρ e R)
    (hh : ∀ S ρ', R (.ok S) ρ' → ∃ Ss pa, ρ'[i]? = some (some (obj D ns Ss pa)) ∧ k < Ss.length ∧ Sxs X W rest (ρ'.set i (some (obj D ns (Ss.set k S) pa))) Φ) (kr : ∀ c ρ', R (.error c) ρ' → Φ (.raise c ρ'))
    (hk : ns[k]? = some f := by rfl) (nd : ns.Nodup := by decide) (hl : ns.length < 1000 := by decide) (hs : swapsWith e (some (.Attribute (.Name x px) f po)) pos.line X.env = pure false := by rfl)
    (hN : X.N[i]? = some x := by rfl) (hv : Vis X.env.scope x := by first | exact Or.inl rfl | exact Or.inr (Or.inl rfl) | exact Or.inr (Or.inr rfl))
    (h1 : (x == ("__debug__" : Str)) = false := by decide) (h2 : (x == ("__classdict__" : Str)) = false := by decide) : Sxs X W (.Assign [.Attribute (.Name x px) f po] e pos :: rest) ρ Φ :=
  sxs_of (ps_fld (pe_var hN hv h1 h2) he.pe hs) fun σ F H M B F0 D0 ok q => ⟨F, M, B, F0, ok, fun S ρ' hR v F' H' M' m y hv' hm => by
    obtain ⟨Ss', pa', hd, hk2, cont⟩ := hh S ρ' hR
    obtain ⟨w, hσ, a, dx, ws, m', rfl, _, hmm, _, _⟩ := y.ok.at_ i _ hd
    have hH := (y.ok.own i a _ (by rw [hmm]; exact List.mem_cons_self)).1
    obtain ⟨hl2, M2, y2⟩ := y.fldPut hd hσ hk nd hk2 hH hv' hm
    exact ⟨_, hσ, a, D, dx, _, rfl, hH, O.cls, O.na f (List.mem_of_getElem? hk), by omega, _, Φ, F', M2, B, F0, cont, y2, q⟩, fun c ρ' hR F' H' M' y => q _ (kr c ρ' hR) F' σ H' M' y⟩
theorem sxs_fldS (i k : Nat) {S' : Slot} (O : ClsO X.K D ns) (hd : ρ[i]? = some (some (obj D ns Ss pa))) (he : FrS X W ρ e S') (cont : Sxs X W rest (ρ.set i (some (obj D ns (Ss.set k S') pa))) Φ) (hk2 : k < Ss.length := by simp)
    (hk : ns[k]? = some f := by rfl) (nd : ns.Nodup := by decide) (hl : ns.length < 1000 := by decide) (hs : swapsWith e (some (.Attribute (.Name x px) f po)) pos.line X.env = pure false := by rfl)
    (hN : X.N[i]? = some x := by rfl) (hv : Vis X.env.scope x := by first | exact Or.inl rfl | exact Or.inr (Or.inl rfl) | exact Or.inr (Or.inr rfl))
    (h1 : (x == ("__debug__" : Str)) = false := by decide) (h2 : (x == ("__classdict__" : Str)) = false := by decide) : Sxs X W (.Assign [.Attribute (.Name x px) f po] e pos :: rest) ρ Φ :=
  sxs_fldM i k O (evm_s he) (fun S ρ' ⟨e1, e2⟩ => by cases e1; subst e2; exact ⟨Ss, pa, hd, hk2, cont⟩) (fun c ρ' ⟨e1, _⟩ => nomatch e1) hk nd hl hs hN hv h1 h2
/-- x.f = e, a new field -/
theorem sxs_fldN (i : Nat) {S' : Slot} {ns' : List Str} (O : ClsO X.K D ns') (hd : ρ[i]? = some (some (obj D ns Ss pa))) (he : FrS X W ρ e S') (cont : Sxs X W rest (ρ.set i (some (obj D (ns ++ [f]) (Ss ++ [S']) pa))) Φ) (hf : f ∉ ns := by decide) (hin : f ∈ ns' := by decide)
    (hl : ns.length < 1000 := by decide) (hs : swapsWith e (some (.Attribute (.Name x px) f po)) pos.line X.env = pure false := by rfl)
    (hN : X.N[i]? = some x := by rfl) (hv : Vis X.env.scope x := by first | exact Or.inl rfl | exact Or.inr (Or.inl rfl) | exact Or.inr (Or.inr rfl))
    (h1 : (x == ("__debug__" : Str)) = false := by decide) (h2 : (x == ("__classdict__" : Str)) = false := by decide) : Sxs X W (.Assign [.Attribute (.Name x px) f po] e pos :: rest) ρ Φ :=
  sxs_of (ps_fld (pe_var hN hv h1 h2) (evm_s he).pe hs) fun σ F H M B F0 D0 ok q => ⟨F, M, B, F0, ok, fun S ρ' ⟨e1, e2⟩ v F' H' M' m y hv' hm => by
    cases e1; subst e2
    obtain ⟨w, hσ, a, dx, ws, m', rfl, _, hmm, _, _⟩ := y.ok.at_ i _ hd
    have hH := (y.ok.own i a _ (by rw [hmm]; exact List.mem_cons_self)).1
    obtain ⟨hl2, M2, y2⟩ := y.fldNew hd hσ hf hH hv' hm
    exact ⟨_, hσ, a, D, dx, _, rfl, hH, O.cls, O.na f hin, by omega, _, Φ, F', M2, B, F0, cont, y2, q⟩, fun c ρ' ⟨e1, _⟩ => nomatch e1⟩
/-- the object of a field changes in its place -/
theorem PInv.fldMut {K : PySem.W.Frag} {B F0 F H : Hp} {σ : St} {M : Nat → Mini} {i k : Nat} {S : Slot} (y : PInv K B F0 ρ F σ H M) (hd : ρ[i]? = some (some (obj D ns Ss pa))) (hS : Ss[k]? = some S) :
    ∃ mu w, (∃ a dx ws, σ[i]? = some (some (.ref a)) ∧ H a = some (.ins D dx (ns.zip ws)) ∧ ws.length = ns.length ∧ ws[k]? = some w) ∧ S.R K F w mu ∧ (∀ x, x ∈ mu → x ∈ M i) ∧
      ∀ (S' : Slot) (b : Addr) (o o' : HO) (F' H' : Hp), Ext F H F' H' → mu = [(b, o)] → S'.R K F' w [(b, o')] → ∃ M', PInv K B F0 (ρ.set i (some (obj D ns (Ss.set k S') pa))) F' σ (upd H' b o') M' := by
  obtain ⟨r, e, a, dx, ws, m', rfl, ha', hmm, hO, hl, hne, hn1, hn2⟩ := y.ok.at_ i _ hd
  obtain ⟨w, mu, g1, g2, g3, g4⟩ := hO.at hS
  have hin : ∀ x, x ∈ m' → x ∈ M i := fun x z => by rw [hmm]; exact List.mem_cons_of_mem _ (List.mem_cons_of_mem _ z)
  have hma : (a, HO.ins D dx (ns.zip ws)) ∈ M i := by rw [hmm]; exact List.mem_cons_self
  have hmd : (dx, HO.own a) ∈ M i := by rw [hmm]; exact List.mem_cons_of_mem _ List.mem_cons_self
  refine ⟨mu, w, ⟨a, dx, ws, e, (y.ok.own i a _ hma).1, hl, g1⟩, g2, fun x z => hin x (g3 x z), fun S' b o o' F' H' x emu hS' => ?_⟩
  have hbm : (b, o) ∈ m' := g3 _ (by rw [emu]; exact List.mem_cons_self)
  have hbo : (b, o) ∈ M i := hin _ hbm
  obtain ⟨m2, q1, q2⟩ := g4 F' w S' [(b, o')] x.f hS' fun c u hc => .inl ⟨o, by
    have hc : (c, u) = (b, o') := by simpa using hc
    cases hc
    rw [emu]; exact List.mem_cons_self⟩
  have ews : ws.set k w = ws := by
    apply List.ext_getElem?
    intro j
    by_cases h : j = k
    · subst h
      rw [List.getElem?_set_self (List.getElem?_eq_some_iff.mp g1).1, g1]
    · rw [List.getElem?_set_ne (Ne.symm h)]
  rw [ews] at q1
  have y' := y.ext x
  have q3 : ∀ c u, (c, u) ∈ m2 → ((c, u) ∈ m' ∧ c ≠ b) ∨ (c, u) = (b, o') := fun c u z => by
    rcases q2 c u z with ⟨z1, z2⟩ | z1
    · exact .inl ⟨z1, fun e => z2 o (by subst e; rw [emu]; exact List.mem_cons_self)⟩
    · exact .inr (by simpa using z1)
  have nab : a ≠ b := fun e => hn1 o (e ▸ hbm)
  have ndb : dx ≠ b := fun e => hn2 o (e ▸ hbm)
  refine ⟨_, y'.change (S' := obj D ns (Ss.set k S') pa) (m' := (a, .ins D dx (ns.zip ws)) :: (dx, .own a) :: m2) (o' := o') hd e hbo
    ⟨a, dx, ws, m2, rfl, ha', rfl, q1, hl, hne, fun u z => ?_, fun u z => ?_⟩ fun c u hc => ?_⟩
  · rcases q3 a u z with ⟨z, _⟩ | z
    · exact hn1 u z
    · exact nab (by cases z; rfl)
  · rcases q3 dx u z with ⟨z, _⟩ | z
    · exact hn2 u z
    · exact ndb (by cases z; rfl)
  · have old : ∀ c u, (c, u) ∈ M i → c ≠ b → (upd H' b o') c = some u ∧ F' c = none ∧ B c = none ∧ ∀ (j : Nat) (u' : HO), j ≠ i → (c, u') ∉ M j := fun c u z ne =>
      ⟨by rw [upd_ne ne]; exact (y'.ok.own i c u z).1, (y'.ok.own i c u z).2, y'.mb i c u z, fun j u' hj hz => hj (y'.ok.apart j i c u' u hz z)⟩
    rcases List.mem_cons.mp hc with z | z
    · cases z; exact old a _ hma nab
    · rcases List.mem_cons.mp z with z | z
      · cases z; exact old dx _ hmd ndb
      · rcases q3 c u z with ⟨z, ne⟩ | z
        · exact old c u (hin _ z) ne
        · cases z
          exact ⟨upd_same, (y'.ok.own i b o hbo).2, y'.mb i b o hbo, fun j u' hj hz => hj (y'.ok.apart j i b u' o hz hbo)⟩
/-- x.f, as the field's object stands; with what is to be -/
def tFldM (X : Cx) (ρ : Env) (i k : Nat) (D : Addr) (ns : List Str) (Ss : List Slot) (pa : Option Addr) (S : Slot) : TE := fun σ H Q => ∃ F M B F0, PInv X.K B F0 ρ F σ H M ∧ ∀ w mu, S.R X.K F w mu → (∀ x, x ∈ mu → x ∈ M i) →
  (∀ (S' : Slot) (b : Addr) (o o' : HO) (F' H' : Hp), Ext F H F' H' → mu = [(b, o)] → S'.R X.K F' w [(b, o')] → ∃ M', PInv X.K B F0 (ρ.set i (some (obj D ns (Ss.set k S') pa))) F' σ (upd H' b o') M') → Q w H
theorem pe_fldM (i k : Nat) (O : ClsO X.K D ns) (hd : ρ[i]? = some (some (obj D ns Ss pa))) (hS : Ss[k]? = some S) (hk : ns[k]? = some f := by rfl) (nd : ns.Nodup := by decide) (hN : X.N[i]? = some x := by rfl) (hv : Vis X.env.scope x := by first | exact Or.inl rfl | exact Or.inr (Or.inl rfl) | exact Or.inr (Or.inr rfl))
    (h1 : (x == ("__debug__" : Str)) = false := by decide) (h2 : (x == ("__classdict__" : Str)) = false := by decide) (hb : attributeBase (.Name x px) f X.env (eval (.Name x px) X.env) = eval (.Name x px) X.env := by rfl) : PE X (.Attribute (.Name x px) f pos) (tFldM X ρ i k D ns Ss pa S) :=
  ⟨fun pins s σ H Q I ⟨F, M, B, F0, y, h⟩ => (pe_fld (pe_var hN hv h1 h2) hb).run pins s σ H Q I (by
    obtain ⟨mu, w, ⟨a, dx, ws, e, hH, hl, g1⟩, g2, g3, g4⟩ := y.fldMut hd hS
    exact ⟨_, e, a, D, dx, _, w, rfl, hH, O.cls, O.na f (List.mem_of_getElem? hk), by rw [zip_look nd hk hl, g1], h w mu g2 g3 g4⟩)⟩
/-- x.f.append(d), a list of frozen things -/
theorem sxs_fappend (i k : Nat) {pb : Pos} {q : Option Addr} {ds : List PyData} {z : PyData} (O : ClsO X.K D ns) (hd : ρ[i]? = some (some (obj D ns Ss pa))) (hS : Ss[k]? = some (ow q ds)) (he : Ev X W ρ d z) (cl : ds.length < sizeLine)
    (cont : Sxs X W rest (ρ.set i (some (obj D ns (Ss.set k (ow q (ds ++ [z]))) pa))) Φ)
    (hp : ∀ t u, PE X (.Attribute (.Name x px) f po) t → PE X d u → PE X (.Call (.Attribute (.Attribute (.Name x px) f po) "append" pb) [d] [] p) (tBM X.K "list" rAppend t (tCons u tNil)) := by exact fun t u h h' => pe_bm PySem.F.plainAttrs_list PySem.F.slot_list_append PySem.F.type_list_append mt_append h (pa_cons h' pa_nil))
    (hs : swapsWith (.Call (.Attribute (.Attribute (.Name x px) f po) "append" pb) [d] [] p) none pos.line X.env = pure false := by rfl)
    (hk : ns[k]? = some f := by rfl) (nd : ns.Nodup := by decide) (hN : X.N[i]? = some x := by rfl) (hv : Vis X.env.scope x := by first | exact Or.inl rfl | exact Or.inr (Or.inl rfl) | exact Or.inr (Or.inr rfl))
    (h1 : (x == ("__debug__" : Str)) = false := by decide) (h2 : (x == ("__classdict__" : Str)) = false := by decide) (hb : attributeBase (.Name x px) f X.env (eval (.Name x px) X.env) = eval (.Name x px) X.env := by rfl) :
    Sxs X W (.Expr (.Call (.Attribute (.Attribute (.Name x px) f po) "append" pb) [d] [] p) pos :: rest) ρ Φ :=
  sxs_of (ps_expr (hp _ _ (pe_fldM i k O hd hS hk nd hN hv h1 h2 hb) he.pe) hs) fun σ F H M B F0 D0 ok q0 => ⟨F, M, B, F0, ok, fun w mu ⟨a, vs, e1, e2, e3, e4⟩ hin go => by
    subst e1
    have hH : H a = some (.lst vs) := (ok.ok.own i a _ (hin _ (by rw [e2]; exact List.mem_cons_self))).1
    refine ⟨ty_lst hH, rd ok.ok fun u F1 H1 x1 du => ?_⟩
    obtain ⟨M2, y2⟩ := go (ow q (ds ++ [z])) a (.lst vs) (.lst (vs ++ [u])) F1 H1 x1 e2 ⟨a, vs ++ [u], rfl, rfl, e3, DqAll_app (dqAll_mono x1.f _ _ e4) (.cons du .nil)⟩
    exact ⟨a, vs, u, rfl, rfl, x1.h a _ hH, by rw [DqAll_len e4]; exact cl, _, Φ, F1, M2, B, F0, cont, y2, q0⟩⟩
/-- x.f.pop(), the last of frozen things -/
theorem evm_fpop (i k : Nat) {pb : Pos} {q : Option Addr} {ds : List PyData} {z : PyData} (O : ClsO X.K D ns) (hd : ρ[i]? = some (some (obj D ns Ss pa))) (hS : Ss[k]? = some (ow q (ds ++ [z])))
    (hp : ∀ t, PE X (.Attribute (.Name x px) f po) t → PE X (.Call (.Attribute (.Attribute (.Name x px) f po) "pop" pb) [] [] p) (tBM0 X.K "list" rPop t) := by exact fun t h => pe_bm0 PySem.F.plainAttrs_list PySem.F.slot_list_pop PySem.F.type_list_pop mt_pop h)
    (hk : ns[k]? = some f := by rfl) (nd : ns.Nodup := by decide) (hN : X.N[i]? = some x := by rfl) (hv : Vis X.env.scope x := by first | exact Or.inl rfl | exact Or.inr (Or.inl rfl) | exact Or.inr (Or.inr rfl))
    (h1 : (x == ("__debug__" : Str)) = false := by decide) (h2 : (x == ("__classdict__" : Str)) = false := by decide) (hb : attributeBase (.Name x px) f X.env (eval (.Name x px) X.env) = eval (.Name x px) X.env := by rfl) :
    EvM X W ρ (.Call (.Attribute (.Attribute (.Name x px) f po) "pop" pb) [] [] p) (fun o ρ' => o = .ok (fz z) ∧ ρ' = ρ.set i (some (obj D ns (Ss.set k (ow q ds)) pa))) :=
  ⟨fun pins s σ F H M B F0 Q I ok g1 _ => (hp _ (pe_fldM i k O hd hS hk nd hN hv h1 h2 hb)).run pins s σ H Q I ⟨F, M, B, F0, ok, fun w mu ⟨a, vs, e1, e2, e3, e4⟩ hin go => by
    subst e1
    have hH : H a = some (.lst vs) := (ok.ok.own i a _ (hin _ (by rw [e2]; exact List.mem_cons_self))).1
    have hl := DqAll_len e4
    rw [List.length_append, List.length_singleton] at hl
    obtain ⟨u, hu, du⟩ := DqAll_get (i := ds.length) e4 (by rw [List.getElem?_append_right (Nat.le_refl _), Nat.sub_self]; rfl)
    have hd' : DqAll X.K F vs.dropLast ds := by
      have := DqAll_take ds.length e4
      rw [List.take_left' rfl] at this
      rw [List.dropLast_eq_take, hl, Nat.add_sub_cancel]
      exact this
    obtain ⟨M2, y2⟩ := go (ow q ds) a (.lst vs) (.lst vs.dropLast) F H (.refl ok.ok.sub) e2 ⟨a, vs.dropLast, rfl, rfl, e3, hd'⟩
    exact ⟨ty_lst hH, a, vs, u, rfl, rfl, hH, by rw [hl, Nat.add_sub_cancel]; exact hu, g1 (fz z) _ ⟨rfl, rfl⟩ u F _ M2 [] y2 ⟨rfl, du⟩ fun _ _ z => nomatch z⟩⟩⟩
end
end PV

/-! The pure-value layer: methods, and objects made. -/
namespace PV
open PySem PySem.Spec PyProof.Rows L2
/-- a method of the class at D -/
def CalleeMt (P : Program) (w : World) (K : PySem.W.Frag) (mg : Str → Option Value) (base : Heap) (k : Nat) (D : Addr) (m : Str) (sp : Sp) : Prop :=
  ∃ f fd ps, FnOk P w K mg base (L2.CX P w) k f fd ps sp ∧ Meth K D m f ∧ Binds K fd ps []
def DfMt (K : PySem.W.Frag) (D : Addr) (m q : Str) (st : Stmt) : Prop := ∃ f fd, Fun K m q st f fd ∧ Meth K D m f
/-- the class, to be made by __init__ -/
def CalleeMk (P : Program) (w : World) (K : PySem.W.Frag) (mg : Str → Option Value) (base : Heap) (k : Nat) (D : Addr) (x : Str) (sp : Sp) : Prop :=
  ∃ f fd ps, FnOk P w K mg base (L2.CX P w) k f fd ps sp ∧ Mk K D f ∧ Binds K fd ps [] ∧ mg x = some (.ref D)
section
variable {P : Program} {w : World} {K : PySem.W.Frag} {mg : Str → Option Value} {base : Heap} {C : Ec → Addr} {k : Nat} {m q : Str} {st : Stmt} {N ps : List Str} {ι : Type} {ins : ι → List Ar} {pre : ι → Prop} {r : ι → Except Ec Slot → List Asl → Prop} {D : Addr}
theorem callee_ofMt (Dm : DfMt K D m q st) (S : FnScope N ps (defScope st))
    (hb : ∀ (kV doc pm : Value) (an : Option Addr) (cdv ct : Value) (us : List Value), us.length = ps.length → bindArgs (PySem.W.fnOf m q (defArgs st) (defBody st) (defScope st) .none kV doc pm an cdv ct) ⟨us, []⟩ = pure (ps.zip us))
    (body : ∀ (f : Addr) (cdv : Value) (A : Around) (outer : List PySem.Env) (s : Shared) (H : Hp) (E : XK), Ctx (cxD P w K mg base N q st f cdv A outer s H E) C (fun c σ H => E (.ref (C c)) none H) k → ∀ i, pre i → ∀ ad : Nat → Addr,
      Sxs (cxD P w K mg base N q st f cdv A outer s H E) (fun c σ H => E (.ref (C c)) none H) (defBody st) (envIn ad 0 (ins i) ++ List.replicate (N.length - (ins i).length) none) (bodyM ad (muIx 0 (ins i)) (r i))) : CalleeMt P w K mg base (k + 1) D m (spM K C ps.length ins pre r) := by
  obtain ⟨f, fd, F, hm⟩ := Dm
  exact ⟨f, fd, ps, fnok_ofM F S body, hm, F.binds hb⟩
end
section
variable {X : Cx} {CX : CXT} {k : Nat} {D f : Addr} {fd : FuncData} {ps : List Str} {sp : Sp} {dvs : List V} {ds : List Value} {E : St → XK} {x m : Str} {p pos apos : Pos} {e o : Expr} {es : List Expr} {ta : TE} {t : TA}
theorem pe_methSD {pl : Sem Bool} (he : PE X o ta) (c : Cls X.K D) (hm : Meth X.K D m f) (F : FnOk X.prog X.w X.K X.mg X.base CX k f fd ps sp) (hr : Room k X.A) (hb : Binds X.K fd ps ds) (hd : Vals dvs ds) (hx : ∀ σ, PassesAt CX X σ (E σ)) (ha : PA X (e :: es) t)
    (hst : starEach (e :: es) X.env = (false, eval e X.env) :: starEach es X.env) (hpl : (backTo pos (starEach es X.env)).any (·.1) = false)
    (ht : eval (.Call (.Attribute o m apos) (e :: es) [] pos) X.env = (do
      let ov ← eval o X.env
      standAt apos.atName
      let (f, first) ← holding [ov] (getMethod ov m pl)
      callWith pos f first (backTo pos (starEach (e :: es) X.env)) (backToKw pos (keywordEach [] X.env)))) :
    PE X (.Call (.Attribute o m apos) (e :: es) [] pos) (fun σ H Q => ta σ H fun x H1 => ∃ a dx fs, x = .ref a ∧ H1 a = some (.ins D dx fs) ∧ fs.lookup m = none ∧ t σ H1 fun vs H2 => sp (x :: (vs ++ dvs)) H2 Q (E σ)) := by
  refine ⟨fun pins s σ H Q I h => ?_⟩
  refine PySem.W.methodCall_KW (pl := pl) (thn (he.run pins s σ H _ I h) fun u s1 ⟨x, H1, I1, rx, a, dx, fs, ex, ea, l, q⟩ => ?_) ht
  subst ex
  obtain rfl : u = Value.ref a := rx
  refine getmeth_ok I1 ea c hm l ?_
  refine PySem.W.callWith_K (first := [.ref a]) (h₀ := X.base) I.ok.mod.kin hm.kp (thn (ha.run pos pins s1 σ H1 _ I1 q) fun us s2 ⟨vs, H2, I2, r, q2⟩ => ⟨I2.kIn, ?_⟩) hst hpl
  exact run_fnSD (us := .ref a :: us) (vs := .ref a :: vs) F hr hb hd (hx σ) I2 (.cons rfl r) q2
theorem pe_methSD0 {pl : Sem Bool} (he : PE X o ta) (c : Cls X.K D) (hm : Meth X.K D m f) (F : FnOk X.prog X.w X.K X.mg X.base CX k f fd ps sp) (hr : Room k X.A) (hb : Binds X.K fd ps ds) (hd : Vals dvs ds) (hx : ∀ σ, PassesAt CX X σ (E σ))
    (ht : eval (.Call (.Attribute o m apos) [] [] pos) X.env = (do
      let ov ← eval o X.env
      standAt apos.atName
      let (f, first) ← holding [ov] (getMethod ov m pl)
      callWith pos f first (backTo pos (starEach [] X.env)) (backToKw pos (keywordEach [] X.env)))) :
    PE X (.Call (.Attribute o m apos) [] [] pos) (fun σ H Q => ta σ H fun x H1 => ∃ a dx fs, x = .ref a ∧ H1 a = some (.ins D dx fs) ∧ fs.lookup m = none ∧ sp (x :: dvs) H1 Q (E σ)) := by
  refine ⟨fun pins s σ H Q I h => ?_⟩
  refine PySem.W.methodCall_KW (pl := pl) (thn (he.run pins s σ H _ I h) fun u s1 ⟨x, H1, I1, rx, a, dx, fs, ex, ea, l, q⟩ => ?_) ht
  subst ex
  obtain rfl : u = Value.ref a := rx
  refine getmeth_ok I1 ea c hm l ?_
  exact PySem.W.callWith_K0 (first := [.ref a]) I1.kIn hm.kp (run_fnSD (us := [.ref a]) (vs := [.ref a]) F hr hb hd (hx σ) I1 (.cons rfl .nil) q)
end
section
variable {X : Cx} {W : Wc} {ρ : Env} {e a b : Expr} {es : List Expr} {pos p px apos : Pos} {C : Ec → Addr} {k : Nat} {rest : List Stmt} {Φ : Out → Prop}
variable {ι : Type} {n : Nat} {ins : ι → List Ar} {pre : ι → Prop} {r : ι → Except Ec Slot → List Asl → Prop} {x m : Str} {j : Nat} {D : Addr} {ns : List Str}
/-- what a call of a def of kind spM comes to, its arguments at hand -/
theorem spM_run {σ : St} {F1 H1 B F0 : Hp} {M : Nat → Mini} {ix : List (Nat × Option Addr)} {vs : List V} {Q : VK} (i : ι) (ok1 : PInv X.K B F0 ρ F1 σ H1 M) (dvs : CallR X.K F1 ρ σ M vs (ins i) ix) (hp : pre i) (hn : (ins i).length = n) (hix : (ix.map (·.1)).Nodup)
    (h1 : ∀ S outs, r i (.ok S) outs → ∀ v F' H' M' m, PInv X.K B F0 (giveAll (dropAll ρ ix) ix outs) F' σ H' M' → S.R X.K F' v m → (∀ a o, (a, o) ∈ m → H' a = some o ∧ F' a = none ∧ B a = none ∧ ∀ j o', (a, o') ∉ M' j) → Q v H')
    (h2 : ∀ c outs, r i (.error c) outs → ∀ F' H' M', PInv X.K B F0 (giveAll (dropAll ρ ix) ix outs) F' σ H' M' → W c σ H') :
    spM X.K C n ins pre r vs H1 Q (WE (fun cls d σ H => ∃ c, cls = .ref (C c) ∧ d = none ∧ W c σ H) σ) := by
  have hcov := mOf_cover (j := 0) dvs
  have hA : ∀ j a o, (a, o) ∈ mOf M 0 (ins i) ix j → B a = none := fun j a o h => by
    obtain ⟨y, _, hy⟩ := mOf_mem h
    exact ok1.mb _ _ _ hy
  have hmM : ∀ i' j a o o', (a, o) ∈ wipeM M ix i' → (a, o') ∉ mOf M 0 (ins i) ix j := fun i' j a o o' h h' => by
    obtain ⟨h3, h4⟩ := wipeM_sub h
    obtain ⟨y, hy, hy2⟩ := mOf_mem h'
    exact h4 y hy (ok1.ok.apart _ _ _ _ _ hy2 h3)
  have key : ∀ {F' H' : Hp} {m : Mini} {M' : Nat → Mini} {outs : List Asl}, Post F1 H1 (mOf M 0 (ins i) ix) F' H' m M' → OutsR X.K F' vs M' (muIx 0 (ins i)) outs → ∃ M2, PInv X.K B F0 (giveAll (dropAll ρ ix) ix outs) F' σ H' M2 ∧ ∀ i' y, y ∈ M2 i' → y ∈ wipeM M ix i' ∨ ∃ j, y ∈ M' j := by
    intro F' H' m M' outs po oo
    have fr := (PInv.dropAll (ix := ix) ok1).frame po hA hmM
    have gv := CallR.give (ws := vs) dvs (fun k v hk => by rw [Nat.zero_add]; exact hk) oo
    have bn : ∀ a : Addr, (H1 a = none ∨ ∃ k o', (a, o') ∈ mOf M 0 (ins i) ix k) → B a = none := fun a h => by
      rcases h with z | ⟨k, o', z⟩
      · exact ok1.base.free z
      · exact hA k a o' z
    obtain ⟨M2, y1, y2⟩ := fr.giveAll (M' := M') (fun j a o h => ⟨(po.own j a o h).1, (po.own j a o h).2.1, bn a (po.own j a o h).2.2⟩) po.apart gv muIx_nodup fun i' j _ a o o' h h' => by
      have h3 := (ok1.dropAll (ix := ix)).ok.own i' a o' h'
      rcases (po.own j a o h).2.2 with z | ⟨k, o2, z⟩
      · rw [z] at h3; cases h3.1
      · exact hmM i' k a o' o2 h' z
    exact ⟨M2, y1, fun i' y hy => (y2 i' y hy).imp id fun ⟨j, _, z⟩ => ⟨j, z⟩⟩
  refine ⟨i, F1, mOf M 0 (ins i) ix, ok1.ok.sub, (CallR.len dvs).trans hn, CallR.args dvs fun k _ => rfl, fun j a o h => ?_, mOf_apart ok1.ok.apart hix, hp, fun S outs hS v F' H' m M' po hv oo => ?_, fun c' outs hc F' H' M' po oo => ⟨c', rfl, rfl, ?_⟩⟩
  · obtain ⟨y, _, hy⟩ := mOf_mem h
    exact ok1.ok.own _ _ _ hy
  · obtain ⟨M2, y1, y2⟩ := key po oo
    refine h1 S outs hS v F' H' M2 m y1 hv fun a o hmm => ?_
    obtain ⟨z1, z2, z3⟩ := po.ownm a o hmm
    refine ⟨z1, z2, ?_, fun i' o' hi' => ?_⟩
    · rcases z3 with z | ⟨k, o', z⟩
      · exact ok1.base.free z
      · exact hA k a o' z
    · rcases y2 i' _ hi' with w | ⟨j, w⟩
      · have h3 := (ok1.dropAll (ix := ix)).ok.own i' a o' w
        rcases z3 with z | ⟨k, o2, z⟩
        · rw [z] at h3; cases h3.1
        · exact hmM i' k a o' o2 w z
      · exact po.apartm j a o o' hmm w
  · obtain ⟨M2, y1, _⟩ := key po oo
    exact h2 c' outs hc F' H' M2 y1
/-- x.m(e, ..): the object at x may change -/
theorem evm_meth {pl : Sem Bool} (i0 : Nat) {pa : Option Addr} {Ss : List Slot} {as : List Ar} (ix : List (Nat × Option Addr)) (c : Ctx X C W k) (O : ClsO X.K D ns) (G : CalleeMt X.prog X.w X.K X.mg X.base j D m (spM X.K C n ins pre r)) (i : ι) (hp : pre i) (hi : ins i = .mu (objA D ns Ss) :: as) (hd : ρ[i0]? = some (some (obj D ns Ss pa)))
    (ha : EvAM X W ρ (e :: es) as ix) (hj : j ≤ k := by decide) (hn : (ins i).length = n := by rfl) (hix : ((i0 :: ix.map (·.1))).Nodup := by decide) (hm : m ∉ ns := by decide)
    (he : starEach (e :: es) X.env = (false, eval e X.env) :: starEach es X.env := by rfl) (hpl : (backTo pos (starEach es X.env)).any (·.1) = false := by rfl)
    (ht : eval (.Call (.Attribute (.Name x px) m apos) (e :: es) [] pos) X.env = (do
      let ov ← eval (.Name x px) X.env
      standAt apos.atName
      let (f, first) ← holding [ov] (getMethod ov m pl)
      callWith pos f first (backTo pos (starEach (e :: es) X.env)) (backToKw pos (keywordEach [] X.env))) := by rfl)
    (hN : X.N[i0]? = some x := by rfl) (hv : Vis X.env.scope x := by first | exact Or.inl rfl | exact Or.inr (Or.inl rfl) | exact Or.inr (Or.inr rfl))
    (h1 : (x == ("__debug__" : Str)) = false := by decide) (h2 : (x == ("__classdict__" : Str)) = false := by decide) :
    EvM X W ρ (.Call (.Attribute (.Name x px) m apos) (e :: es) [] pos) (fun o ρ' => ∃ outs, r i o outs ∧ ρ' = giveAll (dropAll ρ ((i0, pa) :: ix)) ((i0, pa) :: ix) outs) := by
  refine ⟨?_⟩
  intro pins s σ F H M B F0 Q I ok g1 g2
  obtain ⟨f, fd, ps, hF, hmt, hb⟩ := G
  refine (pe_methSD (dvs := []) (E := WE (fun cls d σ H => ∃ c, cls = .ref (C c) ∧ d = none ∧ W c σ H)) (pe_var hN hv h1 h2) O.cls hmt hF (c.room.mono hj) hb .nil (fun σ => passAt c.tk σ) ha.pa he hpl ht).run pins s σ H Q I ?_
  obtain ⟨v, ev, hR⟩ := ok.ok.at_ i0 _ hd
  obtain ⟨ao, dx, ws, m', rfl, hpa, hmm, hO, hl, hne⟩ := id hR
  have hH := (ok.ok.own i0 ao _ (by rw [hmm]; exact List.mem_cons_self)).1
  refine ⟨_, ev, ao, dx, _, rfl, hH, zip_look_none hm, F, M, ok.ok, fun vs F1 H1 x1 dvs => ?_⟩
  show spM X.K C n ins pre r (.ref ao :: (vs ++ [])) H1 Q (WE (fun cls d σ H => ∃ c, cls = .ref (C c) ∧ d = none ∧ W c σ H) σ)
  rw [List.append_nil]
  refine spM_run (ix := (i0, pa) :: ix) i (ok.ext x1) ?_ hp hn hix (fun S outs hS => g1 S _ ⟨outs, hS, rfl⟩) fun c' outs hc => g2 c' _ ⟨outs, hc, rfl⟩
  rw [hi]
  exact ⟨⟨hd, ev, (obj D ns Ss pa).mono _ _ _ _ _ x1.f hR⟩, dvs⟩
/-- x.m() -/
theorem evm_meth0 {pl : Sem Bool} (i0 : Nat) {pa : Option Addr} {Ss : List Slot} (c : Ctx X C W k) (O : ClsO X.K D ns) (G : CalleeMt X.prog X.w X.K X.mg X.base j D m (spM X.K C n ins pre r)) (i : ι) (hp : pre i) (hi : ins i = [.mu (objA D ns Ss)]) (hd : ρ[i0]? = some (some (obj D ns Ss pa)))
    (hj : j ≤ k := by decide) (hn : (ins i).length = n := by rfl) (hm : m ∉ ns := by decide)
    (ht : eval (.Call (.Attribute (.Name x px) m apos) [] [] pos) X.env = (do
      let ov ← eval (.Name x px) X.env
      standAt apos.atName
      let (f, first) ← holding [ov] (getMethod ov m pl)
      callWith pos f first (backTo pos (starEach [] X.env)) (backToKw pos (keywordEach [] X.env))) := by rfl)
    (hN : X.N[i0]? = some x := by rfl) (hv : Vis X.env.scope x := by first | exact Or.inl rfl | exact Or.inr (Or.inl rfl) | exact Or.inr (Or.inr rfl))
    (h1 : (x == ("__debug__" : Str)) = false := by decide) (h2 : (x == ("__classdict__" : Str)) = false := by decide) :
    EvM X W ρ (.Call (.Attribute (.Name x px) m apos) [] [] pos) (fun o ρ' => ∃ outs, r i o outs ∧ ρ' = giveAll (dropAll ρ [(i0, pa)]) [(i0, pa)] outs) := by
  refine ⟨?_⟩
  intro pins s σ F H M B F0 Q I ok g1 g2
  obtain ⟨f, fd, ps, hF, hmt, hb⟩ := G
  refine (pe_methSD0 (dvs := []) (E := WE (fun cls d σ H => ∃ c, cls = .ref (C c) ∧ d = none ∧ W c σ H)) (pe_var hN hv h1 h2) O.cls hmt hF (c.room.mono hj) hb .nil (fun σ => passAt c.tk σ) ht).run pins s σ H Q I ?_
  obtain ⟨v, ev, hR⟩ := ok.ok.at_ i0 _ hd
  obtain ⟨ao, dx, ws, m', rfl, hpa, hmm, hO, hl, hne⟩ := id hR
  have hH := (ok.ok.own i0 ao _ (by rw [hmm]; exact List.mem_cons_self)).1
  refine ⟨_, ev, ao, dx, _, rfl, hH, zip_look_none hm, ?_⟩
  refine spM_run (ix := [(i0, pa)]) i ok ?_ hp hn (by simp) (fun S outs hS => g1 S _ ⟨outs, hS, rfl⟩) fun c' outs hc => g2 c' _ ⟨outs, hc, rfl⟩
  rw [hi]
  exact ⟨⟨hd, ev, hR⟩, trivial⟩
end
end PV

/-! The pure-value layer: objects made. -/
namespace PV
open PySem PySem.Spec PyProof.Rows L2
section
variable {X : Cx} {CX : CXT} {k : Nat} {D f : Addr} {fd : FuncData} {ps : List Str} {sp : Sp} {dvs : List V} {ds : List Value} {E : St → XK} {x m : Str} {p pos apos : Pos} {e o : Expr} {es : List Expr} {ta : TE} {t : TA}
theorem run_makeSD {pins : List (Addr × Obj)} {σ : St} {H : Hp} {s : Shared} {Q : VK} {us : List Value} {vs : List V} (M : Mk X.K D f) (F : FnOk X.prog X.w X.K X.mg X.base CX k f fd ps sp) (hr : Room (k + 1) X.A) (hb : Binds X.K fd ps ds) (hd : Vals dvs ds)
    (hx : PassesAt CX X σ (E σ)) (I : Inv X pins σ H s) (r : Vals vs us)
    (h : ∀ x dx, H x = none → H dx = none → dx ≠ x → sp (.ref x :: (vs ++ dvs)) (upd (upd H dx (.own x)) x (.ins D dx [])) (fun v H2 => v = .non ∧ Q (.ref x) H2) (E σ)) :
    wpAny (model X.prog X.w) X.A (call (.ref D) us) (EP X pins σ Q) X.xe s := by
  have hq := h (s.heap.objs.size + 1) s.heap.objs.size (I.hok.fresh (Nat.le_succ _)) (I.hok.fresh (Nat.le_refl _)) (Nat.ne_of_lt (Nat.lt_succ_self _))
  have I2 := Inv.made (C := D) I
  have r2 : Vals (V.ref (s.heap.objs.size + 1) :: (vs ++ dvs)) (Value.ref (s.heap.objs.size + 1) :: (us ++ ds)) := .cons rfl (r.append hd)
  have hl : (Value.ref (s.heap.objs.size + 1) :: us ++ ds).length = ps.length := by
    have e := r2.length
    rw [F.len _ _ _ _ hq] at e
    exact e.symm
  refine wpAny_call (make_map (f := f) I.kIn M.makes M.init (beq_iff_eq.mp M.fn) (codeAny_mono (F.run _ X.stack _ _ ⟨Value.ref (s.heap.objs.size + 1) :: us, []⟩ (Value.ref (s.heap.objs.size + 1) :: (us ++ ds)) _ _ (E σ) (hr.make D us [])
    (I2.env0.make D us []) (hb _ (Value.ref (s.heap.objs.size + 1) :: us) I2.kIn hl) r2 hq) fun r s' hq' => ?_))
  cases r with
  | error e => exact hx pins _ _ e s' I2 hq'
  | ok fl =>
    cases fl with
    | ret u =>
      obtain ⟨v, H', I3, rv, ev, q3⟩ := I2.after hq'
      subst ev
      exact ⟨rv, ⟨V.ref (s.heap.objs.size + 1), H', I3, rfl, q3⟩⟩
    | next => exact False.elim hq'
    | brk => exact False.elim hq'
    | cont => exact False.elim hq'
theorem pe_makeSD (M : Mk X.K D f) (F : FnOk X.prog X.w X.K X.mg X.base CX k f fd ps sp) (hr : Room (k + 1) X.A) (hg : Gl X x) (hm : X.mg x = some (.ref D)) (hb : Binds X.K fd ps ds) (hd : Vals dvs ds) (hx : ∀ σ, PassesAt CX X σ (E σ))
    (ha : PA X (e :: es) t) (hdb : (x == ("__debug__" : Str)) = false) (he : starEach (e :: es) X.env = (false, eval e X.env) :: starEach es X.env) (hpl : (backTo pos (starEach es X.env)).any (·.1) = false) :
    PE X (.Call (.Name x p) (e :: es) [] pos) (fun σ H Q => t σ H fun vs H1 => ∀ x dx, H1 x = none → H1 dx = none → dx ≠ x → sp (.ref x :: (vs ++ dvs)) (upd (upd H1 dx (.own x)) x (.ins D dx [])) (fun v H2 => v = .non ∧ Q (.ref x) H2) (E σ)) := by
  refine ⟨fun pins s σ H Q I h => ?_⟩
  refine wpAny_Call_Name_kw (ld_glob I hg hm ?_ hdb)
  refine PySem.W.callWith_K (h₀ := X.base) I.ok.mod.kin M.kp (thn (ha.run pos pins s σ H _ I h) fun us s1 ⟨vs, H1, I1, r, q⟩ => ⟨I1.kIn, ?_⟩) he hpl
  exact run_makeSD M F hr hb hd (hx σ) I1 r q
theorem pe_makeSD0 (M : Mk X.K D f) (F : FnOk X.prog X.w X.K X.mg X.base CX k f fd ps sp) (hr : Room (k + 1) X.A) (hg : Gl X x) (hm : X.mg x = some (.ref D)) (hb : Binds X.K fd ps ds) (hd : Vals dvs ds) (hx : ∀ σ, PassesAt CX X σ (E σ))
    (hdb : (x == ("__debug__" : Str)) = false) :
    PE X (.Call (.Name x p) [] [] pos) (fun σ H Q => ∀ x dx, H x = none → H dx = none → dx ≠ x → sp (.ref x :: dvs) (upd (upd H dx (.own x)) x (.ins D dx [])) (fun v H2 => v = .non ∧ Q (.ref x) H2) (E σ)) := by
  refine ⟨fun pins s σ H Q I h => ?_⟩
  refine wpAny_Call_Name_kw (ld_glob I hg hm ?_ hdb)
  exact PySem.W.callWith_K0 I.kIn M.kp (run_makeSD (us := []) M F hr hb hd (hx σ) I .nil h)
end
section
variable {K : PySem.W.Frag} {B F0 F H : Hp} {ρ : Env} {σ : St} {M : Nat → Mini}
theorem PInv.tail {y : Option Slot} {v : Option V} (x : PInv K B F0 (y :: ρ) F (v :: σ) H M) : PInv K B F0 ρ F σ H (fun j => M (j + 1)) :=
  ⟨⟨by have := x.ok.len; simpa using this, x.ok.sub, fun j S h => x.ok.at_ (j + 1) S (by simpa using h), fun j a o h => x.ok.own (j + 1) a o h, fun j l a o o' h h' => by have := x.ok.apart _ _ _ _ _ h h'; omega⟩, x.base, x.f0, x.nb, fun j a o h => x.mb (j + 1) a o h⟩
theorem CallR.any {ρ2 : Env} {σ2 : St} {M2 : Nat → Mini} : ∀ {vs : List V} {as : List Ar}, CallR K F ρ σ M vs as [] → CallR K F ρ2 σ2 M2 vs as []
  | [], [], _ => trivial
  | v :: vs, .ro S :: as, h => ⟨h.1, CallR.any h.2⟩
  | [], _ :: _, h => h.elim
  | _ :: _, [], h => h.elim
  | _ :: _, .mu _ :: _, h => h.elim
theorem give_tail {S0 : Option Slot} (p : Option Addr) (outs : List Asl) : ∃ y, giveAll (dropAll (S0 :: ρ) [(0, p)]) [(0, p)] outs = y :: ρ := by
  cases outs with
  | nil => exact ⟨none, rfl⟩
  | cons G Gs => exact ⟨some (G.G p), rfl⟩
end
section
variable {X : Cx} {W : Wc} {ρ : Env} {e a b : Expr} {es : List Expr} {pos p px apos : Pos} {C : Ec → Addr} {k : Nat} {rest : List Stmt} {Φ : Out → Prop}
variable {ι : Type} {n : Nat} {ins : ι → List Ar} {pre : ι → Prop} {r : ι → Except Ec Slot → List Asl → Prop} {x m : Str} {j : Nat} {D : Addr}
/-- what a new object comes to -/
def makeR (D : Addr) (r : Except Ec Slot → List Asl → Prop) (ρ : Env) : Except Ec Slot → Env → Prop := fun o ρ' => ρ' = ρ ∧ ((∃ ns Ss, r (.ok (fz .none)) [objA D ns Ss] ∧ o = .ok (obj D ns Ss none)) ∨ ∃ c outs, r (.error c) outs ∧ o = .error c)
theorem make_run {σ : St} {F1 H1 B F0 : Hp} {M : Nat → Mini} {vs : List V} {as : List Ar} {Q : VK} {xo dx : Addr} (i : ι) (ok1 : PInv X.K B F0 ρ F1 σ H1 M) (dvs : CallR X.K F1 ρ σ M vs as []) (hp : pre i) (hi : ins i = .mu (objA D [] []) :: as) (hn : (ins i).length = n)
    (hok : ∀ S outs, r i (.ok S) outs → S = fz .none ∧ ∃ ns Ss, outs = [objA D ns Ss]) (n1 : H1 xo = none) (n2 : H1 dx = none) (ne : dx ≠ xo)
    (g1 : ∀ S ρ', makeR D (r i) ρ (.ok S) ρ' → ∀ v F' H' M' m, PInv X.K B F0 ρ' F' σ H' M' → S.R X.K F' v m → (∀ a o, (a, o) ∈ m → H' a = some o ∧ F' a = none ∧ B a = none ∧ ∀ j o', (a, o') ∉ M' j) → Q v H')
    (g2 : ∀ c ρ', makeR D (r i) ρ (.error c) ρ' → ∀ F' H' M', PInv X.K B F0 ρ' F' σ H' M' → W c σ H') :
    spM X.K C n ins pre r (.ref xo :: vs) (upd (upd H1 dx (.own xo)) xo (.ins D dx [])) (fun v H2 => v = .non ∧ Q (.ref xo) H2) (WE (fun cls d σ H => ∃ c, cls = .ref (C c) ∧ d = none ∧ W c σ H) σ) := by
  have s1 : Same H1 (upd (upd H1 dx (.own xo)) xo (.ins D dx [])) := fun b u e => by rw [upd_ne (ne_of_none e n1), upd_ne (ne_of_none e n2)]; exact e
  have ex : Ext F1 H1 F1 (upd (upd H1 dx (.own xo)) xo (.ins D dx [])) := ⟨.refl _, s1, ok1.ok.sub.trans s1, fun a o h1 h2 => by rw [h1] at h2; cases h2⟩
  have hR : (obj D [] [] none).R X.K F1 (.ref xo) [(xo, .ins D dx []), (dx, .own xo)] := ⟨xo, dx, [], [], rfl, (fun _ z => nomatch z), rfl, .nil, rfl, Ne.symm ne, (fun _ z => nomatch z), fun _ z => nomatch z⟩
  have y := (ok1.ext ex).push (v := .ref xo) hR fun a o z => by
    rcases List.mem_cons.mp z with z | z
    · cases z
      exact ⟨upd_same, ok1.ok.sub.free n1, ok1.base.free n1, fun j o' hm => by have := (ok1.ok.own j _ o' hm).1; rw [n1] at this; cases this⟩
    · have z : (a, o) = (dx, HO.own xo) := by simpa using z
      cases z
      exact ⟨by rw [upd_ne ne, upd_same], ok1.ok.sub.free n2, ok1.base.free n2, fun j o' hm => by have := (ok1.ok.own j _ o' hm).1; rw [n2] at this; cases this⟩
  refine spM_run (W := fun c _ H => W c σ H) (ix := [(0, none)]) i y ?_ hp hn (by simp) (fun S outs hS v F' H' M' m z hv hm => ?_) fun c outs hc F' H' M' z => ?_
  · rw [hi]
    exact ⟨⟨rfl, rfl, hR⟩, dvs.any⟩
  · obtain ⟨e1, ns, Ss, e2⟩ := hok S outs hS
    subst e1 e2
    obtain ⟨rfl, hv⟩ := hv
    have z : PInv X.K B F0 (some (obj D ns Ss none) :: ρ) F' (some (.ref xo) :: σ) H' M' := z
    obtain ⟨v', e', hR'⟩ := z.ok.at_ 0 _ rfl
    have e' : V.ref xo = v' := by simpa using e'
    subst e'
    exact ⟨dq_non hv, g1 (obj D ns Ss none) ρ ⟨rfl, .inl ⟨ns, Ss, hS, rfl⟩⟩ _ F' H' _ (M' 0) z.tail hR' fun a o h => ⟨(z.ok.own 0 a o h).1, (z.ok.own 0 a o h).2, z.mb 0 a o h, fun j o' h' => by have := z.ok.apart _ _ _ _ _ h h'; omega⟩⟩
  · obtain ⟨y0, e0⟩ := give_tail (S0 := some (obj D [] [] none)) (ρ := ρ) none outs
    rw [e0] at z
    exact g2 c ρ ⟨rfl, .inr ⟨c, outs, hc, rfl⟩⟩ F' H' _ z.tail
/-- X(e, ..): a new object -/
theorem evm_make {as : List Ar} (c : Ctx X C W k) (G : CalleeMk X.prog X.w X.K X.mg X.base j D x (spM X.K C n ins pre r)) (i : ι) (hp : pre i) (hi : ins i = .mu (objA D [] []) :: as) (ha : EvAM X W ρ (e :: es) as [])
    (hok : ∀ S outs, r i (.ok S) outs → S = fz .none ∧ ∃ ns Ss, outs = [objA D ns Ss]) (hj : j + 1 ≤ k := by decide) (hn : (ins i).length = n := by rfl)
    (hg : Gl X x := by rfl) (hdb : (x == ("__debug__" : Str)) = false := by decide) (he : starEach (e :: es) X.env = (false, eval e X.env) :: starEach es X.env := by rfl) (hpl : (backTo pos (starEach es X.env)).any (·.1) = false := by rfl) :
    EvM X W ρ (.Call (.Name x p) (e :: es) [] pos) (makeR D (r i) ρ) := by
  refine ⟨?_⟩
  intro pins s σ F H M B F0 Q I ok g1 g2
  obtain ⟨f, fd, ps, hF, hM, hb, hm⟩ := G
  refine (pe_makeSD (dvs := []) (E := WE (fun cls d σ H => ∃ c, cls = .ref (C c) ∧ d = none ∧ W c σ H)) hM hF (c.room.mono hj) hg hm hb .nil (fun σ => passAt c.tk σ) ha.pa hdb he hpl).run pins s σ H Q I ?_
  refine ⟨F, M, ok.ok, fun vs F1 H1 x1 dvs xo dx n1 n2 ne => ?_⟩
  rw [List.append_nil]
  exact make_run i (ok.ext x1) dvs hp hi hn hok n1 n2 ne g1 g2
theorem evm_make0 (c : Ctx X C W k) (G : CalleeMk X.prog X.w X.K X.mg X.base j D x (spM X.K C n ins pre r)) (i : ι) (hp : pre i) (hi : ins i = [.mu (objA D [] [])])
    (hok : ∀ S outs, r i (.ok S) outs → S = fz .none ∧ ∃ ns Ss, outs = [objA D ns Ss]) (hj : j + 1 ≤ k := by decide) (hn : (ins i).length = n := by rfl)
    (hg : Gl X x := by rfl) (hdb : (x == ("__debug__" : Str)) = false := by decide) : EvM X W ρ (.Call (.Name x p) [] [] pos) (makeR D (r i) ρ) := by
  refine ⟨?_⟩
  intro pins s σ F H M B F0 Q I ok g1 g2
  obtain ⟨f, fd, ps, hF, hM, hb, hm⟩ := G
  refine (pe_makeSD0 (dvs := []) (E := WE (fun cls d σ H => ∃ c, cls = .ref (C c) ∧ d = none ∧ W c σ H)) hM hF (c.room.mono hj) hg hm hb .nil (fun σ => passAt c.tk σ) hdb).run pins s σ H Q I ?_
  exact fun xo dx n1 n2 ne => make_run (as := []) i ok trivial hp hi hn hok n1 n2 ne g1 g2
end
end PV

/-! The pure-value layer: try .. except. -/
namespace PV
open PySem PySem.Spec PyProof.Rows L2
/-- what a suite is to reach (it raises nothing) -/
def suiteS (X : Cx) (W : Wc) (rest : List Stmt) (Φ : Out → Prop) : Out → Prop
  | .raise _ _ => False
  | o => thenS X W rest Φ o
abbrev noW : Wc := fun _ _ _ => False
/-- what is to hold where the class c is raised, the names as ρ tells -/
def HandP (X : Cx) (W : Wc) (C : Ec → Addr) (rest : List Stmt) (Φ : Out → Prop) : List (Addr × List Stmt) → Ec → Env → Prop
  | [], c, ρ => Φ (.raise c ρ)
  | (Dh, suite) :: r, c, ρ => ∃ b, PySem.W.exmOne X.K (.ref (C c)) (.ref Dh) = some b ∧ (b = true → ∀ a pn, Sxs (X.suite a pn) noW suite ρ (suiteS X W rest Φ)) ∧ (b = false → HandP X W C rest Φ r c ρ)
def tryS (X : Cx) (W : Wc) (C : Ec → Addr) (hs : List (Addr × List Stmt)) (rest : List Stmt) (Φ : Out → Prop) : Out → Prop
  | .raise c ρ => HandP X W C rest Φ hs c ρ
  | o => thenS X W rest Φ o
inductive HdS (X : Cx) : List ExceptHandler → List (Addr × List Stmt) → Prop
  | nil : HdS X [] []
  | cons {x : Str} {Dh : Addr} {b₀ : Stmt} {suite : List Stmt} {np pos' : Pos} {hds : List ExceptHandler} {l : List (Addr × List Stmt)} (hm : X.mg x = some (.ref Dh)) (r : HdS X hds l) (hg : Gl X x := by rfl) (hdb : (x == ("__debug__" : Str)) = false := by decide) :
      HdS X (.ExceptHandler (some (.Name x np)) none (b₀ :: suite) pos' :: hds) ((Dh, b₀ :: suite) :: l)
section
variable {X : Cx} {W : Wc} {ρ : Env} {C : Ec → Addr} {k : Nat} {rest : List Stmt} {Φ : Out → Prop} {pos : Pos}
def tSuite (X : Cx) (sts : List Stmt) : Addr → Value → Option Addr → TS := fun a _ _ D σ H => ∃ ρ Φ F M B F0, (∀ pn, Sxs (X.suite a pn) noW sts ρ Φ) ∧ PInv X.K B F0 ρ F σ H M ∧ (∀ o, Φ o → EndOk X.K noW B F0 D o)
theorem HdS.ok : ∀ {hds : List ExceptHandler} {l : List (Addr × List Stmt)}, HdS X hds l → HdsOk X hds (l.map fun q => (.ref q.1, tSuite X q.2))
  | _, _, .nil => .nil
  | _, _, .cons hm r hg hdb => .cons ⟨hg, hdb, .inl hm⟩ (fun a oe cls d pn hz hf => ⟨fun pins s σ H D I ⟨ρ, Φ, F, M, B, F0, h, ok, q⟩ => h ((a, oe) :: pn) pins s σ F H M B F0 D I ok q⟩) (HdS.ok r)
def tTryB (X : Cx) (C : Ec → Addr) (k : Nat) (sts : List Stmt) (W : WX) : TS := fun D σ H => ∃ ρ Φ F M B F0, (∀ (Wb : Wc) pn xe, Ctx (X.tr pn xe) C Wb k → Sxs (X.tr pn xe) Wb sts ρ Φ) ∧ PInv X.K B F0 ρ F σ H M ∧ (∀ o, Φ o → EndOk X.K (fun c σ H => W (.ref (C c)) none σ H) B F0 D o)
theorem sxs_try {body : List Stmt} {h₀ : ExceptHandler} {hds : List ExceptHandler} (hs : List (Addr × List Stmt)) (c : Ctx X C W k) (hh : HdS X (h₀ :: hds) hs)
    (hb : ∀ (Wb : Wc) pn xe, Ctx (X.tr pn xe) C Wb k → Sxs (X.tr pn xe) Wb body ρ (tryS X W C hs rest Φ))
    (e1 : X.stack = X.env :: X.outer := by rfl) (e2 : X.env.frame = some X.env.locals := by rfl) : Sxs X W (.Try body (h₀ :: hds) [] [] pos :: rest) ρ Φ := by
  refine sxs_of (ps_try_many e1 e2 c.tk (tb := tTryB X C k body) (fun W' pn xe tk po => ⟨fun pins s σ H D I ⟨ρ', Φ', F, M, B, F0, h, ok, q⟩ => ?_⟩) hh.ok) fun σ F H M B F0 D ok q => ?_
  · refine h _ pn xe ⟨c.calm, c.room, c.nd, po, tk.imp fun cls d σ H ⟨c', e1, e2, z⟩ => ?_⟩ pins s σ F H M B F0 D I ok q
    subst e1 e2
    exact z
  · refine ⟨ρ, tryS X W C hs rest Φ, F, M, B, F0, hb, ok, fun o ho => ?_⟩
    have go : ∀ (l : List (Addr × List Stmt)) (cl : Ec) (ρ' : Env), HandP X W C rest Φ l cl ρ' → ∀ F σ H M, PInv X.K B F0 ρ' F σ H M → wMany X.K (fun cls d σ H => ∃ c, cls = .ref (C c) ∧ d = none ∧ W c σ H) { D with nx := tSxs X W rest D } (l.map fun q => (.ref q.1, tSuite X q.2)) (.ref (C cl)) none σ H := by
      intro l
      induction l with
      | nil => exact fun cl ρ' h F σ H M y => ⟨cl, rfl, rfl, q _ h F σ H M y⟩
      | cons p l ih =>
        obtain ⟨Dh, suite⟩ := p
        rintro cl ρ' ⟨b, h1, h2, h3⟩ F σ H M y
        refine ⟨b, h1, fun hb a _ => ⟨ρ', _, F, M, B, F0, h2 hb a, y, fun o ho => ?_⟩, fun hb => ih cl ρ' (h3 hb) F σ H M y⟩
        cases o with
        | raise c' ρ2 => exact ho.elim
        | next ρ2 => exact thenS_ok q (.next ρ2) ho
        | ret S ρ2 => exact thenS_ok q (.ret S ρ2) ho
        | brk ρ2 => exact thenS_ok q (.brk ρ2) ho
        | cont ρ2 => exact thenS_ok q (.cont ρ2) ho
    cases o with
    | raise cl ρ' => exact fun F σ H M y => go hs cl ρ' ho F σ H M y
    | next ρ2 => exact thenS_ok q (.next ρ2) ho
    | ret S ρ2 => exact thenS_ok q (.ret S ρ2) ho
    | brk ρ2 => exact thenS_ok q (.brk ρ2) ho
    | cont ρ2 => exact thenS_ok q (.cont ρ2) ho
end
end PV

/-! The pure-value layer: methods and classes as data for the head. -/
namespace PV
open PySem PySem.Spec PyProof.Rows L2
/-- a method as a datum -/
def ddM (c m q : Str) (st : Stmt) : He.DefD := ⟨(c, some m), m, q, defArgs st, defBody st, defScope st, [], []⟩
section
variable {K : PySem.W.Frag} {mg : Str → Option Value} {h : Heap} {fa : List He.Fa} {fn : List He.DefD}
theorem fun_of (c : He.SaysD fa fn K) (i : Nat) {cl m q : Str} {st : Stmt} (h1 : fn[i]? = some (ddM cl m q st) := by rfl) : ∃ fd, Fun K m q st (He.ma K (He.ga K cl) m) fd := by
  obtain ⟨fd, F⟩ := c.def_ i h1
  obtain ⟨oc, od, dV, kV, doc, pm, an, cdv, ct, osl, e, lk, hc, hD, hK⟩ := F.ex
  have hd : dV = .none := by
    rcases hD with ⟨_, z⟩ | ⟨z, _⟩
    · exact z
    · exact absurd rfl z
  subst hd
  exact ⟨fd, ⟨⟨oc, od, kV, doc, pm, an, cdv, ct, osl, e, lk, hc⟩, F.kp⟩⟩
theorem dfm_of (c : He.SaysD fa fn K) (i j : Nat) {cl m q : Str} {st : Stmt} (h1 : fn[i]? = some (ddM cl m q st) := by rfl) (h2 : fa[j]? = some (.meth cl m) := by rfl) : DfMt K (He.ga K cl) m q st := by
  obtain ⟨fd, F⟩ := fun_of c i h1
  exact ⟨_, fd, F, He.meth_ok (c.fact j h2)⟩
/-- __init__ and its class -/
def DfMk (K : PySem.W.Frag) (mg : Str → Option Value) (D : Addr) (x q : Str) (st : Stmt) : Prop := ∃ f fd, Fun K "__init__" q st f fd ∧ Mk K D f ∧ mg x = some (.ref D)
theorem dfk_of (X : K.In h) (G : h.Ns mainGlobals mg) (c : He.SaysD fa fn K) (i j l : Nat) {cl q : Str} {st : Stmt} (h1 : fn[i]? = some (ddM cl "__init__" q st) := by rfl) (h2 : fa[j]? = some (.mkr cl) := by rfl) (h3 : fa[l]? = some (.glo cl) := by rfl) : DfMk K mg (He.ga K cl) cl q st := by
  obtain ⟨fd, F⟩ := fun_of c i h1
  exact ⟨_, fd, F, He.mkr_ok (c.fact j h2), He.glo_ok X G (c.fact l h3)⟩
/-- a class of errors -/
structure Exd (K : PySem.W.Frag) (mg : Str → Option Value) (D : Addr) (x : Str) : Prop where
  q : PySem.W.excIn K D He.veBase "ValueError.__new__" = true
  g : mg x = some (.ref D)
  k : PySem.W.keepIn K (.ref D) = true
  b : PySem.W.subIn K (.ref D) (.type "BaseException") = some true
  t : PySem.W.typeIn K (.ref D) = some (.type "type")
theorem exd_of (X : K.In h) (G : h.Ns mainGlobals mg) (c : He.SaysD fa fn K) (i j : Nat) {x : Str} (h1 : fa[i]? = some (.glo x) := by rfl) (h2 : fa[j]? = some (.exc x) := by rfl) : Exd K mg (He.ga K x) x := by
  obtain ⟨a, b, d, e⟩ := He.exc_ok (c.fact j h2)
  exact ⟨a, He.glo_ok X G (c.fact i h1), b, d, e⟩
end
section
variable {P : Program} {w : World} {K : PySem.W.Frag} {mg : Str → Option Value} {base : Heap} {C : Ec → Addr} {k : Nat} {x q : Str} {st : Stmt} {N ps : List Str} {ι : Type} {ins : ι → List Ar} {pre : ι → Prop} {r : ι → Except Ec Slot → List Asl → Prop} {D : Addr}
theorem callee_ofMk (Dm : DfMk K mg D x q st) (S : FnScope N ps (defScope st))
    (hb : ∀ (kV doc pm : Value) (an : Option Addr) (cdv ct : Value) (us : List Value), us.length = ps.length → bindArgs (PySem.W.fnOf "__init__" q (defArgs st) (defBody st) (defScope st) .none kV doc pm an cdv ct) ⟨us, []⟩ = pure (ps.zip us))
    (body : ∀ (f : Addr) (cdv : Value) (A : Around) (outer : List PySem.Env) (s : Shared) (H : Hp) (E : XK), Ctx (cxD P w K mg base N q st f cdv A outer s H E) C (fun c σ H => E (.ref (C c)) none H) k → ∀ i, pre i → ∀ ad : Nat → Addr,
      Sxs (cxD P w K mg base N q st f cdv A outer s H E) (fun c σ H => E (.ref (C c)) none H) (defBody st) (envIn ad 0 (ins i) ++ List.replicate (N.length - (ins i).length) none) (bodyM ad (muIx 0 (ins i)) (r i))) : CalleeMk P w K mg base (k + 1) D x (spM K C ps.length ins pre r) := by
  obtain ⟨f, fd, F, hm, g⟩ := Dm
  exact ⟨f, fd, ps, fnok_ofM F S body, hm, F.binds hb, g⟩
end
section
variable {X : Cx} {W : Wc} {ρ : Env} {C : Ec → Addr} {k : Nat} {rest : List Stmt} {Φ : Out → Prop} {pos : Pos}
/-- raise x('..') -/
theorem sxs_raiseD {cls m : Str} {jj : Nat} {p1 p2 p3 : Pos} (x : Ec) (c : Ctx X C W k) (d : Exd X.K X.mg (C x) cls) (h : Φ (.raise x ρ)) (hg : Gl X cls := by rfl) (hdb : (cls == ("__debug__" : Str)) = false := by decide) : Sxs X W (.Raise (some (.Call (.Name cls p1) [.Constant (.str m) jj p2] [] p3)) none pos :: rest) ρ Φ :=
  sxs_raise x c PySem.F.excBase_ValueError d.q d.g d.k d.b d.t h hg hdb
/-- a module's text, a module's number -/
theorem ev_gs {x z : Str} {p : Pos} (hm : ∃ t, X.mg x = some (.str z t)) (hg : Gl X x := by rfl) (hd : (x == ("__debug__" : Str)) = false := by decide) : Ev X W ρ (.Name x p) (.str z) := by
  obtain ⟨t, e⟩ := hm
  exact ev1_of (pe_glob (v := .str z) hg e ⟨t, rfl⟩ hd) fun σ F H M Q ok h => h _ F H (.refl ok.sub) (.str z)
theorem ev_gi {x : Str} {z : Int} {p : Pos} (hm : ∃ t, X.mg x = some (.int z t)) (hg : Gl X x := by rfl) (hd : (x == ("__debug__" : Str)) = false := by decide) : Ev X W ρ (.Name x p) (.int z) := by
  obtain ⟨t, e⟩ := hm
  exact ev1_of (pe_glob (v := .int z) hg e ⟨t, rfl⟩ hd) fun σ F H M Q ok h => h _ F H (.refl ok.sub) (.int z)
end
end PV

namespace Tl
open PySem PySem.Spec PyProof.Rows L2 PV
def top (i : Nat) : Stmt := PySem.Challenge.pw_trueleaf_k75_refused_once.main.body.getD i (.Pass ⟨0, 0, 0, 0⟩)
def inClass (s : Stmt) (j : Nat) : Stmt := match s with
  | .ClassDef _ _ _ b _ _ _ _ _ _ _ => b.getD j (.Pass ⟨0, 0, 0, 0⟩)
  | _ => .Pass ⟨0, 0, 0, 0⟩
abbrev s_wall : Stmt := top 0
theorem sc_wall : FnScope ["k"] ["k"] (defScope s_wall) := ⟨rfl, rfl, rfl, by decide +kernel, rfl, by decide +kernel, by decide +kernel⟩
abbrev s_check_form : Stmt := top 20
theorem sc_check_form : FnScope ["form", "wide", "high", "first", "most"] ["form"] (defScope s_check_form) := ⟨rfl, rfl, rfl, by decide +kernel, rfl, by decide +kernel, by decide +kernel⟩
abbrev s_is_saying : Stmt := top 21
theorem sc_is_saying : FnScope ["saying", "many", "kind", "thing"] ["saying", "many"] (defScope s_is_saying) := ⟨rfl, rfl, rfl, by decide +kernel, rfl, by decide +kernel, by decide +kernel⟩
abbrev s_is_word : Stmt := top 22
theorem sc_is_word : FnScope ["word", "many", "lead", "kept", "saying", "foot", "one"] ["word", "many"] (defScope s_is_word) := ⟨rfl, rfl, rfl, by decide +kernel, rfl, by decide +kernel, by decide +kernel⟩
abbrev s_book_of : Stmt := top 23
theorem sc_book_of : FnScope ["form", "words", "word"] ["form", "words"] (defScope s_book_of) := ⟨rfl, rfl, rfl, by decide +kernel, rfl, by decide +kernel, by decide +kernel⟩
abbrev s_words_in : Stmt := top 29
theorem sc_words_in : FnScope ["row", "word"] ["row"] (defScope s_words_in) := ⟨rfl, rfl, rfl, by decide +kernel, rfl, by decide +kernel, by decide +kernel⟩
abbrev s_is_name : Stmt := top 30
theorem sc_is_name : FnScope ["word", "sign"] ["word"] (defScope s_is_name) := ⟨rfl, rfl, rfl, by decide +kernel, rfl, by decide +kernel, by decide +kernel⟩
abbrev s_figures_of : Stmt := top 31
theorem sc_figures_of : FnScope ["number"] ["number"] (defScope s_figures_of) := ⟨rfl, rfl, rfl, by decide +kernel, rfl, by decide +kernel, by decide +kernel⟩
abbrev s_kind_of : Stmt := top 32
theorem sc_kind_of : FnScope ["word", "rest", "sign", "kind"] ["word"] (defScope s_kind_of) := ⟨rfl, rfl, rfl, by decide +kernel, rfl, by decide +kernel, by decide +kernel⟩
abbrev s_rows_in : Stmt := top 35
theorem sc_rows_in : FnScope ["text"] ["text"] (defScope s_rows_in) := ⟨rfl, rfl, rfl, by decide +kernel, rfl, by decide +kernel, by decide +kernel⟩
abbrev s_is_use : Stmt := top 36
theorem sc_is_use : FnScope ["row", "words"] ["row"] (defScope s_is_use) := ⟨rfl, rfl, rfl, by decide +kernel, rfl, by decide +kernel, by decide +kernel⟩
abbrev s_brought_by : Stmt := top 37
theorem sc_brought_by : FnScope ["row", "words"] ["row"] (defScope s_brought_by) := ⟨rfl, rfl, rfl, by decide +kernel, rfl, by decide +kernel, by decide +kernel⟩
abbrev s_look_through : Stmt := top 38
theorem sc_look_through : FnScope ["parts", "path", "done", "row", "other"] ["parts", "path", "done"] (defScope s_look_through) := ⟨rfl, rfl, rfl, by decide +kernel, rfl, by decide +kernel, by decide +kernel⟩
abbrev s_count_rows : Stmt := top 39
theorem sc_count_rows : FnScope ["parts", "name", "counts", "many", "row"] ["parts", "name", "counts"] (defScope s_count_rows) := ⟨rfl, rfl, rfl, by decide +kernel, rfl, by decide +kernel, by decide +kernel⟩
abbrev s_rows_of : Stmt := top 40
theorem sc_rows_of : FnScope ["parts", "name", "found", "k", "row"] ["parts", "name"] (defScope s_rows_of) := ⟨rfl, rfl, rfl, by decide +kernel, rfl, by decide +kernel, by decide +kernel⟩
abbrev s_joined : Stmt := top 41
theorem sc_joined : FnScope ["parts", "name"] ["parts", "name"] (defScope s_joined) := ⟨rfl, rfl, rfl, by decide +kernel, rfl, by decide +kernel, by decide +kernel⟩
abbrev s_numbers_of : Stmt := top 43
theorem sc_numbers_of : FnScope ["levels", "counters", "found", "level", "one"] ["levels"] (defScope s_numbers_of) := ⟨rfl, rfl, rfl, by decide +kernel, rfl, by decide +kernel, by decide +kernel⟩
abbrev s_short_of : Stmt := top 48
theorem sc_short_of : FnScope ["shorts", "name", "short"] ["shorts", "name"] (defScope s_short_of) := ⟨rfl, rfl, rfl, by decide +kernel, rfl, by decide +kernel, by decide +kernel⟩
abbrev s_check_calls : Stmt := top 49
theorem sc_check_calls : FnScope ["shorts", "nodes", "node", "short", "argument"] ["shorts", "nodes"] (defScope s_check_calls) := ⟨rfl, rfl, rfl, by decide +kernel, rfl, by decide +kernel, by decide +kernel⟩
abbrev s_size_in : Stmt := top 50
theorem sc_size_in : FnScope ["shorts", "nodes", "count", "row", "calls", "node", "short", "k", "argument", "inner", "inner_calls", "times", "one", "other"] ["shorts", "nodes", "count"] (defScope s_size_in) := ⟨rfl, rfl, rfl, by decide +kernel, rfl, by decide +kernel, by decide +kernel⟩
abbrev s_size_of : Stmt := top 51
theorem sc_size_of : FnScope ["shorts", "nodes", "count"] ["shorts", "nodes", "count"] (defScope s_size_of) := ⟨rfl, rfl, rfl, by decide +kernel, rfl, by decide +kernel, by decide +kernel⟩
abbrev s_places_in : Stmt := top 52
theorem sc_places_in : FnScope ["nodes", "found", "node", "argument"] ["nodes"] (defScope s_places_in) := ⟨rfl, rfl, rfl, by decide +kernel, rfl, by decide +kernel, by decide +kernel⟩
abbrev s_filled : Stmt := top 53
theorem sc_filled : FnScope ["nodes", "given", "found", "node", "argument"] ["nodes", "given"] (defScope s_filled) := ⟨rfl, rfl, rfl, by decide +kernel, rfl, by decide +kernel, by decide +kernel⟩
abbrev s_new_short : Stmt := top 54
theorem sc_new_short : FnScope ["shorts", "name", "count", "nodes", "row", "calls", "there", "place"] ["shorts", "name", "count", "nodes"] (defScope s_new_short) := ⟨rfl, rfl, rfl, by decide +kernel, rfl, by decide +kernel, by decide +kernel⟩
abbrev s_words_out : Stmt := top 55
theorem sc_words_out : FnScope ["shorts", "nodes", "given", "words", "node", "short", "inner", "argument"] ["shorts", "nodes", "given"] (defScope s_words_out) := ⟨rfl, rfl, rfl, by decide +kernel, rfl, by decide +kernel, by decide +kernel⟩
abbrev s_put_out : Stmt := top 56
theorem sc_put_out : FnScope ["shorts", "nodes", "row", "calls"] ["shorts", "nodes"] (defScope s_put_out) := ⟨rfl, rfl, rfl, by decide +kernel, rfl, by decide +kernel, by decide +kernel⟩
abbrev s_opens : Stmt := top 59
theorem sc_opens : FnScope ["word"] ["word"] (defScope s_opens) := ⟨rfl, rfl, rfl, by decide +kernel, rfl, by decide +kernel, by decide +kernel⟩
abbrev s_place_in : Stmt := top 60
theorem sc_place_in : FnScope ["word", "count", "place"] ["word", "count"] (defScope s_place_in) := ⟨rfl, rfl, rfl, by decide +kernel, rfl, by decide +kernel, by decide +kernel⟩
abbrev s_put_node : Stmt := top 61
theorem sc_put_node : FnScope ["top", "opened", "node", "arguments"] ["top", "opened", "node"] (defScope s_put_node) := ⟨rfl, rfl, rfl, by decide +kernel, rfl, by decide +kernel, by decide +kernel⟩
abbrev s_part_argument : Stmt := top 62
theorem sc_part_argument : FnScope ["opened", "arguments"] ["opened"] (defScope s_part_argument) := ⟨rfl, rfl, rfl, by decide +kernel, rfl, by decide +kernel, by decide +kernel⟩
abbrev s_tree_of : Stmt := top 63
theorem sc_tree_of : FnScope ["words", "count", "top", "opened", "word", "name", "arguments", "place"] ["words", "count"] (defScope s_tree_of) := ⟨rfl, rfl, rfl, by decide +kernel, rfl, by decide +kernel, by decide +kernel⟩
abbrev s_read_out : Stmt := top 69
theorem sc_read_out : FnScope ["shorts", "words", "barred", "found", "word", "kind", "rest"] ["shorts", "words", "barred"] (defScope s_read_out) := ⟨rfl, rfl, rfl, by decide +kernel, rfl, by decide +kernel, by decide +kernel⟩
abbrev s_Reading___init__ : Stmt := inClass (top 70) 0
theorem sc_Reading___init__ : FnScope ["self"] ["self"] (defScope s_Reading___init__) := ⟨rfl, rfl, rfl, by decide +kernel, rfl, by decide +kernel, by decide +kernel⟩
abbrev s_Reading_read_short : Stmt := inClass (top 70) 1
theorem sc_Reading_read_short : FnScope ["self", "words", "count", "short"] ["self", "words"] (defScope s_Reading_read_short) := ⟨rfl, rfl, rfl, by decide +kernel, rfl, by decide +kernel, by decide +kernel⟩
abbrev s_Reading_read_foot : Stmt := inClass (top 70) 2
theorem sc_Reading_read_foot : FnScope ["self", "words", "found"] ["self", "words"] (defScope s_Reading_read_foot) := ⟨rfl, rfl, rfl, by decide +kernel, rfl, by decide +kernel, by decide +kernel⟩
abbrev s_Reading_put_thing : Stmt := inClass (top 70) 3
theorem sc_Reading_put_thing : FnScope ["self", "kind", "level", "words"] ["self", "kind", "level", "words"] (defScope s_Reading_put_thing) := ⟨rfl, rfl, rfl, by decide +kernel, rfl, by decide +kernel, by decide +kernel⟩
abbrev s_Reading_read_words : Stmt := inClass (top 70) 4
theorem sc_Reading_read_words : FnScope ["self", "words", "found"] ["self", "words"] (defScope s_Reading_read_words) := ⟨rfl, rfl, rfl, by decide +kernel, rfl, by decide +kernel, by decide +kernel⟩
abbrev s_Reading_read : Stmt := inClass (top 70) 5
theorem sc_Reading_read : FnScope ["self", "row", "words"] ["self", "row"] (defScope s_Reading_read) := ⟨rfl, rfl, rfl, by decide +kernel, rfl, by decide +kernel, by decide +kernel⟩
abbrev s_Setting___init__ : Stmt := inClass (top 74) 0
theorem sc_Setting___init__ : FnScope ["self", "feet", "titles"] ["self", "feet", "titles"] (defScope s_Setting___init__) := ⟨rfl, rfl, rfl, by decide +kernel, rfl, by decide +kernel, by decide +kernel⟩
abbrev s_Setting_put_word : Stmt := inClass (top 74) 1
theorem sc_Setting_put_word : FnScope ["self", "lead", "kept", "read", "foot", "name"] ["self", "lead", "kept", "read", "foot"] (defScope s_Setting_put_word) := ⟨rfl, rfl, rfl, by decide +kernel, rfl, by decide +kernel, by decide +kernel⟩
abbrev s_Setting_put_mark : Stmt := inClass (top 74) 2
theorem sc_Setting_put_mark : FnScope ["self", "name"] ["self", "name"] (defScope s_Setting_put_mark) := ⟨rfl, rfl, rfl, by decide +kernel, rfl, by decide +kernel, by decide +kernel⟩
abbrev s_Setting_put_all : Stmt := inClass (top 74) 3
theorem sc_Setting_put_all : FnScope ["self", "words", "lead", "kept", "kind", "rest"] ["self", "words", "lead", "kept"] (defScope s_Setting_put_all) := ⟨rfl, rfl, rfl, by decide +kernel, rfl, by decide +kernel, by decide +kernel⟩
abbrev s_Setting_put_paragraph : Stmt := inClass (top 74) 4
theorem sc_Setting_put_paragraph : FnScope ["self", "words", "ahead", "lead"] ["self", "words"] (defScope s_Setting_put_paragraph) := ⟨rfl, rfl, rfl, by decide +kernel, rfl, by decide +kernel, by decide +kernel⟩
abbrev s_Setting_put_head : Stmt := inClass (top 74) 5
theorem sc_Setting_put_head : FnScope ["self", "number", "words"] ["self"] (defScope s_Setting_put_head) := ⟨rfl, rfl, rfl, by decide +kernel, rfl, by decide +kernel, by decide +kernel⟩
abbrev s_Setting_put_list : Stmt := inClass (top 74) 6
theorem sc_Setting_put_list : FnScope ["self", "k", "title", "lead", "word"] ["self"] (defScope s_Setting_put_list) := ⟨rfl, rfl, rfl, by decide +kernel, rfl, by decide +kernel, by decide +kernel⟩
abbrev s_Setting_put_thing_set : Stmt := inClass (top 74) 7
theorem sc_Setting_put_thing_set : FnScope ["self", "kind", "words"] ["self", "kind", "words"] (defScope s_Setting_put_thing_set) := ⟨rfl, rfl, rfl, by decide +kernel, rfl, by decide +kernel, by decide +kernel⟩
abbrev s_number_at : Stmt := top 75
theorem sc_number_at : FnScope ["heads", "k", "found", "number", "at"] ["heads", "k"] (defScope s_number_at) := ⟨rfl, rfl, rfl, by decide +kernel, rfl, by decide +kernel, by decide +kernel⟩
abbrev s_saying_of : Stmt := top 76
theorem sc_saying_of : FnScope ["read", "marks", "heads", "kind", "rest"] ["read", "marks", "heads"] (defScope s_saying_of) := ⟨rfl, rfl, rfl, by decide +kernel, rfl, by decide +kernel, by decide +kernel⟩
abbrev s_check_pointing : Stmt := top 77
theorem sc_check_pointing : FnScope ["marks", "words", "kind", "rest"] ["marks", "words"] (defScope s_check_pointing) := ⟨rfl, rfl, rfl, by decide +kernel, rfl, by decide +kernel, by decide +kernel⟩
abbrev s_sayings_of_foot : Stmt := top 78
theorem sc_sayings_of_foot : FnScope ["read", "words", "marks", "heads", "one"] ["read", "words", "marks", "heads"] (defScope s_sayings_of_foot) := ⟨rfl, rfl, rfl, by decide +kernel, rfl, by decide +kernel, by decide +kernel⟩
abbrev s_set_words : Stmt := top 79
theorem sc_set_words : FnScope ["rows", "form", "told", "row", "titles", "numbers", "now", "kind", "level", "words", "name", "heads", "set_in_order", "lead", "kept", "read", "foot", "hung", "thing", "number", "at", "title", "word"] ["rows", "form"] (defScope s_set_words) := ⟨rfl, rfl, rfl, by decide +kernel, rfl, by decide +kernel, by decide +kernel⟩
abbrev s_is_later : Stmt := top 81
theorem sc_is_later : FnScope ["one", "other"] ["one", "other"] (defScope s_is_later) := ⟨rfl, rfl, rfl, by decide +kernel, rfl, by decide +kernel, by decide +kernel⟩
abbrev s_later : Stmt := top 82
theorem sc_later : FnScope ["one", "other"] ["one", "other"] (defScope s_later) := ⟨rfl, rfl, rfl, by decide +kernel, rfl, by decide +kernel, by decide +kernel⟩
abbrev s_is_odd : Stmt := top 83
theorem sc_is_odd : FnScope ["form", "page"] ["form", "page"] (defScope s_is_odd) := ⟨rfl, rfl, rfl, by decide +kernel, rfl, by decide +kernel, by decide +kernel⟩
abbrev s_rows_on : Stmt := top 84
theorem sc_rows_on : FnScope ["form", "place", "many"] ["form", "place", "many"] (defScope s_rows_on) := ⟨rfl, rfl, rfl, by decide +kernel, rfl, by decide +kernel, by decide +kernel⟩
abbrev s_behind : Stmt := top 85
theorem sc_behind : FnScope ["form", "place", "lead", "page"] ["form", "place", "lead"] (defScope s_behind) := ⟨rfl, rfl, rfl, by decide +kernel, rfl, by decide +kernel, by decide +kernel⟩
abbrev s_first_from : Stmt := top 86
theorem sc_first_from : FnScope ["form", "place", "lead"] ["form", "place", "lead"] (defScope s_first_from) := ⟨rfl, rfl, rfl, by decide +kernel, rfl, by decide +kernel, by decide +kernel⟩
abbrev s_said : Stmt := top 88
theorem sc_said : FnScope ["form", "saying", "places", "kind", "thing", "page", "row"] ["form", "saying", "places"] (defScope s_said) := ⟨rfl, rfl, rfl, by decide +kernel, rfl, by decide +kernel, by decide +kernel⟩
abbrev s_wide_of : Stmt := top 89
theorem sc_wide_of : FnScope ["form", "saying", "places"] ["form", "saying", "places"] (defScope s_wide_of) := ⟨rfl, rfl, rfl, by decide +kernel, rfl, by decide +kernel, by decide +kernel⟩
abbrev s_foot_rows : Stmt := top 90
theorem sc_foot_rows : FnScope ["form", "foot", "places", "rows", "saying", "text"] ["form", "foot", "places"] (defScope s_foot_rows) := ⟨rfl, rfl, rfl, by decide +kernel, rfl, by decide +kernel, by decide +kernel⟩
abbrev s_foot_high : Stmt := top 91
theorem sc_foot_high : FnScope ["form", "foot", "places", "rows", "row"] ["form", "foot", "places"] (defScope s_foot_high) := ⟨rfl, rfl, rfl, by decide +kernel, rfl, by decide +kernel, by decide +kernel⟩
abbrev s_first_bounds : Stmt := top 93
theorem sc_first_bounds : FnScope ["book", "word"] ["book"] (defScope s_first_bounds) := ⟨rfl, rfl, rfl, by decide +kernel, rfl, by decide +kernel, by decide +kernel⟩
abbrev s_by_ahead : Stmt := top 94
theorem sc_by_ahead : FnScope ["book", "low", "i", "j", "lead", "spot"] ["book", "low", "i", "j"] (defScope s_by_ahead) := ⟨rfl, rfl, rfl, by decide +kernel, rfl, by decide +kernel, by decide +kernel⟩
abbrev s_by_width : Stmt := top 95
theorem sc_by_width : FnScope ["book", "low", "i", "j", "form", "width", "word"] ["book", "low", "i", "j"] (defScope s_by_width) := ⟨rfl, rfl, rfl, by decide +kernel, rfl, by decide +kernel, by decide +kernel⟩
abbrev s_by_height : Stmt := top 96
theorem sc_by_height : FnScope ["book", "low", "i", "j", "form", "height", "word"] ["book", "low", "i", "j"] (defScope s_by_height) := ⟨rfl, rfl, rfl, by decide +kernel, rfl, by decide +kernel, by decide +kernel⟩
abbrev s_by_next : Stmt := top 97
theorem sc_by_next : FnScope ["book", "low", "i", "j"] ["book", "low", "i", "j"] (defScope s_by_next) := ⟨rfl, rfl, rfl, by decide +kernel, rfl, by decide +kernel, by decide +kernel⟩
abbrev s_by_itself : Stmt := top 98
theorem sc_by_itself : FnScope ["book", "low", "i", "j", "form", "word"] ["book", "low", "i", "j"] (defScope s_by_itself) := ⟨rfl, rfl, rfl, by decide +kernel, rfl, by decide +kernel, by decide +kernel⟩
abbrev s_reach : Stmt := top 99
theorem sc_reach : FnScope ["book", "low", "kind", "i", "j", "spot"] ["book", "low", "kind", "i", "j"] (defScope s_reach) := ⟨rfl, rfl, rfl, by decide +kernel, rfl, by decide +kernel, by decide +kernel⟩
abbrev s_lift : Stmt := top 101
theorem sc_lift : FnScope ["book", "now", "paper", "kind", "i", "j", "spot"] ["book", "now", "paper", "kind", "i", "j"] (defScope s_lift) := ⟨rfl, rfl, rfl, by decide +kernel, rfl, by decide +kernel, by decide +kernel⟩
abbrev s_lift_back : Stmt := top 102
theorem sc_lift_back : FnScope ["book", "now", "paper", "i", "at"] ["book", "now", "paper", "i"] (defScope s_lift_back) := ⟨rfl, rfl, rfl, by decide +kernel, rfl, by decide +kernel, by decide +kernel⟩
abbrev s_sweep : Stmt := top 103
theorem sc_sweep : FnScope ["book", "now", "paper", "form", "row_at", "page_at", "width", "height", "i", "wide", "foot"] ["book", "now", "paper"] (defScope s_sweep) := ⟨rfl, rfl, rfl, by decide +kernel, rfl, by decide +kernel, by decide +kernel⟩
abbrev s_is_beyond : Stmt := top 104
theorem sc_is_beyond : FnScope ["book", "now", "spot"] ["book", "now"] (defScope s_is_beyond) := ⟨rfl, rfl, rfl, by decide +kernel, rfl, by decide +kernel, by decide +kernel⟩
abbrev s_settle : Stmt := top 105
theorem sc_settle : FnScope ["book", "low", "now", "paper", "many"] ["book", "low"] (defScope s_settle) := ⟨rfl, rfl, rfl, by decide +kernel, rfl, by decide +kernel, by decide +kernel⟩
abbrev s_body_rows : Stmt := top 107
theorem sc_body_rows : FnScope ["book", "places", "rows", "k", "word", "place", "text"] ["book", "places"] (defScope s_body_rows) := ⟨rfl, rfl, rfl, by decide +kernel, rfl, by decide +kernel, by decide +kernel⟩
abbrev s_feet_rows : Stmt := top 108
theorem sc_feet_rows : FnScope ["book", "places", "rows", "k", "word", "page"] ["book", "places"] (defScope s_feet_rows) := ⟨rfl, rfl, rfl, by decide +kernel, rfl, by decide +kernel, by decide +kernel⟩
abbrev s_pages_of : Stmt := top 109
theorem sc_pages_of : FnScope ["book", "places", "form", "body", "feet", "pages", "page", "last", "rows", "row"] ["book", "places"] (defScope s_pages_of) := ⟨rfl, rfl, rfl, by decide +kernel, rfl, by decide +kernel, by decide +kernel⟩
abbrev s_tell_pages : Stmt := top 110
theorem sc_tell_pages : FnScope ["parts", "name", "form", "rows", "book", "places", "told"] ["parts", "name", "form"] (defScope s_tell_pages) := ⟨rfl, rfl, rfl, by decide +kernel, rfl, by decide +kernel, by decide +kernel⟩
abbrev s_Desk___init__ : Stmt := inClass (top 112) 0
theorem sc_Desk___init__ : FnScope ["self", "form"] ["self", "form"] (defScope s_Desk___init__) := ⟨rfl, rfl, rfl, by decide +kernel, rfl, by decide +kernel, by decide +kernel⟩
abbrev s_Desk_settled_on : Stmt := inClass (top 112) 1
theorem sc_Desk_settled_on : FnScope ["self", "parts"] ["self", "parts"] (defScope s_Desk_settled_on) := ⟨rfl, rfl, rfl, by decide +kernel, rfl, by decide +kernel, by decide +kernel⟩
abbrev s_Desk_rows_of : Stmt := inClass (top 112) 2
theorem sc_Desk_rows_of : FnScope ["self", "name"] ["self", "name"] (defScope s_Desk_rows_of) := ⟨rfl, rfl, rfl, by decide +kernel, rfl, by decide +kernel, by decide +kernel⟩
abbrev s_Desk_put_part : Stmt := inClass (top 112) 3
theorem sc_Desk_put_part : FnScope ["self", "name", "text", "parts"] ["self", "name", "text"] (defScope s_Desk_put_part) := ⟨rfl, rfl, rfl, by decide +kernel, rfl, by decide +kernel, by decide +kernel⟩
abbrev s_Desk_drop_part : Stmt := inClass (top 112) 4
theorem sc_Desk_drop_part : FnScope ["self", "name", "parts"] ["self", "name"] (defScope s_Desk_drop_part) := ⟨rfl, rfl, rfl, by decide +kernel, rfl, by decide +kernel, by decide +kernel⟩
abbrev s_Desk_put_row : Stmt := inClass (top 112) 5
theorem sc_Desk_put_row : FnScope ["self", "name", "at", "row", "rows", "parts"] ["self", "name", "at", "row"] (defScope s_Desk_put_row) := ⟨rfl, rfl, rfl, by decide +kernel, rfl, by decide +kernel, by decide +kernel⟩
abbrev s_Desk_cut_row : Stmt := inClass (top 112) 6
theorem sc_Desk_cut_row : FnScope ["self", "name", "at", "rows", "parts"] ["self", "name", "at"] (defScope s_Desk_cut_row) := ⟨rfl, rfl, rfl, by decide +kernel, rfl, by decide +kernel, by decide +kernel⟩
abbrev s_Desk_undo : Stmt := inClass (top 112) 7
theorem sc_Desk_undo : FnScope ["self"] ["self"] (defScope s_Desk_undo) := ⟨rfl, rfl, rfl, by decide +kernel, rfl, by decide +kernel, by decide +kernel⟩
abbrev s_Desk_shelf : Stmt := inClass (top 112) 8
theorem sc_Desk_shelf : FnScope ["self"] ["self"] (defScope s_Desk_shelf) := ⟨rfl, rfl, rfl, by decide +kernel, rfl, by decide +kernel, by decide +kernel⟩
abbrev s_Desk_tell : Stmt := inClass (top 112) 9
theorem sc_Desk_tell : FnScope ["self"] ["self"] (defScope s_Desk_tell) := ⟨rfl, rfl, rfl, by decide +kernel, rfl, by decide +kernel, by decide +kernel⟩
abbrev s_Desk_issue : Stmt := inClass (top 112) 10
theorem sc_Desk_issue : FnScope ["self"] ["self"] (defScope s_Desk_issue) := ⟨rfl, rfl, rfl, by decide +kernel, rfl, by decide +kernel, by decide +kernel⟩
abbrev s_law_cell_at : Stmt := top 114
theorem sc_law_cell_at : FnScope ["script", "k"] ["script", "k"] (defScope s_law_cell_at) := ⟨rfl, rfl, rfl, by decide +kernel, rfl, by decide +kernel, by decide +kernel⟩
abbrev s_law_mixed : Stmt := top 115
theorem sc_law_mixed : FnScope ["cell"] ["cell"] (defScope s_law_mixed) := ⟨rfl, rfl, rfl, by decide +kernel, rfl, by decide +kernel, by decide +kernel⟩
abbrev s_law_done : Stmt := top 116
theorem sc_law_done : FnScope ["desk", "deed", "kind", "name", "at", "text"] ["desk", "deed"] (defScope s_law_done) := ⟨rfl, rfl, rfl, by decide +kernel, rfl, by decide +kernel, by decide +kernel⟩
abbrev s_law_refused : Stmt := top 117
theorem sc_law_refused : FnScope ["desk", "deed", "kinds", "e"] ["desk", "deed"] (defScope s_law_refused) := ⟨rfl, rfl, rfl, by decide +kernel, rfl, by decide +kernel, by decide +kernel⟩
abbrev s_law_case : Stmt := top 118
theorem sc_law_case : FnScope ["kind", "number", "some", "far", "away"] ["kind", "number"] (defScope s_law_case) := ⟨rfl, rfl, rfl, by decide +kernel, rfl, by decide +kernel, by decide +kernel⟩
abbrev s_law_opened : Stmt := top 119
theorem sc_law_opened : FnScope ["kind", "form", "desk", "k"] ["kind", "form"] (defScope s_law_opened) := ⟨rfl, rfl, rfl, by decide +kernel, rfl, by decide +kernel, by decide +kernel⟩
abbrev s_law_form_refused : Stmt := top 120
theorem sc_law_form_refused : FnScope ["form", "word"] ["form"] (defScope s_law_form_refused) := ⟨rfl, rfl, rfl, by decide +kernel, rfl, by decide +kernel, by decide +kernel⟩
abbrev s_law_bad_form : Stmt := top 121
theorem sc_law_bad_form : FnScope ["number", "far", "form", "k", "step"] ["number", "far"] (defScope s_law_bad_form) := ⟨rfl, rfl, rfl, by decide +kernel, rfl, by decide +kernel, by decide +kernel⟩
abbrev s_law : Stmt := top 122
theorem sc_law : FnScope ["script", "form", "cell", "number", "kind", "due", "good", "deed", "desk", "ahead", "step", "k"] ["script"] (defScope s_law) := ⟨rfl, rfl, rfl, by decide +kernel, rfl, by decide +kernel, by decide +kernel⟩
def fns : List He.DefD := [dd "check_form" s_check_form, dd "is_name" s_is_name, dd "rows_in" s_rows_in, dd "_law_mixed" s_law_mixed, dd "_law_done" s_law_done, dd "_law_refused" s_law_refused, dd "_law_case" s_law_case, dd "_law_opened" s_law_opened, dd "_law_form_refused" s_law_form_refused, dd "_law_bad_form" s_law_bad_form, dd "law" s_law, ddM "Desk" "__init__" "Desk.__init__" s_Desk___init__, ddM "Desk" "settled_on" "Desk.settled_on" s_Desk_settled_on, ddM "Desk" "rows_of" "Desk.rows_of" s_Desk_rows_of, ddM "Desk" "put_part" "Desk.put_part" s_Desk_put_part, ddM "Desk" "drop_part" "Desk.drop_part" s_Desk_drop_part, ddM "Desk" "put_row" "Desk.put_row" s_Desk_put_row, ddM "Desk" "cut_row" "Desk.cut_row" s_Desk_cut_row, ddM "Desk" "undo" "Desk.undo" s_Desk_undo, ddM "Desk" "shelf" "Desk.shelf" s_Desk_shelf]
def glos : List He.Fa := [.glo "check_form", .glo "is_name", .glo "rows_in", .glo "_law_mixed", .glo "_law_done", .glo "_law_refused", .glo "_law_case", .glo "_law_opened", .glo "_law_form_refused", .glo "_law_bad_form", .glo "law", .glo "Desk", .cls "Desk", .mkr "Desk", .noat "Desk" "form", .noat "Desk" "now", .noat "Desk" "elder", .noat "Desk" "issued", .meth "Desk" "__init__", .meth "Desk" "settled_on", .meth "Desk" "rows_of", .meth "Desk" "put_part", .meth "Desk" "drop_part", .meth "Desk" "put_row", .meth "Desk" "cut_row", .meth "Desk" "undo", .meth "Desk" "shelf", .glo "NoPart", .exc "NoPart", .glo "TooLong", .exc "TooLong", .glo "BadForm", .exc "BadForm", .glo "Twice", .exc "Twice", .glo "BadName", .exc "BadName", .glo "NoRow", .exc "NoRow", .glo "NothingDone", .exc "NothingDone", .glo "TrueleafError", .free "ValueError", .exm "BadForm" "BadForm" true, .exm "BadName" "TrueleafError" true, .exm "NoPart" "TrueleafError" true, .exm "NoRow" "TrueleafError" true, .exm "Twice" "TrueleafError" true, .exm "TooLong" "TrueleafError" true, .exm "NothingDone" "TrueleafError" true, .str "SMALL" "abcdefghijklmnopqrstuvwxyz", .str "FIGURES" "0123456789", .int "LONGEST" 12]
-- def 0 check_form
-- def 1 is_name
-- def 2 rows_in
-- def 3 _law_mixed
-- def 4 _law_done
-- def 5 _law_refused
-- def 6 _law_case
-- def 7 _law_opened
-- def 8 _law_form_refused
-- def 9 _law_bad_form
-- def 10 law
-- def 11 Desk.__init__
-- def 12 Desk.settled_on
-- def 13 Desk.rows_of
-- def 14 Desk.put_part
-- def 15 Desk.drop_part
-- def 16 Desk.put_row
-- def 17 Desk.cut_row
-- def 18 Desk.undo
-- def 19 Desk.shelf
-- fact 0 .glo "check_form"
-- fact 1 .glo "is_name"
-- fact 2 .glo "rows_in"
-- fact 3 .glo "_law_mixed"
-- fact 4 .glo "_law_done"
-- fact 5 .glo "_law_refused"
-- fact 6 .glo "_law_case"
-- fact 7 .glo "_law_opened"
-- fact 8 .glo "_law_form_refused"
-- fact 9 .glo "_law_bad_form"
-- fact 10 .glo "law"
-- fact 11 .glo "Desk"
-- fact 12 .cls "Desk"
-- fact 13 .mkr "Desk"
-- fact 14 .noat "Desk" "form"
-- fact 15 .noat "Desk" "now"
-- fact 16 .noat "Desk" "elder"
-- fact 17 .noat "Desk" "issued"
-- fact 18 .meth "Desk" "__init__"
-- fact 19 .meth "Desk" "settled_on"
-- fact 20 .meth "Desk" "rows_of"
-- fact 21 .meth "Desk" "put_part"
-- fact 22 .meth "Desk" "drop_part"
-- fact 23 .meth "Desk" "put_row"
-- fact 24 .meth "Desk" "cut_row"
-- fact 25 .meth "Desk" "undo"
-- fact 26 .meth "Desk" "shelf"
-- fact 27 .glo "NoPart"
-- fact 28 .exc "NoPart"
-- fact 29 .glo "TooLong"
-- fact 30 .exc "TooLong"
-- fact 31 .glo "BadForm"
-- fact 32 .exc "BadForm"
-- fact 33 .glo "Twice"
-- fact 34 .exc "Twice"
-- fact 35 .glo "BadName"
-- fact 36 .exc "BadName"
-- fact 37 .glo "NoRow"
-- fact 38 .exc "NoRow"
-- fact 39 .glo "NothingDone"
-- fact 40 .exc "NothingDone"
-- fact 41 .glo "TrueleafError"
-- fact 42 .free "ValueError"
-- fact 43 .exm "BadForm" "BadForm" true
-- fact 44 .exm "BadName" "TrueleafError" true
-- fact 45 .exm "NoPart" "TrueleafError" true
-- fact 46 .exm "NoRow" "TrueleafError" true
-- fact 47 .exm "Twice" "TrueleafError" true
-- fact 48 .exm "TooLong" "TrueleafError" true
-- fact 49 .exm "NothingDone" "TrueleafError" true
-- fact 50 .str "SMALL" "abcdefghijklmnopqrstuvwxyz"
-- fact 51 .str "FIGURES" "0123456789"
-- fact 52 .int "LONGEST" 12
def loose0 : List Str := ["_wall", "__name__", "TrueleafError", "BadRow", "NoPart", "Ring", "TooLong", "BadCall", "Deep", "NoShort", "BadForm", "BadWord", "Twice", "NoFoot", "NoMark", "NoLaying", "BadName", "NoRow", "NothingDone", "check_form"]
def loose1 : List Str := ["is_saying", "is_word", "book_of", "SMALL", "FIGURES", "LONGEST", "HEADS", "words_in", "is_name", "figures_of", "kind_of", "MOST_ROWS", "rows_in", "is_use", "brought_by", "look_through", "count_rows", "rows_of", "joined", "numbers_of"]
def loose2 : List Str := ["MOST_WORDS", "MOST_CALLS", "MOST_CALLS_OF_ONE", "short_of", "check_calls", "size_in", "size_of", "places_in", "filled", "new_short", "words_out", "put_out", "DEEPEST", "opens", "place_in", "put_node", "part_argument", "tree_of", "MOST_SIGNS", "MOST_OF_FOOT"]
def loose3 : List Str := ["ALONE", "LEVELS", "read_out", "Reading", "MOST_SET", "POINTING", "Setting", "number_at", "saying_of", "check_pointing", "sayings_of_foot", "set_words", "is_later", "later", "is_odd", "rows_on", "behind", "first_from", "said", "wide_of"]
def loose4 : List Str := ["foot_rows", "foot_high", "first_bounds", "by_ahead", "by_width", "by_height", "by_next", "by_itself", "reach", "lift", "lift_back", "sweep", "is_beyond", "settle", "body_rows", "feet_rows", "pages_of", "tell_pages", "Desk", "_law_cell_at"]
def loose5 : List Str := ["_law_mixed", "_law_done", "_law_refused", "_law_case", "_law_opened", "_law_form_refused", "_law_bad_form"]
def loose : List Str := loose0 ++ loose1 ++ loose2 ++ loose3 ++ loose4 ++ loose5
abbrev R : PySem.W.OpenRow := PySem.W.OpenLaw.row PySem.Challenge.rw_trueleaf_k75_refused_once
def lawAt : Nat := 122
end Tl

/-! The pure-value layer: a new dict, frozen at once; new lists as slots. -/
namespace PV
open PySem PySem.Spec PyProof.Rows L2
theorem Ext.lock {F H F' H' : Hp} {p : Addr} {o : HO} (x : Ext F H F' H') (n : H p = none) (n' : F' p = none) : Ext F H (upd F' p o) (upd H' p o) := by
  refine ⟨fun b u e => ?_, fun b u e => ?_, fun b u e => ?_, fun b u e1 e2 => ?_⟩
  · rw [upd_ne (ne_of_none (x.f b u e) n')]; exact x.f b u e
  · rw [upd_ne (ne_of_none e n)]; exact x.h b u e
  · by_cases hb : b = p
    · subst hb; rw [upd_same] at e ⊢; exact e
    · rw [upd_ne hb] at e ⊢; exact x.sub b u e
  · by_cases hb : b = p
    · subst hb; exact n
    · rw [upd_ne hb] at e1; exact x.new b u e1 e2
section
variable {X : Cx} {W : Wc} {ρ : Env} {e a b : Expr} {es : List Expr} {pos : Pos} {C : Ec → Addr} {k : Nat} {rest : List Stmt} {Φ : Out → Prop}
theorem FrS.lock {qs : List (Key × PyData)} (h : FrS X W ρ e (dk qs)) : Ev X W ρ e (dctD qs) := ⟨fun pins s σ F H M Q I ok q _ => by
  refine wpAny_mono (h pins s σ F H M (fun v H' => ∃ F' m, Ext F H F' H' ∧ (dk qs).R X.K F' v m ∧ (∀ a o, (a, o) ∈ m → H' a = some o ∧ F' a = none ∧ H a = none)) I ok fun v F' H' m x hv hm => ⟨F', m, x, hv, hm⟩) (fun u s' hu => ?_) fun _ _ z => z
  obtain ⟨v, H', I', r, F', m, x, ⟨p, ps, rfl, rfl, hr⟩, hm⟩ := hu
  obtain ⟨h1, h2, h3⟩ := hm p _ List.mem_cons_self
  obtain ⟨od, I2⟩ := I'.lock h1 (by exact True.intro)
  have x2 := x.lock (o := .frz od (.dK ps)) h3 h2
  have sF : Same F' (upd F' p (.frz od (.dK ps))) := fun b u e => by rw [upd_ne (ne_of_none e h2)]; exact e
  exact ⟨_, _, I2, r, q _ rfl _ _ _ x2 (.dct (o := od) upd_same (KvR.dqKv (hr.mono sF)))⟩⟩
theorem Fr.slo {ds : List PyData} (h : Fr X W ρ e ds) : FrS X W ρ e (ow none ds) := ⟨fun pins s σ F H M Q I ok q => h pins s σ F H M Q I ok fun a vs F' H' x n n' ha hd => q _ F' H' [(a, .lst vs)] x ⟨a, vs, rfl, rfl, (fun _ z => nomatch z), hd⟩ fun b o z => by
  have z : (b, o) = (a, HO.lst vs) := by simpa using z
  cases z
  exact ⟨ha, n', n⟩⟩
end
end PV

/-! The desk's shelf as data: parts by their rows. -/
namespace Tl
open PySem PySem.Spec PyProof.Rows L2 PV
abbrev Own := List (Str × List Str)
/-- the shelf as a dict, each part by F -/
def kvO (F : List Str → PyData) (o : Own) : List (Key × PyData) := o.map fun q => (.inr q.1, F q.2)
def joinN (r : List Str) : Str := Txt.join ("\n" : Str) r
def txF (r : List Str) : PyData := .str (joinN r)
def rwF (r : List Str) : PyData := .list (r.map .str)
def look : Own → Str → Option (List Str)
  | [], _ => none
  | (m, r) :: o, n => if m = n then some r else look o n
def putO : Own → Str → List Str → Own
  | [], n, r => [(n, r)]
  | (m, s) :: o, n, r => if m = n then (m, r) :: (o.map fun q => if q.1 = n then (q.1, r) else q) else (m, s) :: putO o n r
def dropO (o : Own) (n : Str) : Own := o.filter fun q => decide (q.1 ≠ n)
theorem getP_kvO (F : List Str → PyData) : ∀ (o : Own) (n : Str), getP (kvO F o) (.inr n) = (look o n).map F
  | [], _ => rfl
  | (m, r) :: o, n => by
    have ih := getP_kvO F o n
    unfold getP kvO at ih ⊢
    rw [List.map_cons, List.find?_cons, look]
    by_cases h : m = n
    · subst h; simp
    · have h2 : ¬ (Sum.inr m : Key) = .inr n := fun e => h (by injection e)
      rw [if_neg h]
      simp only [h2, decide_false]
      exact ih
theorem any_kvO (F : List Str → PyData) (o : Own) (n : Str) : ((kvO F o).any fun kv => decide (kv.1 = (.inr n : Key))) = o.any fun q => decide (q.1 = n) := by
  unfold kvO
  rw [List.any_map]
  congr 1
  funext q
  simp only [Function.comp]
  by_cases h : q.1 = n
  · rw [decide_eq_true h, decide_eq_true (by rw [h])]
  · rw [decide_eq_false h, decide_eq_false (fun e => h (by injection e))]
theorem putO_eq : ∀ (o : Own) (n : Str) (r : List Str), putO o n r = if (o.any fun q => decide (q.1 = n)) = true then o.map (fun q => if q.1 = n then (q.1, r) else q) else o ++ [(n, r)]
  | [], _, _ => rfl
  | (m, s) :: o, n, r => by
    rw [putO, putO_eq o n r, List.any_cons]
    by_cases h : m = n
    · simp [h]
    · rw [if_neg h, decide_eq_false h, Bool.false_or]
      split
      · rw [List.map_cons, if_neg h]
      · rfl
theorem putP_kvO (F : List Str → PyData) (o : Own) (n : Str) (r : List Str) : putP (kvO F o) (.inr n) (F r) = kvO F (putO o n r) := by
  unfold putP
  rw [any_kvO, putO_eq]
  split
  · unfold kvO
    rw [List.map_map, List.map_map]
    apply List.map_congr_left
    intro q _
    simp only [Function.comp]
    by_cases h : q.1 = n
    · rw [if_pos h, if_pos (by rw [h])]
    · rw [if_neg h, if_neg (fun e => h (by injection e))]
  · unfold kvO
    rw [List.map_append]
    rfl
theorem dropP_kvO (F : List Str → PyData) (o : Own) (n : Str) : (kvO F o).filter (fun q => decide (q.1 ≠ (.inr n : Key))) = kvO F (dropO o n) := by
  unfold kvO dropO
  rw [List.filter_map]
  congr 1
  apply List.filter_congr
  intro q _
  simp only [Function.comp]
  by_cases h : q.1 = n
  · simp [h]
  · have h2 : ¬ (Sum.inr q.1 : Key) = .inr n := fun e => h (by injection e)
    simp [h, h2]
/-- clean rows: one at least, no line's end in any, none too long -/
def okRows (r : List Str) : Prop := r ≠ [] ∧ r.length ≤ 200 ∧ ∀ x ∈ r, 10 ∉ x.cps.toList ∧ x.length ≤ 400
structure okOwn (o : Own) : Prop where
  len : o.length ≤ 20
  rows : ∀ q ∈ o, okRows q.2
theorem look_mem : ∀ {o : Own} {n : Str} {r : List Str}, look o n = some r → ∃ m, (m, r) ∈ o
  | [], _, _, h => nomatch h
  | (m, s) :: o, n, r, h => by
    rw [look] at h
    split at h
    · cases h; exact ⟨m, List.mem_cons_self⟩
    · obtain ⟨m', h'⟩ := look_mem h
      exact ⟨m', List.mem_cons_of_mem _ h'⟩
theorem okOwn.look {o : Own} (h : okOwn o) {n : Str} {r : List Str} (e : look o n = some r) : okRows r := by
  obtain ⟨m, hm⟩ := look_mem e
  exact h.rows _ hm
theorem split_rows {r : List Str} (h : okRows r) : Txt.split (joinN r) ("\n" : Str) = r :=
  TL.split_join (s := 10) (S := []) rfl (by decide +kernel) h.1 fun x hx => (h.2.2 x hx).1
theorem join_len {r : List Str} (h : ∀ x ∈ r, x.length ≤ 400) : (r.map (·.length)).sum ≤ 400 * r.length := by
  induction r with
  | nil => simp
  | cons x r ih =>
    have h1 := h x List.mem_cons_self
    have h2 := ih fun y hy => h y (List.mem_cons_of_mem _ hy)
    rw [List.map_cons, List.sum_cons, List.length_cons]
    omega
theorem joinN_len {r : List Str} (h : ∀ x ∈ r, x.length ≤ 400) : (joinN r).length ≤ 401 * r.length := by
  have h1 := StrLaws.join_length_le ("\n" : Str) r
  have h2 := join_len h
  have e : joinN r = Str.join ("\n" : Str) r := TL.join_eq _ _
  rw [e]
  have h3 : ("\n" : Str).length = 1 := by decide +kernel
  rw [h3] at h1
  omega
/-! ### deeds -/
def smallB (c : Nat) : Bool := decide (97 ≤ c ∧ c ≤ 122)
def figB (c : Nat) : Bool := decide (48 ≤ c ∧ c ≤ 57)
def nmB (x : Str) : Bool := match x.cps.toList with
  | [] => false
  | c :: l => decide (l.length < 12) && (smallB c && (c :: l).all fun d => smallB d || figB d)
def opPut (o : Own) (n : Str) (r : List Str) : Except Ec Own :=
  if nmB n = false then .error .badName else if (look o n).isSome then .error .twice else if 20 ≤ o.length then .error .tooLong else .ok (putO o n r)
def opDrop (o : Own) (n : Str) : Except Ec Own := if (look o n).isSome then .ok (dropO o n) else .error .noPart
def rowIn (r : List Str) (at_ : Nat) (x : Str) : List Str := r.take at_ ++ [x] ++ r.drop at_
def rowOut (r : List Str) (at_ : Nat) : List Str := r.take at_ ++ r.drop (at_ + 1)
def orOne (r : List Str) : List Str := if r = [] then [⟨#[]⟩] else r
def opRow (o : Own) (n : Str) (a : Int) (x : Str) : Except Ec Own := match look o n with
  | none => .error .noPart
  | some r => if a < 0 ∨ a > r.length then .error .noRow else if 200 ≤ r.length then .error .tooLong else .ok (putO o n (rowIn r a.toNat x))
def opCut (o : Own) (n : Str) (a : Int) : Except Ec Own := match look o n with
  | none => .error .noPart
  | some r => if a < 0 ∨ a ≥ r.length then .error .noRow else .ok (putO o n (orOne (rowOut r a.toNat)))
theorem join_or (r : List Str) : joinN (orOne r) = joinN r := by
  unfold orOne
  split
  · rename_i h; subst h; rfl
  · rfl
end Tl

/-! The desk's laws: numbers. -/
namespace Tl
open PySem PySem.Spec PyProof.Rows L2 PV
def mixed (c : Int) : Int := (c + 1) * 1357913579135791357 % 2305843009213693951
def cellAt (ns : List Int) (k : Nat) : Int := ns.getD k 0
def mixN (c : Int) : Nat := (mixed c).toNat
theorem mixed_lt (c : Int) : 0 ≤ mixed c ∧ mixed c < 2305843009213693951 := by unfold mixed; omega
theorem mix_eq (c : Int) : mixed c = (mixN c : Int) := (Int.toNat_of_nonneg (mixed_lt c).1).symm
theorem mix_lt (c : Int) : mixN c < 2305843009213693951 := by
  have h := (mixed_lt c).2
  rw [mix_eq c] at h
  generalize mixN c = m at h
  omega
section
variable {P : Program} {w : World} {K : PySem.W.Frag} {mg : Str → Option Value} {base : Heap} {C : Ec → Addr}
abbrev C_cell_at (P : Program) (w : World) (K : PySem.W.Frag) (mg : Str → Option Value) (base : Heap) (C : Ec → Addr) := Callee P w K mg base 1 "_law_cell_at" (spP K C 2 (fun (i : List Int × Nat) => [kn (i.1.map .int), fz (.int i.2)]) (fun _ => True) (fun i => is (.ok (fz (.int (cellAt i.1 i.2))))))
theorem ok_cell_at (Bt : Blt mg) (D : Df K mg "_law_cell_at" s_law_cell_at) : C_cell_at P w K mg base C := by
  refine callee_of D sc_law_cell_at (fun _ _ _ _ _ _ us hl => match us, hl with | [_, _], _ => rfl) (fun f cdv A outer s H E c i _ => ?_)
  obtain ⟨ns, k⟩ := i
  show Sxs _ _ _ [some (kn (ns.map .int)), some (fz (.int k))] _
  refine sxs_if (tst_cm (cm_lt (ev_var 1 rfl) (ev_len Bt (bw_var 0 rfl)))) (fun h => ?_) (fun h => ?_)
  · have h1 : k < ns.length := by simpa using h
    refine sxs_ret (ev_ixL (d := .int (cellAt ns k)) (bw_var 0 rfl) (ev_var 1 rfl) (atI_nat ?_)) rfl
    simp [cellAt, h1]
  · have h1 : ¬ k < ns.length := by simpa using h
    refine sxs_nil ?_
    refine sxs_ret ev_int ?_
    show _ = _
    have e : cellAt ns k = 0 := by simp [cellAt, List.getD, List.getElem?_eq_none (Nat.le_of_not_lt h1)]
    rw [e]
abbrev C_mixed (P : Program) (w : World) (K : PySem.W.Frag) (mg : Str → Option Value) (base : Heap) (C : Ec → Addr) := Callee P w K mg base 1 "_law_mixed" (spP K C 1 (fun i : Int => [fz (.int i)]) (fun _ => True) (fun i => is (.ok (fz (.int (mixed i))))))
theorem ok_mixed (D : Df K mg "_law_mixed" s_law_mixed) : C_mixed P w K mg base C := by
  refine callee_of D sc_law_mixed (fun _ _ _ _ _ _ us hl => match us, hl with | [_], _ => rfl) (fun f cdv A outer s H E c i _ => ?_)
  show Sxs _ _ _ [some (fz (.int i))] _
  refine sxs_ret (ev_mod (by decide) (ev_mul (.inr ⟨by decide, by decide⟩) (ev_add (ev_var 0 rfl) ev_int) ev_int) ev_int) ?_
  rfl
end
end Tl

/-! The desk's methods. -/
namespace Tl
open PySem PySem.Spec PyProof.Rows L2 PV
abbrev dNs : List Str := ["form", "now", "elder", "issued"]
abbrev shD (o : Own) : PyData := dctD (kvO txF o)
abbrev dSs (frm : PyData) (o : Own) (es : List Own) (iss : PyData) : List Slot := [fz frm, fz (shD o), ow none (es.map shD), fz iss]
structure DkS where
  frm : PyData
  o : Own
  es : List Own
  iss : PyData
abbrev dkA (D : Addr) (s : DkS) : Asl := objA D dNs (dSs s.frm s.o s.es s.iss)
abbrev DkS.go (s : DkS) (o : Own) : DkS := ⟨s.frm, o, s.es ++ [s.o], s.iss⟩
/-- how a deed ends -/
def deedR (D : Addr) (s : DkS) (r : Except Ec Own) : Except Ec Slot → List Asl → Prop := fun out outs => match r with
  | .ok o => out = .ok (fz .none) ∧ outs = [dkA D (s.go o)]
  | .error c => out = .error c ∧ outs = [dkA D s]
section
variable {P : Program} {w : World} {K : PySem.W.Frag} {mg : Str → Option Value} {base : Heap} {C : Ec → Addr} {D : Addr}
abbrev C_settled_on (P : Program) (w : World) (K : PySem.W.Frag) (mg : Str → Option Value) (base : Heap) (C : Ec → Addr) (D : Addr) := CalleeMt P w K mg base 1 D "settled_on" (spM K C 2 (fun i : DkS × Own => [.mu (dkA D i.1), .ro (fz (shD i.2))]) (fun i => i.1.es.length ≤ 1000) (fun i => deedR D i.1 (.ok i.2)))
theorem ok_settled_on (O : ClsO K D dNs) (Dm : DfMt K D "settled_on" "Desk.settled_on" s_Desk_settled_on) : C_settled_on P w K mg base C D := by
  refine callee_ofMt Dm sc_Desk_settled_on (fun _ _ _ _ _ _ us hl => match us, hl with | [_, _], _ => rfl) (fun f cdv A outer s H E c i hi ad => ?_)
  obtain ⟨⟨frm, o, es, iss⟩, o'⟩ := i
  have hi : es.length ≤ 1000 := hi
  show Sxs _ _ _ [some (obj D dNs (dSs frm o es iss) (some (ad 0))), some (fz (shD o'))] _
  refine sxs_fappend 0 2 O rfl rfl (ev_fld 0 1 O rfl rfl) (by rw [List.length_map]; exact small1000 hi) ?_
  refine sxs_fldS 0 1 O rfl (Ev.sl (ev_var 1 rfl)) ?_
  refine sxs_nil ⟨[dkA D ⟨frm, o', es ++ [o], iss⟩], ⟨rfl, rfl⟩, ?_, trivial⟩
  show some (some (obj D dNs [fz frm, fz (shD o'), ow none (es.map shD ++ [shD o]), fz iss] (some (ad 0)))) = some (some (obj D dNs [fz frm, fz (shD o'), ow none ((es ++ [o]).map shD), fz iss] (some (ad 0))))
  rw [List.map_append]
  rfl
/-! ### names, rows -/
def smallS : Str := "abcdefghijklmnopqrstuvwxyz"
def figsS : Str := "0123456789"
theorem small_mem (c : Nat) : decide (c ∈ smallS.cps.toList) = smallB c := by
  have e : smallS.cps.toList = List.range' 97 26 := by decide +kernel
  unfold smallB
  rw [e]
  by_cases h : 97 ≤ c ∧ c ≤ 122
  · rw [decide_eq_true h, decide_eq_true (List.mem_range'_1.mpr (by omega))]
  · rw [decide_eq_false h, decide_eq_false (fun z => h (by have := List.mem_range'_1.mp z; omega))]
theorem fig_mem (c : Nat) : decide (c ∈ figsS.cps.toList) = figB c := by
  have e : figsS.cps.toList = List.range' 48 10 := by decide +kernel
  unfold figB
  rw [e]
  by_cases h : 48 ≤ c ∧ c ≤ 57
  · rw [decide_eq_true h, decide_eq_true (List.mem_range'_1.mpr (by omega))]
  · rw [decide_eq_false h, decide_eq_false (fun z => h (by have := List.mem_range'_1.mp z; omega))]
structure Cons (mg : Str → Option Value) : Prop where
  small : ∃ t, mg "SMALL" = some (.str smallS t)
  figs : ∃ t, mg "FIGURES" = some (.str figsS t)
  longest : ∃ t, mg "LONGEST" = some (.int 12 t)
abbrev C_is_name (P : Program) (w : World) (K : PySem.W.Frag) (mg : Str → Option Value) (base : Heap) (C : Ec → Addr) := Callee P w K mg base 1 "is_name" (spP K C 1 (fun x : Str => [fz (.str x)]) (fun x => x.length ≤ 10000000) (fun x => is (.ok (fz (.bool (nmB x))))))
theorem nm_bad {x : Str} (h : ¬ (1 ≤ x.length ∧ x.length ≤ 12)) : nmB x = false := by
  unfold nmB
  have e : x.length = x.cps.toList.length := by rw [Array.length_toList]; rfl
  rw [e] at h
  cases q : x.cps.toList with
  | nil => rfl
  | cons c l =>
    rw [q, List.length_cons] at h
    show (decide (l.length < 12) && _) = false
    rw [decide_eq_false (by omega)]
    rfl
theorem nm_good {x : Str} (h : 1 ≤ x.length ∧ x.length ≤ 12) : ∃ c l, x.cps.toList = c :: l ∧ nmB x = (smallB c && (c :: l).all fun d => smallB d || figB d) := by
  have e : x.length = x.cps.toList.length := by rw [Array.length_toList]; rfl
  rw [e] at h
  unfold nmB
  cases q : x.cps.toList with
  | nil => rw [q] at h; simp at h
  | cons c l =>
    rw [q, List.length_cons] at h
    refine ⟨c, l, rfl, ?_⟩
    show (decide (l.length < 12) && _) = _
    rw [decide_eq_true (by omega), Bool.true_and]
theorem ok_is_name (Bt : Blt mg) (Cn : Cons mg) (Df0 : Df K mg "is_name" s_is_name) : C_is_name P w K mg base C := by
  refine callee_of Df0 sc_is_name (fun _ _ _ _ _ _ us hl => match us, hl with | [_], _ => rfl) (fun f cdv A outer s H E c x hx => ?_)
  have hx : x.length ≤ 10000000 := hx
  show Sxs _ _ _ [some (fz (.str x)), none] _
  by_cases hl : 1 ≤ x.length ∧ x.length ≤ 12
  · obtain ⟨c0, l, e0, en⟩ := nm_good hl
    have hhd : atI x.cps.toList 0 = some c0 := by
      rw [e0]
      show atI (c0 :: l) ((0 : Nat) : Int) = _
      exact atI_nat rfl
    refine sxs_if (t := !smallB c0) (tst_or2 (p := false) (q := !smallB c0) ((tst_not (tst_chain (f := fun i j => decide (i ≤ j)) (g := fun i j => decide (i ≤ j)) (i := 1) (j := (x.length : Int)) (l := 12) op_le op_le ev_int (ev_lenS Bt (ev_var 0 rfl) (szm hx)) (ev_gi Cn.longest))).to (by
      rw [decide_eq_true (by omega : (1 : Int) ≤ x.length), decide_eq_true (by omega : (x.length : Int) ≤ 12)]; rfl)) (fun _ => (tst_cm (cm_nin1 (ev_ixS (c := c0) (ev_var 0 rfl) ev_int (szm hx) hhd) (ev_gs Cn.small))).to (by rw [small_mem])) rfl) (fun h => ?_) (fun h => ?_)
    · refine sxs_ret ev_bl ?_
      show _ = _
      rw [en]
      have : smallB c0 = false := by simpa using h
      rw [this]
      rfl
    · have hs : smallB c0 = true := by simpa using h
      refine sxs_nil ?_
      refine sxs_forL (fun c : Nat => PyData.str ⟨#[c]⟩) x.cps.toList (fun _ : Unit => [some (fz (.str x)), none]) (fun _ ys => (x.cps.toList.all fun d => smallB d || figB d) = ys.all fun d => smallB d || figB d) () c (iv_str (ev_var 0 rfl)) (tg_name 1 c.nd) (Wk.refl _) rfl (fun _ y ys hR => ⟨⟨(fun h => nomatch h), rfl⟩, ?_⟩) (fun _ hR => ?_)
      · show Sxs _ _ _ [some (fz (.str x)), some (fz (.str ⟨#[y]⟩))] _
        refine sxs_if (t := !(smallB y || figB y)) (tst_and2 (p := !smallB y) (q := !figB y) ((tst_cm (cm_nin1 (ev_var 1 rfl) (ev_gs Cn.small))).to (by rw [small_mem])) (fun _ => (tst_cm (cm_nin1 (ev_var 1 rfl) (ev_gs Cn.figs))).to (by rw [fig_mem])) (by simp)) (fun h => ?_) (fun h => ?_)
        · refine sxs_ret ev_bl ?_
          show _ = _
          rw [List.all_cons] at hR
          have h2 : (smallB y || figB y) = false := by simpa using h
          rw [en, ← e0, hR, h2, hs]
          rfl
        · refine sxs_nil ?_
          have h2 : (smallB y || figB y) = true := by
            cases q : (smallB y || figB y) with
            | true => rfl
            | false => rw [q] at h; cases h
          refine sxs_nil ⟨_, Wk.of (wkl_some rfl (wkl_none wkl_nil)), (), rfl, ?_⟩
          rw [hR, List.all_cons, h2, Bool.true_and]
      · refine sxs_ret ev_bl ?_
        show _ = _
        rw [en, ← e0, hR, hs]
        rfl
  · refine sxs_if (t := true) (tst_or2 (p := true) (q := false) ((tst_not (tst_chain (f := fun i j => decide (i ≤ j)) (g := fun i j => decide (i ≤ j)) (i := 1) (j := (x.length : Int)) (l := 12) op_le op_le ev_int (ev_lenS Bt (ev_var 0 rfl) (szm hx)) (ev_gi Cn.longest))).to (by
      by_cases h1 : (1 : Int) ≤ x.length
      · rw [decide_eq_true h1, decide_eq_false (by omega : ¬ (x.length : Int) ≤ 12)]; rfl
      · rw [decide_eq_false h1]; rfl)) (fun z => nomatch z) rfl) (fun h => ?_) (fun h => nomatch h)
    refine sxs_ret ev_bl ?_
    show _ = _
    rw [nm_bad hl]
abbrev C_rows_in (P : Program) (w : World) (K : PySem.W.Frag) (mg : Str → Option Value) (base : Heap) (C : Ec → Addr) := Callee P w K mg base 1 "rows_in" (spP K C 1 (fun r : List Str => [fz (txF r)]) okRows (fun r => is (.ok (ow none (r.map .str)))))
theorem ok_rows_in (Df0 : Df K mg "rows_in" s_rows_in) : C_rows_in P w K mg base C := by
  refine callee_of Df0 sc_rows_in (fun _ _ _ _ _ _ us hl => match us, hl with | [_], _ => rfl) (fun f cdv A outer s H E c r hr => ?_)
  show Sxs _ _ _ [some (fz (txF r))] _
  have hl := joinN_len fun x hx => (hr.2.2 x hx).2
  have h2 := hr.2.1
  refine sxs_retF ((fr_split (ev_var 0 rfl) ev_str (by decide +kernel) (szm (by omega))).to (es := r.map .str) (by rw [split_rows hr])) rfl
/-! ### the desk -/
abbrev C_dk_rows_of (P : Program) (w : World) (K : PySem.W.Frag) (mg : Str → Option Value) (base : Heap) (C : Ec → Addr) (D : Addr) := CalleeMt P w K mg base 2 D "rows_of" (spM K C 2 (fun i : DkS × Str => [.mu (dkA D i.1), .ro (fz (.str i.2))]) (fun i => okOwn i.1.o)
  (fun i out outs => outs = [dkA D i.1] ∧ out = match look i.1.o i.2 with | none => .error .noPart | some r => .ok (ow none (r.map .str))))
/-- the errors of the desk -/
structure Errs (K : PySem.W.Frag) (mg : Str → Option Value) (C : Ec → Addr) : Prop where
  noPart : Exd K mg (C .noPart) "NoPart"
  tooLong : Exd K mg (C .tooLong) "TooLong"
  badForm : Exd K mg (C .badForm) "BadForm"
  twice : Exd K mg (C .twice) "Twice"
  badName : Exd K mg (C .badName) "BadName"
  noRow : Exd K mg (C .noRow) "NoRow"
  nothing : Exd K mg (C .nothingDone) "NothingDone"
theorem ok_dk_rows_of (O : ClsO K D dNs) (Er : Errs K mg C) (G_rows_in : C_rows_in P w K mg base C) (Dm : DfMt K D "rows_of" "Desk.rows_of" s_Desk_rows_of) : C_dk_rows_of P w K mg base C D := by
  refine callee_ofMt Dm sc_Desk_rows_of (fun _ _ _ _ _ _ us hl => match us, hl with | [_, _], _ => rfl) (fun f cdv A outer s H E c i hi ad => ?_)
  obtain ⟨⟨frm, o, es, iss⟩, n⟩ := i
  have hi : okOwn o := hi
  show Sxs _ _ _ [some (obj D dNs (dSs frm o es iss) (some (ad 0))), some (fz (.str n))] (bodyM ad [0] fun out outs => outs = [dkA D ⟨frm, o, es, iss⟩] ∧ out = match look o n with | none => .error .noPart | some r => .ok (ow none (r.map .str)))
  have hg := getP_kvO txF o n
  refine sxs_if (t := !(look o n).isSome) ((tst_cm (cm_ninV (y := .inr n) c (ev_var 1 rfl) (dv_ev (ev_fld 0 1 O rfl rfl)))).to (by rw [hg, Option.isSome_map])) (fun h => ?_) (fun h => ?_)
  · refine sxs_raiseD .noPart c Er.noPart ⟨_, ⟨rfl, ?_⟩, rfl, trivial⟩
    cases e : look o n with
    | none => rfl
    | some r => rw [e] at h; cases h
  · cases e : look o n with
    | none => rw [e] at h; cases h
    | some r =>
      rw [e] at hg
      have hr := hi.look e
      refine sxs_nil ?_
      refine sxs_retS (s_call c G_rows_in r hr (fun _ h => h) (as_cons (Ev.s (ev_dgetV (y := .inr n) c (dv_ev (ev_fld 0 1 O rfl rfl)) (ev_var 1 rfl) hg)) as_nil)) ⟨_, ⟨rfl, rfl⟩, rfl, trivial⟩
end
end Tl

/-! The desk's deeds. -/
namespace Tl
open PySem PySem.Spec PyProof.Rows L2 PV
section
variable {P : Program} {w : World} {K : PySem.W.Frag} {mg : Str → Option Value} {base : Heap} {C : Ec → Addr} {D : Addr}
abbrev C_put_part (P : Program) (w : World) (K : PySem.W.Frag) (mg : Str → Option Value) (base : Heap) (C : Ec → Addr) (D : Addr) := CalleeMt P w K mg base 3 D "put_part" (spM K C 3 (fun i : DkS × Str × List Str => [.mu (dkA D i.1), .ro (fz (.str i.2.1)), .ro (fz (txF i.2.2))]) (fun i => i.2.1.length ≤ 10000000 ∧ i.1.es.length ≤ 1000 ∧ i.1.o.length ≤ 1000) (fun i => deedR D i.1 (opPut i.1.o i.2.1 i.2.2)))
theorem ok_put_part (Bt : Blt mg) (O : ClsO K D dNs) (Er : Errs K mg C) (G_is_name : C_is_name P w K mg base C) (G_settled : C_settled_on P w K mg base C D) (Dm : DfMt K D "put_part" "Desk.put_part" s_Desk_put_part) : C_put_part P w K mg base C D := by
  refine callee_ofMt Dm sc_Desk_put_part (fun _ _ _ _ _ _ us hl => match us, hl with | [_, _, _], _ => rfl) (fun f cdv A outer s H E c i hi ad => ?_)
  obtain ⟨⟨frm, o, es, iss⟩, n, r⟩ := i
  obtain ⟨hn, hes, ho⟩ := hi
  simp only at hn hes ho
  show Sxs _ _ _ [some (obj D dNs (dSs frm o es iss) (some (ad 0))), some (fz (.str n)), some (fz (txF r)), none] (bodyM ad [0] (deedR D ⟨frm, o, es, iss⟩ (opPut o n r)))
  have hg := getP_kvO txF o n
  refine sxs_if (t := !nmB n) (tst_not (tst_val (ev_call c G_is_name n hn (fun _ h => h) (as_cons (Ev.s (ev_var 1 rfl)) as_nil)))) (fun h => ?_) (fun h => ?_)
  · have h : nmB n = false := by simpa using h
    have hop : opPut o n r = .error .badName := by unfold opPut; rw [if_pos h]
    rw [hop]
    exact sxs_raiseD .badName c Er.badName ⟨_, ⟨rfl, rfl⟩, rfl, trivial⟩
  · have h0 : nmB n = true := by simpa using h
    refine sxs_nil ?_
    refine sxs_if (t := (look o n).isSome) ((tst_cm (cm_inV (y := .inr n) c (ev_var 1 rfl) (dv_ev (ev_fld 0 1 O rfl rfl)))).to (by rw [hg, Option.isSome_map])) (fun h => ?_) (fun h => ?_)
    · have hop : opPut o n r = .error .twice := by unfold opPut; rw [if_neg (by rw [h0]; exact fun z => nomatch z), if_pos h]
      rw [hop]
      exact sxs_raiseD .twice c Er.twice ⟨_, ⟨rfl, rfl⟩, rfl, trivial⟩
    · refine sxs_nil ?_
      have h1 : ¬ (look o n).isSome = true := by rw [h]; exact fun z => nomatch z
      refine sxs_if (t := decide (20 ≤ o.length)) ((tst_cm (cm_ge (ev_lenV Bt (dv_ev (ev_fld 0 1 O rfl rfl))) ev_int)).to (by
        unfold kvO
        rw [List.length_map]
        by_cases z : 20 ≤ o.length
        · rw [decide_eq_true z, decide_eq_true (by omega)]
        · rw [decide_eq_false z, decide_eq_false (by omega)])) (fun h2 => ?_) (fun h2 => ?_)
      · have h2 := of_decide_eq_true h2
        have hop : opPut o n r = .error .tooLong := by unfold opPut; rw [if_neg (by rw [h0]; exact fun z => nomatch z), if_neg h1, if_pos h2]
        rw [hop]
        exact sxs_raiseD .tooLong c Er.tooLong ⟨_, ⟨rfl, rfl⟩, rfl, trivial⟩
      · have h2 := of_decide_eq_false h2
        have hop : opPut o n r = .ok (putO o n r) := by unfold opPut; rw [if_neg (by rw [h0]; exact fun z => nomatch z), if_neg h1, if_neg h2]
        rw [hop]
        refine sxs_nil ?_
        refine sxs_setS 3 (s_copyV Bt (dv_ev (ev_fld 0 1 O rfl rfl))) ?_ c.nd
        refine sxs_dputK (y := .inr n) 3 c rfl (ev_var 2 rfl) (ev_var 1 rfl) (by unfold kvO; rw [List.length_map]; exact small1000 ho) ?_
        rw [putP_kvO]
        refine sxs_freezeD 3 rfl ?_
        refine sxs_exprM (evm_meth 0 [] c O G_settled (⟨frm, o, es, iss⟩, putO o n r) hes rfl rfl (am_ro (Ev.s (ev_var 3 rfl)) am_nil)) (fun S ρ' hR => ?_) (fun cl ρ' hR => ?_)
        · obtain ⟨outs, ⟨_, e2⟩, e3⟩ := hR
          subst e2 e3
          exact sxs_nil ⟨_, ⟨rfl, rfl⟩, rfl, trivial⟩
        · obtain ⟨outs, ⟨e1, _⟩, _⟩ := hR
          cases e1
abbrev C_drop_part (P : Program) (w : World) (K : PySem.W.Frag) (mg : Str → Option Value) (base : Heap) (C : Ec → Addr) (D : Addr) := CalleeMt P w K mg base 3 D "drop_part" (spM K C 2 (fun i : DkS × Str => [.mu (dkA D i.1), .ro (fz (.str i.2))]) (fun i => i.1.es.length ≤ 1000) (fun i => deedR D i.1 (opDrop i.1.o i.2)))
theorem ok_drop_part (Bt : Blt mg) (O : ClsO K D dNs) (Er : Errs K mg C) (G_settled : C_settled_on P w K mg base C D) (Dm : DfMt K D "drop_part" "Desk.drop_part" s_Desk_drop_part) : C_drop_part P w K mg base C D := by
  refine callee_ofMt Dm sc_Desk_drop_part (fun _ _ _ _ _ _ us hl => match us, hl with | [_, _], _ => rfl) (fun f cdv A outer s H E c i hes ad => ?_)
  obtain ⟨⟨frm, o, es, iss⟩, n⟩ := i
  have hes : es.length ≤ 1000 := hes
  show Sxs _ _ _ [some (obj D dNs (dSs frm o es iss) (some (ad 0))), some (fz (.str n)), none] (bodyM ad [0] (deedR D ⟨frm, o, es, iss⟩ (opDrop o n)))
  have hg := getP_kvO txF o n
  refine sxs_if (t := !(look o n).isSome) ((tst_cm (cm_ninV (y := .inr n) c (ev_var 1 rfl) (dv_ev (ev_fld 0 1 O rfl rfl)))).to (by rw [hg, Option.isSome_map])) (fun h => ?_) (fun h => ?_)
  · have hop : opDrop o n = .error .noPart := by unfold opDrop; rw [if_neg (by intro z; rw [z] at h; cases h)]
    rw [hop]
    exact sxs_raiseD .noPart c Er.noPart ⟨_, ⟨rfl, rfl⟩, rfl, trivial⟩
  · cases e : look o n with
    | none => rw [e] at h; cases h
    | some r =>
      have hop : opDrop o n = .ok (dropO o n) := by unfold opDrop; rw [e]; rfl
      rw [hop]
      rw [e] at hg
      refine sxs_nil ?_
      refine sxs_setS 2 (s_copyV Bt (dv_ev (ev_fld 0 1 O rfl rfl))) ?_ c.nd
      refine sxs_dpop (y := .inr n) 2 c rfl (ev_var 1 rfl) hg ?_
      rw [dropP_kvO]
      refine sxs_freezeD 2 rfl ?_
      refine sxs_exprM (evm_meth 0 [] c O G_settled (⟨frm, o, es, iss⟩, dropO o n) hes rfl rfl (am_ro (Ev.s (ev_var 2 rfl)) am_nil)) (fun S ρ' hR => ?_) (fun cl ρ' hR => ?_)
      · obtain ⟨outs, ⟨_, e2⟩, e3⟩ := hR
        subst e2 e3
        exact sxs_nil ⟨_, ⟨rfl, rfl⟩, rfl, trivial⟩
      · obtain ⟨outs, ⟨e1, _⟩, _⟩ := hR
        cases e1
end
end Tl

/-! The desk's deeds on rows; taking back; the shelf told; the desk made. -/
namespace Tl
open PySem PySem.Spec PyProof.Rows L2 PV
theorem sIx_at {n d a : Nat} (h : a ≤ n) : HT.sIx n d (some (a : Int)) = a := by
  unfold HT.sIx
  have e : ¬ (a : Int) < 0 := by omega
  simp only [e, if_false]
  simp
  omega
theorem cut_take {ds : List PyData} {a : Nat} (h : a ≤ ds.length) : PV.cutD ds none (some (a : Int)) = ds.take a := by
  unfold PV.cutD
  rw [sIx_at h]
  show (ds.drop 0).take (a - 0) = _
  rfl
theorem cut_drop {ds : List PyData} {a : Nat} (h : a ≤ ds.length) : PV.cutD ds (some (a : Int)) none = ds.drop a := by
  unfold PV.cutD
  rw [sIx_at h]
  show (ds.drop a).take (ds.length - a) = _
  rw [List.take_of_length_le (by simp)]
section
variable {P : Program} {w : World} {K : PySem.W.Frag} {mg : Str → Option Value} {base : Heap} {C : Ec → Addr} {D : Addr}
abbrev C_put_row (P : Program) (w : World) (K : PySem.W.Frag) (mg : Str → Option Value) (base : Heap) (C : Ec → Addr) (D : Addr) := CalleeMt P w K mg base 4 D "put_row" (spM K C 4 (fun i : DkS × Str × Int × Str => [.mu (dkA D i.1), .ro (fz (.str i.2.1)), .ro (fz (.int i.2.2.1)), .ro (fz (.str i.2.2.2))]) (fun i => i.1.es.length ≤ 1000 ∧ okOwn i.1.o ∧ i.2.2.2.length ≤ 400) (fun i => deedR D i.1 (opRow i.1.o i.2.1 i.2.2.1 i.2.2.2)))
theorem ok_put_row (Bt : Blt mg) (O : ClsO K D dNs) (Er : Errs K mg C) (G_rows_of : C_dk_rows_of P w K mg base C D) (G_settled : C_settled_on P w K mg base C D) (Dm : DfMt K D "put_row" "Desk.put_row" s_Desk_put_row) : C_put_row P w K mg base C D := by
  refine callee_ofMt Dm sc_Desk_put_row (fun _ _ _ _ _ _ us hl => match us, hl with | [_, _, _, _], _ => rfl) (fun f cdv A outer s H E c i hi ad => ?_)
  obtain ⟨⟨frm, o, es, iss⟩, n, a, x⟩ := i
  obtain ⟨hes, ho, hx⟩ := hi
  simp only at hes ho hx
  show Sxs _ _ _ [some (obj D dNs (dSs frm o es iss) (some (ad 0))), some (fz (.str n)), some (fz (.int a)), some (fz (.str x)), none, none] (bodyM ad [0] (deedR D ⟨frm, o, es, iss⟩ (opRow o n a x)))
  refine sxs_setE 4 (evm_meth 0 [] c O G_rows_of (⟨frm, o, es, iss⟩, n) ho rfl rfl (am_ro (Ev.s (ev_var 1 rfl)) am_nil)) (fun S ρ' hR => ?_) (fun cl ρ' hR => ?_) c.nd
  rotate_left
  · obtain ⟨outs, ⟨e2, e1⟩, e3⟩ := hR
    subst e2 e3
    cases e : look o n with
    | none =>
      simp only [e] at e1
      cases e1
      have hop : opRow o n a x = .error .noPart := by unfold opRow; rw [e]
      rw [hop]
      exact ⟨_, ⟨rfl, rfl⟩, rfl, trivial⟩
    | some r => simp only [e] at e1; cases e1
  obtain ⟨outs, ⟨e2, e1⟩, e3⟩ := hR
  subst e2 e3
  cases e : look o n with
  | none => simp only [e] at e1; cases e1
  | some r =>
    simp only [e] at e1
    cases e1
    have hr := ho.look e
    have hrl := hr.2.1
    show Sxs _ _ _ [some (obj D dNs (dSs frm o es iss) (some (ad 0))), some (fz (.str n)), some (fz (.int a)), some (fz (.str x)), some (ow none (r.map .str)), none] _
    refine sxs_freeze 4 rfl ?_
    refine sxs_if (t := decide (a < 0 ∨ a > r.length)) (tst_or2 (tst_cm (cm_lt (ev_var 2 rfl) ev_int)) (fun _ => tst_cm (cm_gt (ev_var 2 rfl) (ev_len Bt (Bv.bw (Ev.bv (ev_var 4 rfl)))))) (by rw [List.length_map, Bool.decide_or])) (fun h => ?_) (fun h => ?_)
    · have h := of_decide_eq_true h
      have hop : opRow o n a x = .error .noRow := by unfold opRow; rw [e]; exact if_pos h
      rw [hop]
      exact sxs_raiseD .noRow c Er.noRow ⟨_, ⟨rfl, rfl⟩, rfl, trivial⟩
    · have h := of_decide_eq_false h
      refine sxs_nil ?_
      refine sxs_if (t := decide (200 ≤ r.length)) ((tst_cm (cm_ge (ev_len Bt (Bv.bw (Ev.bv (ev_var 4 rfl)))) ev_int)).to (by
        rw [List.length_map]
        by_cases z : 200 ≤ r.length
        · rw [decide_eq_true z, decide_eq_true (by omega)]
        · rw [decide_eq_false z, decide_eq_false (by omega)])) (fun h2 => ?_) (fun h2 => ?_)
      · have h2 := of_decide_eq_true h2
        have hop : opRow o n a x = .error .tooLong := by unfold opRow; rw [e]; exact (if_neg h).trans (if_pos h2)
        rw [hop]
        exact sxs_raiseD .tooLong c Er.tooLong ⟨_, ⟨rfl, rfl⟩, rfl, trivial⟩
      · have h2 := of_decide_eq_false h2
        have hop : opRow o n a x = .ok (putO o n (rowIn r a.toNat x)) := by unfold opRow; rw [e]; exact (if_neg h).trans (if_neg h2)
        rw [hop]
        obtain ⟨k, rfl⟩ : ∃ k : Nat, a = k := ⟨a.toNat, by omega⟩
        have hk : k ≤ r.length := by omega
        refine sxs_nil ?_
        refine sxs_setS 5 (s_copyV Bt (dv_ev (ev_fld 0 1 O rfl rfl))) ?_ c.nd
        refine sxs_dputK (y := .inr n) (z := txF (rowIn r k x)) 5 c rfl (ev_join (ys := rowIn r k x) ev_str (Bv.bw (Fr.bv (Fr.to (fr_cat (Fr.bv (fr_cat (Fr.bv (fr_slice (Bv.bw (Ev.bv (ev_var 4 rfl))) evo_n (evo (ev_var 2 rfl)))) (Fr.bv (fr_lst (eva_cons (ev_var 3 rfl) eva_nil))) (szl (by rw [cut_take (by rw [List.length_map]; exact hk)]; simp; omega)))) (Fr.bv (fr_slice (Bv.bw (Ev.bv (ev_var 4 rfl))) (evo (ev_var 2 rfl)) evo_n)) (szl (by rw [cut_take (by rw [List.length_map]; exact hk), cut_drop (by rw [List.length_map]; exact hk)]; simp; omega))) (by
            rw [cut_take (by rw [List.length_map]; exact hk), cut_drop (by rw [List.length_map]; exact hk)]
            unfold rowIn
            rw [List.map_append, List.map_append, List.map_take, List.map_drop]
            rfl)))) (by
            have h1 := join_len (r := rowIn r k x) (fun y hy => by
              unfold rowIn at hy
              rcases List.mem_append.mp hy with hy | hy
              · rcases List.mem_append.mp hy with hy | hy
                · exact (hr.2.2 y (List.mem_of_mem_take hy)).2
                · obtain rfl := List.mem_singleton.mp hy; exact hx
              · exact (hr.2.2 y (List.mem_of_mem_drop hy)).2)
            have h3 : (rowIn r k x).length = r.length + 1 := by unfold rowIn; simp; omega
            have h4 : ("\n" : Str).length = 1 := by decide +kernel
            rw [h4]
            omega)) (ev_var 1 rfl) (by unfold kvO; rw [List.length_map]; exact small1000 (by have := ho.len; omega)) ?_
        rw [putP_kvO]
        refine sxs_freezeD 5 rfl ?_
        refine sxs_exprM (evm_meth 0 [] c O G_settled (⟨frm, o, es, iss⟩, putO o n (rowIn r k x)) hes rfl rfl (am_ro (Ev.s (ev_var 5 rfl)) am_nil)) (fun S ρ' hR => ?_) (fun cl ρ' hR => ?_)
        · obtain ⟨outs, ⟨_, e2⟩, e3⟩ := hR
          subst e2 e3
          exact sxs_nil ⟨_, ⟨rfl, rfl⟩, rfl, trivial⟩
        · obtain ⟨outs, ⟨e1, _⟩, _⟩ := hR
          cases e1
end
end Tl

/-! The pure-value layer: a list compared with the empty one, whatever its items. -/
namespace PV
open PySem PySem.Spec PyProof.Rows L2
section
variable {X : Cx} {W : Wc} {ρ : Env} {e a b : Expr} {es : List Expr} {pos : Pos} {C : Ec → Addr} {k : Nat}
theorem op_eq_nil (hu : X.A.units < cLine) : OpR X (compareOp .Eq) (fun x y H Q => ∃ (l b : Addr) (xs : List V), x = .ref l ∧ y = .ref b ∧ SqL X.K H l xs ∧ SqL X.K H b [] ∧ Q (.bl xs.isEmpty) H) := by
  intro pins s σ H x y v u Q I rx ry h
  obtain ⟨l, b, xs, rfl, rfl, h1, h2, q⟩ := h
  obtain rfl : v = Value.ref l := rx
  obtain rfl : u = Value.ref b := ry
  obtain ⟨its, r1, p1, z1⟩ := I.list h1
  obtain ⟨its2, r2, p2, z2⟩ := I.list h2
  cases r2
  cases r1 with
  | nil => exact SeqAt.eq_listAt (e := fun _ => true) p1.isList p2.isList (by simp) hu (fun j h1 _ => by simp at h1) ⟨.bl _, H, I, rfl, q⟩
  | cons r rr => exact SeqAt.eq_list_lengthsAt p1.isList p2.isList (by simp) hu ⟨.bl _, H, I, rfl, q⟩
theorem cm_eqNil {ds : List PyData} (c : Ctx X C W k) (ha : Bv X W ρ a ds) (hb : Fr X W ρ b []) : Cm X W ρ .Eq a b ds.isEmpty := ⟨fun pins s σ F H M Q I ok h =>
  binT ha.pe hb.pe I (R := fun x z H2 => ∃ (l b : Addr) (xs : List V), x = .ref l ∧ z = .ref b ∧ SqL X.K H2 l xs ∧ SqL X.K H2 b [] ∧ Q (.bl xs.isEmpty) H2) ⟨F, M, ok, fun x F1 H1 e1 ⟨l, vs, ex, h1, h2⟩ => ⟨F1, M, ok.ext e1, fun a2 vs2 F2 H2 e2 n1 n2 h3 h4 => by
      cases h4
      refine ⟨l, a2, vs, ex, rfl, .inl (same_rd e2.h h1), .inl (.of h3), ?_⟩
      have : vs.isEmpty = ds.isEmpty := by cases h2 <;> rfl
      rw [this]
      exact h F2 H2 (e1.trans e2)⟩⟩
    fun v u s2 x y H2 I2 rx ry q => op_eq_nil (Nat.lt_of_succ_lt c.hu) pins s2 σ H2 x y v u Q I2 rx ry q⟩
end
end PV

/-! The desk: a row cut, a deed taken back, the shelf told, the desk made. -/
namespace Tl
open PySem PySem.Spec PyProof.Rows L2 PV
/-- the numbers of a form -/
abbrev Fm := Int × Int × Int × Int
def fmD (f : Fm) : PyData := .tuple [.int f.1, .int f.2.1, .int f.2.2.1, .int f.2.2.2]
def fmOk (f : Fm) : Bool := !(decide (f.1 < 1) || (decide (f.1 > 200) || (decide (f.2.1 < 1) || decide (f.2.1 > 60)))) && !(decide (f.2.2.1 < 0) || (decide (f.2.2.1 > 10 ^ 60) || (decide (f.2.2.2 < 1) || decide (f.2.2.2 > 60))))
section
variable {P : Program} {w : World} {K : PySem.W.Frag} {mg : Str → Option Value} {base : Heap} {C : Ec → Addr} {D : Addr}
abbrev C_cut_row (P : Program) (w : World) (K : PySem.W.Frag) (mg : Str → Option Value) (base : Heap) (C : Ec → Addr) (D : Addr) := CalleeMt P w K mg base 4 D "cut_row" (spM K C 3 (fun i : DkS × Str × Int => [.mu (dkA D i.1), .ro (fz (.str i.2.1)), .ro (fz (.int i.2.2))]) (fun i => i.1.es.length ≤ 1000 ∧ okOwn i.1.o) (fun i => deedR D i.1 (opCut i.1.o i.2.1 i.2.2)))
theorem ok_cut_row (Bt : Blt mg) (O : ClsO K D dNs) (Er : Errs K mg C) (G_rows_of : C_dk_rows_of P w K mg base C D) (G_settled : C_settled_on P w K mg base C D) (Dm : DfMt K D "cut_row" "Desk.cut_row" s_Desk_cut_row) : C_cut_row P w K mg base C D := by
  refine callee_ofMt Dm sc_Desk_cut_row (fun _ _ _ _ _ _ us hl => match us, hl with | [_, _, _], _ => rfl) (fun f cdv A outer s H E c i hi ad => ?_)
  obtain ⟨⟨frm, o, es, iss⟩, n, a⟩ := i
  obtain ⟨hes, ho⟩ := hi
  simp only at hes ho
  show Sxs _ _ _ [some (obj D dNs (dSs frm o es iss) (some (ad 0))), some (fz (.str n)), some (fz (.int a)), none, none] (bodyM ad [0] (deedR D ⟨frm, o, es, iss⟩ (opCut o n a)))
  refine sxs_setE 3 (evm_meth 0 [] c O G_rows_of (⟨frm, o, es, iss⟩, n) ho rfl rfl (am_ro (Ev.s (ev_var 1 rfl)) am_nil)) (fun S ρ' hR => ?_) (fun cl ρ' hR => ?_) c.nd
  rotate_left
  · obtain ⟨outs, ⟨e2, e1⟩, e3⟩ := hR
    subst e2 e3
    cases e : look o n with
    | none =>
      simp only [e] at e1
      cases e1
      have hop : opCut o n a = .error .noPart := by unfold opCut; rw [e]
      rw [hop]
      exact ⟨_, ⟨rfl, rfl⟩, rfl, trivial⟩
    | some r => simp only [e] at e1; cases e1
  obtain ⟨outs, ⟨e2, e1⟩, e3⟩ := hR
  subst e2 e3
  cases e : look o n with
  | none => simp only [e] at e1; cases e1
  | some r =>
    simp only [e] at e1
    cases e1
    have hr := ho.look e
    have hrl := hr.2.1
    show Sxs _ _ _ [some (obj D dNs (dSs frm o es iss) (some (ad 0))), some (fz (.str n)), some (fz (.int a)), some (ow none (r.map .str)), none] _
    refine sxs_freeze 3 rfl ?_
    refine sxs_if (t := decide (a < 0 ∨ a ≥ r.length)) (tst_or2 (tst_cm (cm_lt (ev_var 2 rfl) ev_int)) (fun _ => tst_cm (cm_ge (ev_var 2 rfl) (ev_len Bt (Bv.bw (Ev.bv (ev_var 3 rfl)))))) (by rw [List.length_map, Bool.decide_or])) (fun h => ?_) (fun h => ?_)
    · have h := of_decide_eq_true h
      have hop : opCut o n a = .error .noRow := by unfold opCut; rw [e]; exact if_pos h
      rw [hop]
      exact sxs_raiseD .noRow c Er.noRow ⟨_, ⟨rfl, rfl⟩, rfl, trivial⟩
    · have h := of_decide_eq_false h
      have hop : opCut o n a = .ok (putO o n (orOne (rowOut r a.toNat))) := by unfold opCut; rw [e]; exact if_neg h
      rw [hop]
      obtain ⟨k, rfl⟩ : ∃ k : Nat, a = k := ⟨a.toNat, by omega⟩
      have hk : k + 1 ≤ r.length := by omega
      refine sxs_nil ?_
      refine sxs_setS 4 (s_copyV Bt (dv_ev (ev_fld 0 1 O rfl rfl))) ?_ c.nd
      have hc1 : PV.cutD (r.map PyData.str) none (some (k : Int)) = (r.map PyData.str).take k := cut_take (by rw [List.length_map]; omega)
      have hc2 : PV.cutD (r.map PyData.str) (some ((k + 1 : Nat) : Int)) none = (r.map PyData.str).drop (k + 1) := cut_drop (by rw [List.length_map]; omega)
      refine sxs_dputK (y := .inr n) (z := txF (orOne (rowOut r k))) 4 c rfl ((ev_join (ys := rowOut r k) ev_str (Bv.bw (Fr.bv (Fr.to (fr_cat (Fr.bv (fr_slice (Bv.bw (Ev.bv (ev_var 3 rfl))) evo_n (evo (ev_var 2 rfl)))) (Fr.bv (fr_slice (Bv.bw (Ev.bv (ev_var 3 rfl))) (evo ((ev_add (ev_var 2 rfl) ev_int).to (e := .int ((k + 1 : Nat) : Int)) rfl)) evo_n)) (szl (by rw [hc1, hc2]; simp; omega))) (by
          rw [hc1, hc2]
          unfold rowOut
          rw [List.map_append, List.map_take, List.map_drop])))) (by
          have h1 := join_len (r := rowOut r k) (fun y hy => by
            unfold rowOut at hy
            rcases List.mem_append.mp hy with hy | hy
            · exact (hr.2.2 y (List.mem_of_mem_take hy)).2
            · exact (hr.2.2 y (List.mem_of_mem_drop hy)).2)
          have h3 : (rowOut r k).length ≤ r.length := by unfold rowOut; simp; omega
          have h4 : ("\n" : Str).length = 1 := by decide +kernel
          rw [h4]
          omega)).to (by unfold txF; rw [join_or]; rfl)) (ev_var 1 rfl) (by unfold kvO; rw [List.length_map]; exact small1000 (by have := ho.len; omega)) ?_
      rw [putP_kvO]
      refine sxs_freezeD 4 rfl ?_
      refine sxs_exprM (evm_meth 0 [] c O G_settled (⟨frm, o, es, iss⟩, putO o n (orOne (rowOut r k))) hes rfl rfl (am_ro (Ev.s (ev_var 4 rfl)) am_nil)) (fun S ρ' hR => ?_) (fun cl ρ' hR => ?_)
      · obtain ⟨outs, ⟨_, e2⟩, e3⟩ := hR
        subst e2 e3
        exact sxs_nil ⟨_, ⟨rfl, rfl⟩, rfl, trivial⟩
      · obtain ⟨outs, ⟨e1, _⟩, _⟩ := hR
        cases e1
/-- what taking back comes to -/
def undoR (D : Addr) (s : DkS) : Except Ec Slot → List Asl → Prop := fun out outs => match s.es.getLast? with
  | none => out = .error .nothingDone ∧ outs = [dkA D s]
  | some o => out = .ok (fz .none) ∧ outs = [dkA D ⟨s.frm, o, s.es.dropLast, s.iss⟩]
abbrev C_undo (P : Program) (w : World) (K : PySem.W.Frag) (mg : Str → Option Value) (base : Heap) (C : Ec → Addr) (D : Addr) := CalleeMt P w K mg base 1 D "undo" (spM K C 1 (fun s : DkS => [.mu (dkA D s)]) (fun _ => True) (undoR D))
theorem ok_undo (O : ClsO K D dNs) (Er : Errs K mg C) (Dm : DfMt K D "undo" "Desk.undo" s_Desk_undo) : C_undo P w K mg base C D := by
  refine callee_ofMt Dm sc_Desk_undo (fun _ _ _ _ _ _ us hl => match us, hl with | [_], _ => rfl) (fun f cdv A outer s H E c i _ ad => ?_)
  obtain ⟨frm, o, es, iss⟩ := i
  show Sxs _ _ _ [some (obj D dNs (dSs frm o es iss) (some (ad 0)))] (bodyM ad [0] (undoR D ⟨frm, o, es, iss⟩))
  refine sxs_if (t := es.isEmpty) ((tst_cm (cm_eqNil c (bv_fld 0 2 O rfl rfl) (fr_lst eva_nil))).to (by rw [List.isEmpty_map])) (fun h => ?_) (fun h => ?_)
  · have h : es = [] := by simpa using h
    subst h
    exact sxs_raiseD .nothingDone c Er.nothing ⟨_, ⟨rfl, rfl⟩, rfl, trivial⟩
  · obtain ⟨es', o', rfl⟩ : ∃ es' o', es = es' ++ [o'] := by
      cases q : es.reverse with
      | nil => have : es = [] := by simpa using q
               subst this; cases h
      | cons x l => exact ⟨l.reverse, x, by have := congrArg List.reverse q; simpa using this⟩
    refine sxs_nil ?_
    refine sxs_fldM 0 1 O (evm_fpop 0 2 (q := none) (ds := es'.map shD) (z := shD o') O rfl (by simp [dSs])) (fun S ρ' hR => ?_) (fun cl ρ' hR => ?_)
    · obtain ⟨e1, e2⟩ := hR
      cases e1
      subst e2
      refine ⟨_, _, rfl, by simp, sxs_nil ⟨[dkA D ⟨frm, o', es', iss⟩], ?_, rfl, trivial⟩⟩
      show (match (es' ++ [o']).getLast? with | none => _ | some o => _)
      rw [List.getLast?_concat]
      refine ⟨rfl, ?_⟩
      rw [List.dropLast_concat]
    · obtain ⟨e1, _⟩ := hR
      cases e1
abbrev C_shelf (P : Program) (w : World) (K : PySem.W.Frag) (mg : Str → Option Value) (base : Heap) (C : Ec → Addr) (D : Addr) := CalleeMt P w K mg base 1 D "shelf" (spM K C 1 (fun s : DkS => [.mu (dkA D s)]) (fun _ => True) (fun s out outs => out = .ok (dk (kvO txF s.o)) ∧ outs = [dkA D s]))
theorem ok_shelf (Bt : Blt mg) (O : ClsO K D dNs) (Dm : DfMt K D "shelf" "Desk.shelf" s_Desk_shelf) : C_shelf P w K mg base C D := by
  refine callee_ofMt Dm sc_Desk_shelf (fun _ _ _ _ _ _ us hl => match us, hl with | [_], _ => rfl) (fun f cdv A outer s H E c i _ ad => ?_)
  obtain ⟨frm, o, es, iss⟩ := i
  show Sxs _ _ _ [some (obj D dNs (dSs frm o es iss) (some (ad 0)))] _
  exact sxs_retS (s_copyV Bt (dv_ev (ev_fld 0 1 O rfl rfl))) ⟨_, ⟨rfl, rfl⟩, rfl, trivial⟩
abbrev C_check_form (P : Program) (w : World) (K : PySem.W.Frag) (mg : Str → Option Value) (base : Heap) (C : Ec → Addr) := Callee P w K mg base 1 "check_form" (spP K C 1 (fun f : Fm => [fz (fmD f)]) (fun _ => True) (fun f => is (if fmOk f then .ok (fz .none) else .error .badForm)))
theorem ok_check_form (Er : Errs K mg C) (Df0 : Df K mg "check_form" s_check_form) : C_check_form P w K mg base C := by
  refine callee_of Df0 sc_check_form (fun _ _ _ _ _ _ us hl => match us, hl with | [_], _ => rfl) (fun f cdv A outer s H E c i _ => ?_)
  obtain ⟨wi, hi, fi, mo⟩ := i
  show Sxs _ _ _ [some (fz (fmD (wi, hi, fi, mo))), none, none, none, none] _
  refine sxs_unpack (tg_tup c.calm (tgs_cons 1 c.nd (tgs_cons 2 c.nd (tgs_cons 3 c.nd (tgs_cons 4 c.nd tgs_nil))))) (ev_var 0 rfl) rfl ?_
  refine sxs_if (Tws.tst (tw_or (tst_cm (cm_lt (ev_var 1 rfl) ev_int)) fun h => (tw_or (tst_cm (cm_gt (ev_var 1 rfl) ev_int)) fun h => (tw_or (tst_cm (cm_lt (ev_var 2 rfl) ev_int)) fun h => (tw_or1 (tst_cm (cm_gt (ev_var 2 rfl) ev_int))))))) (fun h => ?_) (fun h => ?_)
  · refine sxs_raiseD .badForm c Er.badForm ?_
    show _ = _
    rw [if_neg]
    unfold fmOk
    rw [h]
    exact fun z => nomatch z
  · refine sxs_nil ?_
    refine sxs_if (Tws.tst (tw_or (tst_cm (cm_lt (ev_var 3 rfl) ev_int)) fun h => (tw_or (tst_cm (cm_gt (ev_var 3 rfl) (ev_pow ⟨by decide, by decide, by decide⟩ ev_int ev_int))) fun h => (tw_or (tst_cm (cm_lt (ev_var 4 rfl) ev_int)) fun h => (tw_or1 (tst_cm (cm_gt (ev_var 4 rfl) ev_int))))))) (fun h2 => ?_) (fun h2 => ?_)
    · refine sxs_raiseD .badForm c Er.badForm ?_
      show _ = _
      rw [if_neg]
      unfold fmOk
      have h2 : (decide (fi < 0) || (decide (fi > 10 ^ 60) || (decide (mo < 1) || decide (mo > 60)))) = true := h2
      rw [h2, Bool.not_true, Bool.and_false]
      exact fun z => nomatch z
    · refine sxs_nil ?_
      refine sxs_nil ?_
      show _ = _
      rw [if_pos]
      unfold fmOk
      have h2 : (decide (fi < 0) || (decide (fi > 10 ^ 60) || (decide (mo < 1) || decide (mo > 60)))) = false := h2
      rw [h, h2]
      rfl
/-- a new desk -/
def newR (D : Addr) (f : Fm) : Except Ec Slot → List Asl → Prop := fun out outs =>
  if fmOk f then out = .ok (fz .none) ∧ outs = [dkA D ⟨fmD f, [], [], .list []⟩] else out = .error .badForm ∧ outs = [objA D [] []]
abbrev C_Desk (P : Program) (w : World) (K : PySem.W.Frag) (mg : Str → Option Value) (base : Heap) (C : Ec → Addr) (D : Addr) := CalleeMk P w K mg base 2 D "Desk" (spM K C 2 (fun f : Fm => [.mu (objA D [] []), .ro (fz (fmD f))]) (fun _ => True) (newR D))
theorem ok_Desk (O : ClsO K D dNs) (G_check_form : C_check_form P w K mg base C) (Dm : DfMk K mg D "Desk" "Desk.__init__" s_Desk___init__) : C_Desk P w K mg base C D := by
  refine callee_ofMk Dm sc_Desk___init__ (fun _ _ _ _ _ _ us hl => match us, hl with | [_, _], _ => rfl) (fun f cdv A outer s H E c i _ ad => ?_)
  show Sxs _ _ _ [some (obj D [] [] (some (ad 0))), some (fz (fmD i))] (bodyM ad [0] (newR D i))
  refine sxs_exprR (r := if fmOk i then .ok .none else .error .badForm) (evR_call c G_check_form i trivial (fun o h => by
    have h : o = _ := h
    rw [h]
    split <;> rfl) (as_cons (Ev.s (ev_var 1 rfl)) as_nil)) (fun d hd => ?_) (fun cl hc => ?_)
  · have hk : fmOk i = true := by
      cases q : fmOk i with
      | true => rfl
      | false => rw [q] at hd; cases hd
    refine sxs_fldN 0 O rfl (Ev.sl (ev_var 1 rfl)) ?_
    refine sxs_fldN 0 O rfl (Ev.sl (FrS.lock s_dk)) ?_
    refine sxs_fldN 0 O rfl (Fr.slo (fr_lst eva_nil)) ?_
    refine sxs_fldN 0 O rfl (Ev.sl (Fr.ev (fr_lst eva_nil))) ?_
    refine sxs_nil ⟨[dkA D ⟨fmD i, [], [], .list []⟩], ?_, rfl, trivial⟩
    unfold newR
    rw [if_pos hk]
    exact ⟨rfl, rfl⟩
  · have hk : ¬ fmOk i = true := by
      intro q
      rw [if_pos q] at hc
      cases hc
    rw [if_neg hk] at hc
    cases hc
    refine ⟨[objA D [] []], ?_, rfl, trivial⟩
    unfold newR
    rw [if_neg hk]
    exact ⟨rfl, rfl⟩
end
end Tl

/-! Deeds at the desk. -/
namespace Tl
open PySem PySem.Spec PyProof.Rows L2 PV
inductive Deed where
  | put (n : Str) (a : Int) (r : List Str) | row (n : Str) (a : Int) (x : Str) | cut (n : Str) (a : Int) (x : Str) | drop (n : Str) (a : Int) (x : Str)
def deedD : Deed → PyData
  | .put n a r => .tuple [.str "put", .str n, .int a, txF r]
  | .row n a x => .tuple [.str "row", .str n, .int a, .str x]
  | .cut n a x => .tuple [.str "cut", .str n, .int a, .str x]
  | .drop n a x => .tuple [.str "drop", .str n, .int a, .str x]
def opDeed (o : Own) : Deed → Except Ec Own
  | .put n _ r => opPut o n r
  | .row n a x => opRow o n a x
  | .cut n a _ => opCut o n a
  | .drop n _ _ => opDrop o n
def okDeed : Deed → Prop
  | .put n _ r => n.length ≤ 10000 ∧ okRows r
  | .row n _ x => n.length ≤ 10000 ∧ 10 ∉ x.cps.toList ∧ x.length ≤ 400
  | .cut n _ _ => n.length ≤ 10000
  | .drop n _ _ => n.length ≤ 10000
def hl : List Ec := [.badName, .noPart, .noRow, .twice, .tooLong, .nothingDone]
/-- which error is caught by which clause -/
def Exm (K : PySem.W.Frag) (C : Ec → Addr) : Prop := ∀ i j : Nat, j ≤ i → ∀ c h, hl[i]? = some c → hl[j]? = some h → PySem.W.exmOne K (.ref (C c)) (.ref (C h)) = some (decide (i = j))
def dOpt : Option Deed → PyData
  | some d => deedD d
  | none => .tuple [.str "undo", .str "", .int 0, .str ""]
/-- the error of a deed, or the desk behind it -/
def stepD (s : DkS) : Option Deed → Except Ec DkS
  | some d => (opDeed s.o d).map s.go
  | none => match s.es.getLast? with
    | none => .error .nothingDone
    | some o => .ok ⟨s.frm, o, s.es.dropLast, s.iss⟩
def okOpt : Option Deed → Prop
  | some d => okDeed d
  | none => True
theorem err_in {o : Own} {d : Deed} {c : Ec} (h : opDeed o d = .error c) : c ∈ hl := by
  cases d with
  | put n a r =>
    have h : opPut o n r = .error c := h
    unfold opPut at h
    split at h
    · cases h; decide
    · split at h
      · cases h; decide
      · split at h
        · cases h; decide
        · cases h
  | row n a x =>
    have h : opRow o n a x = .error c := h
    unfold opRow at h
    split at h
    · cases h; decide
    · split at h
      · cases h; decide
      · split at h
        · cases h; decide
        · cases h
  | cut n a x =>
    have h : opCut o n a = .error c := h
    unfold opCut at h
    split at h
    · cases h; decide
    · split at h
      · cases h; decide
      · cases h
  | drop n a x =>
    have h : opDrop o n = .error c := h
    unfold opDrop at h
    split at h
    · cases h
    · cases h; decide
def kdO : Option Deed → Str
  | none => "undo" | some (.put _ _ _) => "put" | some (.row _ _ _) => "row" | some (.cut _ _ _) => "cut" | some (.drop _ _ _) => "drop"
def nmO : Option Deed → Str
  | none => "" | some (.put n _ _) => n | some (.row n _ _) => n | some (.cut n _ _) => n | some (.drop n _ _) => n
def aO : Option Deed → Int
  | none => 0 | some (.put _ a _) => a | some (.row _ a _) => a | some (.cut _ a _) => a | some (.drop _ a _) => a
def txO : Option Deed → Str
  | none => "" | some (.put _ _ r) => joinN r | some (.row _ _ x) => x | some (.cut _ _ x) => x | some (.drop _ _ x) => x
theorem dOpt_eq (d : Option Deed) : dOpt d = .tuple [.str (kdO d), .str (nmO d), .int (aO d), .str (txO d)] := by
  cases d with
  | none => rfl
  | some d => cases d <;> rfl
end Tl

/-! The pure-value layer: tests over calls that change what names own. -/
namespace PV
open PySem PySem.Spec PyProof.Rows L2
section
variable {X : Cx} {W : Wc} {ρ : Env} {e a b : Expr} {es : List Expr} {pos : Pos} {C : Ec → Addr} {k : Nat} {rest : List Stmt} {Φ : Out → Prop}
/-- a or b, both may change things -/
theorem tstM_or2 {Ra Rb : Except Ec Bool → Env → Prop} (R : Except Ec Bool → Env → Prop) (h : TstM X W ρ a Ra) (h1 : ∀ ρ', Ra (.ok true) ρ' → R (.ok true) ρ') (h2 : ∀ ρ', Ra (.ok false) ρ' → TstM X W ρ' b Rb ∧ ∀ o ρ2, Rb o ρ2 → R o ρ2) (he : ∀ c ρ', Ra (.error c) ρ' → R (.error c) ρ') :
    TstM X W ρ (.BoolOp .Or [a, b] pos) R :=
  ⟨fun pins s σ F H M B F0 Q I ok q1 q2 => (pw_or (pt_tstM (W := W)) (pw_or1 (pt_tstM (W := W)))).run _ pins s σ H Q I ⟨ρ, Ra, F, M, B, F0, h, ok, fun t ρ' hR F' H' M' x => by
    cases t with
    | true => exact iteT (q1 true ρ' (h1 ρ' hR) F' H' M' x)
    | false =>
      obtain ⟨hb, hc⟩ := h2 ρ' hR
      exact iteF ⟨ρ', Rb, F', M', B, F0, hb, x, fun t ρ2 hR2 => q1 t ρ2 (hc _ _ hR2), fun c ρ2 hR2 => q2 c ρ2 (hc _ _ hR2)⟩, fun c ρ' hR F' H' M' x => q2 c ρ' (he c ρ' hR) F' H' M' x⟩⟩
def tEvG (X : Cx) (W : Wc) (b : Expr) : TE := fun σ H Q => ∃ ρ F M db, Ev X W ρ b db ∧ EOk X.K ρ F σ H M ∧ ∀ v F' H', Ext F H F' H' → Dq X.K F' v db → Q v H'
theorem pe_evG : PE X b (tEvG X W b) := ⟨fun pins s σ H Q I ⟨ρ, F, M, db, h, ok, q⟩ => h pins s σ F H M Q I ok (fun d hd v F' H' x dv => by cases hd; exact q v F' H' x dv) fun c hc => nomatch hc⟩
/-- a != b, a a call that may change things -/
theorem tstM_neD {R : Except Ec Slot → Env → Prop} (Rt : Except Ec Bool → Env → Prop) (c : Ctx X C W k) (h : EvM X W ρ a R)
    (h1 : ∀ S ρ', R (.ok S) ρ' → ∃ da db, S = fz da ∧ Ev X W ρ' b db ∧ SeqAt.shaped da = true ∧ SeqAt.shaped db = true ∧ Rt (.ok (!PyData.eqv da db)) ρ') (he : ∀ cl ρ', R (.error cl) ρ' → Rt (.error cl) ρ') :
    TstM X W ρ (.Compare a [.NotEq] [b] pos) Rt := ⟨fun pins s σ F H M B F0 Q I ok q1 q2 =>
  (pt_cmp (t := fun σ H Q => ∃ F M B F0, PInv X.K B F0 ρ F σ H M ∧ (∀ t ρ', Rt (.ok t) ρ' → ∀ F' H' M', PInv X.K B F0 ρ' F' σ H' M' → Q (.bl t) H') ∧ (∀ cl ρ', Rt (.error cl) ρ' → ∀ F' H' M', PInv X.K B F0 ρ' F' σ H' M' → W cl σ H')) ⟨fun pins s σ H Q I ⟨F, M, B, F0, ok, q1, q2⟩ =>
    binT h.pe (pe_evG (W := W)) I (R := fun x z H2 => rNeD X.K x z H2 Q) ⟨F, M, B, F0, ok, fun S ρ' hR v F' H' M' m y hv hm => by
      obtain ⟨da, db, rfl, hb, sa, sb, hRt⟩ := h1 S ρ' hR
      refine ⟨ρ', F', M', db, hb, y.ok, fun u F2 H2 x2 du => ⟨da, db, ?_, ?_, sa, sb, q1 _ ρ' hRt F2 H2 M' (y.ext x2)⟩⟩
      · exact (dq_mono x2.sub _ _ (dq_mono x2.f _ _ hv.2)).dp _ _ (can0_of_shaped sa)
      · exact (dq_mono x2.sub _ _ du).dp _ _ (can0_of_shaped sb), fun cl ρ' hR F' H' M' y => q2 cl ρ' (he cl ρ' hR) F' H' M' y⟩
      fun v u s2 x y H2 I2 rx ry q => op_neD c.room.units pins s2 σ H2 x y v u Q I2 rx ry q⟩ (nobehind _ (by decide) (by decide))).run pins s σ H Q I ⟨F, M, B, F0, ok, fun t ρ' hRt F' H' M' y => ⟨t, rfl, q1 t ρ' hRt F' H' M' y⟩, q2⟩⟩
/-- a is not None, a a call that may change things -/
theorem tstM_notN {R : Except Ec Slot → Env → Prop} {j : Nat} {pos' : Pos} (h : EvM X W ρ a R) (hS : ∀ S ρ', R (.ok S) ρ' → ∃ d, S = fz d) :
    TstM X W ρ (.Compare a [.IsNot] [.Constant .none j pos'] pos) (fun o ρ' => match o with | .ok t => ∃ d, R (.ok (fz d)) ρ' ∧ t = !isNone d | .error c => R (.error c) ρ') := ⟨fun pins s σ F H M B F0 Q I ok q1 q2 =>
  (pt_cmp (pc_notN h.pe) (nobehind _ (by decide) (by decide))).run pins s σ H Q I ⟨F, M, B, F0, ok, fun S ρ' hR v F' H' M' m y hv hm => by
    obtain ⟨d, rfl⟩ := hS S ρ' hR
    refine ⟨!isNone d, ?_, q1 _ ρ' ⟨d, hR, rfl⟩ F' H' M' y⟩
    rw [dq_none hv.2], q2⟩⟩
end
end PV

/-! The pure-value layer: `a != b or not e`, where both calls come to one thing. -/
namespace PV
open PySem PySem.Spec PyProof.Rows L2
section
variable {X : Cx} {W : Wc} {ρ ρ1 ρ2 : Env} {e a b : Expr} {es : List Expr} {pos p1 p2 : Pos} {C : Ec → Addr} {k : Nat} {rest body els : List Stmt} {Φ : Out → Prop} {da : PyData} {Ra Re : Except Ec Slot → Env → Prop}
theorem tstM_neSame (c : Ctx X C W k) (h : EvM X W ρ a Ra) (h1 : ∀ o ρ', Ra o ρ' → o = .ok (fz da) ∧ ρ' = ρ1) (hb : Ev X W ρ1 b da) (sa : SeqAt.shaped da = true) (hq : PyData.eqv da da = true) :
    TstM X W ρ (.Compare a [.NotEq] [b] pos) (fun o ρ' => o = .ok false ∧ ρ' = ρ1) :=
  tstM_neD _ c h (fun S ρ' hR => by
    obtain ⟨e1, rfl⟩ := h1 _ _ hR
    cases e1
    exact ⟨da, da, rfl, hb, sa, sa, by rw [hq]; exact ⟨rfl, rfl⟩⟩) fun cl ρ' hR => nomatch (h1 _ _ hR).1
theorem tstM_one {Rb : Except Ec Slot → Env → Prop} {t : Bool} (h : EvM X W ρ e Rb) (h1 : ∀ o ρ', Rb o ρ' → o = .ok (fz (.bool t)) ∧ ρ' = ρ1) (he : ∀ whole, isTrue e X.env whole = (do let v ← whole; standAt e.pos; holding [v] (truthy v)) := by intro _; rfl) : TstM X W ρ e (fun o ρ' => o = .ok t ∧ ρ' = ρ1) :=
  ⟨fun pins s σ F H M B F0 Q I ok q1 q2 => (tstM_val h (fun S ρ' hR => ⟨t, Except.ok.inj (h1 _ _ hR).1⟩) he) pins s σ F H M B F0 Q I ok (fun b ρ' hR => by
    obtain ⟨e1, rfl⟩ := h1 _ _ hR
    have e2 : fz (.bool b) = fz (.bool t) := Except.ok.inj e1
    have : b = t := by
      have z : (fz (.bool b)).R X.K (fun _ => none) (.bl b) [] := ⟨rfl, .bl b⟩
      rw [e2] at z
      obtain ⟨_, z⟩ := z
      exact V.bl.inj (dq_bl z)
    subst this
    exact q1 b ρ' ⟨rfl, rfl⟩) fun cl ρ' hR => nomatch (h1 _ _ hR).1⟩
theorem tstM_notOne {t : Bool} (h : TstM X W ρ e (fun o ρ' => o = .ok t ∧ ρ' = ρ1)) : TstM X W ρ (.UnaryOp .Not e pos) (fun o ρ' => o = .ok (!t) ∧ ρ' = ρ1) :=
  ⟨fun pins s σ F H M B F0 Q I ok q1 q2 => tstM_not h pins s σ F H M B F0 Q I ok (fun b ρ' hR => q1 b ρ' ⟨by
    have : (!b) = t := Except.ok.inj hR.1
    rw [← this, Bool.not_not], hR.2⟩) fun cl ρ' hR => nomatch hR.1⟩
theorem tstM_orOne {p q : Bool} (h : TstM X W ρ a (fun o ρ' => o = .ok p ∧ ρ' = ρ1)) (hp : p = false) (h2 : TstM X W ρ1 b (fun o ρ' => o = .ok q ∧ ρ' = ρ2)) : TstM X W ρ (.BoolOp .Or [a, b] pos) (fun o ρ' => o = .ok q ∧ ρ' = ρ2) :=
  tstM_or2 (Rb := fun o ρ' => o = .ok q ∧ ρ' = ρ2) _ h (fun ρ' hR => by subst hp; exact nomatch hR.1) (fun ρ' hR => ⟨hR.2.symm ▸ h2, fun o ρ2 h => h⟩) fun cl ρ' hR => nomatch hR.1
/-- if where the test comes to one thing -/
theorem sxs_ifOne {t : Bool} (h : TstM X W ρ e (fun o ρ' => o = .ok t ∧ ρ' = ρ1)) (ht : t = true → Sxs X W body ρ1 (thenS X W rest Φ)) (hf : t = false → Sxs X W els ρ1 (thenS X W rest Φ)) : Sxs X W (.If e body els pos :: rest) ρ Φ :=
  sxs_ifM h (fun ρ' hR => by obtain ⟨e1, rfl⟩ := hR; exact ht (Except.ok.inj e1).symm) (fun ρ' hR => by obtain ⟨e1, rfl⟩ := hR; exact hf (Except.ok.inj e1).symm) fun cl ρ' hR => nomatch hR.1
/-- if a != b or not e: .., where a comes to b and e to True -/
theorem sxs_ifSame (c : Ctx X C W k) (h : EvM X W ρ a Ra) (h1 : ∀ o ρ', Ra o ρ' → o = .ok (fz da) ∧ ρ' = ρ1) (hb : Ev X W ρ1 b da) (sa : SeqAt.shaped da = true) (hq : PyData.eqv da da = true) (hs : EvM X W ρ1 e Re) (h2 : ∀ o ρ', Re o ρ' → o = .ok (fz (.bool true)) ∧ ρ' = ρ2)
    (he : ∀ whole, isTrue e X.env whole = (do let v ← whole; standAt e.pos; holding [v] (truthy v)) := by intro _; rfl) (hc : Sxs X W els ρ2 (thenS X W rest Φ)) {p3 : Pos} : Sxs X W (.If (.BoolOp .Or [.Compare a [.NotEq] [b] p1, .UnaryOp .Not e p2] pos) body els p3 :: rest) ρ Φ :=
  sxs_ifOne (tstM_orOne (tstM_neSame c h h1 hb sa hq) rfl (tstM_notOne (tstM_one hs h2 he))) (fun h => nomatch h) fun _ => hc
end
end PV

/-! The pure-value layer: a name's list popped; two dicts of texts compared. -/
namespace PV
open PySem PySem.Spec PyProof.Rows L2
section
variable {X : Cx} {W : Wc} {ρ ρ1 : Env} {e a b : Expr} {es : List Expr} {pos p : Pos} {C : Ec → Addr} {k : Nat} {rest : List Stmt} {Φ : Out → Prop}
/-- x.pop(), the last of the frozen things that a name's list holds -/
theorem evm_pop (i : Nat) {x : Str} {px pb : Pos} {q : Option Addr} {ds : List PyData} {z : PyData} (hd : ρ[i]? = some (some (ow q (ds ++ [z]))))
    (hp : PE X (.Call (.Attribute (.Name x px) "pop" pb) [] [] p) (tBM0 X.K "list" rPop (tVar i)) := by exact pe_bm0 PySem.F.plainAttrs_list PySem.F.slot_list_pop PySem.F.type_list_pop mt_pop (pv _)) :
    EvM X W ρ (.Call (.Attribute (.Name x px) "pop" pb) [] [] p) (fun o ρ' => o = .ok (fz z) ∧ ρ' = ρ.set i (some (ow q ds))) :=
  ⟨fun pins s σ F H M B F0 Q I ok g1 _ => hp.run pins s σ H Q I (by
    obtain ⟨v, hσ, a, vs, rfl, hM, hpq, dvs⟩ := ok.ok.at_ i _ hd
    have hH : H a = some (.lst vs) := (ok.ok.own i a _ (by rw [hM]; exact List.mem_cons_self)).1
    have hl := DqAll_len dvs
    rw [List.length_append, List.length_singleton] at hl
    obtain ⟨u, hu, du⟩ := DqAll_get (i := ds.length) dvs (by rw [List.getElem?_append_right (Nat.le_refl _), Nat.sub_self]; rfl)
    have hd' : DqAll X.K F vs.dropLast ds := by
      have := DqAll_take ds.length dvs
      rw [List.take_left' rfl] at this
      rw [List.dropLast_eq_take, hl, Nat.add_sub_cancel]
      exact this
    exact ⟨.ref a, hσ, ty_lst hH, a, vs, u, rfl, rfl, hH, by rw [hl, Nat.add_sub_cancel]; exact hu, g1 (fz z) _ ⟨rfl, rfl⟩ u F _ _ [] (ok.mut hd hσ hpq hM hd') ⟨rfl, du⟩ fun _ _ z => nomatch z⟩)⟩
theorem KvR.strs {K : PySem.W.Frag} {F : Hp} : ∀ {ps : List (Key × V)} {zs : List (Key × Str)}, KvR K F ps (zs.map fun z => (z.1, .str z.2)) → ps = zs.map fun z => (z.1, .str z.2)
  | [], [], _ => rfl
  | _ :: _, z :: zs, .cons h t => by
    rw [List.map_cons, KvR.strs t]
    congr 1
    exact Prod.ext h.1 (dq_str h.2)
theorem strs_same {zs : List (Key × Str)} (nd : (zs.map (·.1)).Nodup) : ∀ p ∈ zs.map (fun z => (z.1, V.str z.2)), valV (zs.map fun z => (z.1, V.str z.2)) p.1 = some p.2 ∧ flatB p.2 = true := fun p hp =>
  ⟨val_nodup (by rw [List.map_map]; exact nd) p hp, by
    obtain ⟨z, _, rfl⟩ := List.mem_map.mp hp
    rfl⟩
/-- x == y, two names' dicts of the same texts -/
theorem cm_eqDk {zs : List (Key × Str)} {x y : Str} {px py : Pos} (c : Ctx X C W k) (i j : Nat) (hi : ρ[i]? = some (some (dk (zs.map fun z => (z.1, .str z.2))))) (hj : ρ[j]? = some (some (dk (zs.map fun z => (z.1, .str z.2))))) (nd : (zs.map (·.1)).Nodup)
    (pi : PE X (.Name x px) (tVar i) := by exact pv _) (pj : PE X (.Name y py) (tVar j) := by exact pv _) : Cm X W ρ .Eq (.Name x px) (.Name y py) true := ⟨fun pins s σ F H M Q I ok h =>
  binT pi pj I (R := fun x z H2 => rEqDA x z H2 Q) (by
    obtain ⟨v, hv, a, ps, rfl, hm, r⟩ := ok.at_ i _ hi
    obtain ⟨u, hu, b, qs, rfl, hn, r'⟩ := ok.at_ j _ hj
    have e1 := r.strs
    have e2 := r'.strs
    subst e1 e2
    exact ⟨_, hv, ⟨_, hu, ⟨a, b, _, _, rfl, rfl, (ok.own i a _ (by rw [hm]; exact List.mem_cons_self)).1, (ok.own j b _ (by rw [hn]; exact List.mem_cons_self)).1, rfl, strs_same nd, h F H (.refl ok.sub)⟩⟩⟩)
    fun v u s2 x y H2 I2 rx ry q => op_eq_dictA (Nat.lt_of_succ_lt c.hu) pins s2 σ H2 x y v u Q I2 rx ry q⟩
/-- e != y, a call that makes a dict of the same texts as y's -/
theorem tstM_neDk {R : Except Ec Slot → Env → Prop} {zs : List (Key × Str)} {y : Str} {py : Pos} (c : Ctx X C W k) (j : Nat) (h : EvM X W ρ a R) (h1 : ∀ o ρ', R o ρ' → o = .ok (dk (zs.map fun z => (z.1, .str z.2))) ∧ ρ' = ρ1) (hj : ρ1[j]? = some (some (dk (zs.map fun z => (z.1, .str z.2))))) (nd : (zs.map (·.1)).Nodup)
    (pj : PE X (.Name y py) (tVar j) := by exact pv _) : TstM X W ρ (.Compare a [.NotEq] [.Name y py] pos) (fun o ρ' => o = .ok false ∧ ρ' = ρ1) := ⟨fun pins s σ F H M B F0 Q I ok q1 q2 =>
  (pt_cmp (t := fun σ H Q => ∃ F M B F0, PInv X.K B F0 ρ F σ H M ∧ (∀ F' H' M', PInv X.K B F0 ρ1 F' σ H' M' → Q (.bl false) H')) ⟨fun pins s σ H Q I ⟨F, M, B, F0, ok, q1⟩ =>
    binT h.pe pj I (R := fun x z H2 => rNeDA x z H2 Q) ⟨F, M, B, F0, ok, fun S ρ' hR v F' H' M' m yy hv hm => by
      obtain ⟨e1, rfl⟩ := h1 _ _ hR
      cases e1
      obtain ⟨a, ps, rfl, e3, r⟩ := hv
      obtain ⟨u, hu, b, qs, rfl, hn, r'⟩ := yy.ok.at_ j _ hj
      have e1 := r.strs
      have e2 := r'.strs
      subst e1 e2
      exact ⟨_, hu, ⟨a, b, _, _, rfl, rfl, (hm a _ (by rw [e3]; exact List.mem_cons_self)).1, (yy.ok.own j b _ (by rw [hn]; exact List.mem_cons_self)).1, rfl, strs_same nd, q1 F' H' M' yy⟩⟩, fun cl ρ' hR F' H' M' y => nomatch (h1 _ _ hR).1⟩
      fun v u s2 x y H2 I2 rx ry q => op_ne_dictA (Nat.lt_of_succ_lt c.hu) pins s2 σ H2 x y v u Q I2 rx ry q⟩ (nobehind _ (by decide) (by decide))).run pins s σ H Q I ⟨F, M, B, F0, ok, fun F' H' M' y => ⟨false, rfl, q1 false ρ1 ⟨rfl, rfl⟩ F' H' M' y⟩⟩⟩
/-- a == b, a a call that comes to what b is -/
theorem evm_eqSame {da : PyData} {Ra : Except Ec Slot → Env → Prop} (c : Ctx X C W k) (h : EvM X W ρ a Ra) (h1 : ∀ o ρ', Ra o ρ' → o = .ok (fz da) ∧ ρ' = ρ1) (hb : Ev X W ρ1 b da) (sa : SeqAt.shaped da = true) (hq : PyData.eqv da da = true) :
    EvM X W ρ (.Compare a [.Eq] [b] pos) (fun o ρ' => o = .ok (fz (.bool true)) ∧ ρ' = ρ1) := ⟨fun pins s σ F H M B F0 Q I ok q1 q2 =>
  (pe_cmp (t := fun σ H Q => ∃ F M B F0, PInv X.K B F0 ρ F σ H M ∧ (∀ F' H' M', PInv X.K B F0 ρ1 F' σ H' M' → Q (.bl true) H')) ⟨fun pins s σ H Q I ⟨F, M, B, F0, ok, q1⟩ =>
    binT h.pe (pe_evG (W := W)) I (R := fun x z H2 => rEqD X.K x z H2 Q) ⟨F, M, B, F0, ok, fun S ρ' hR v F' H' M' m y hv hm => by
      obtain ⟨e1, rfl⟩ := h1 _ _ hR
      cases e1
      refine ⟨ρ', F', M', da, hb, y.ok, fun u F2 H2 x2 du => ⟨da, da, ?_, ?_, sa, sa, ?_⟩⟩
      · exact (dq_mono x2.sub _ _ (dq_mono x2.f _ _ hv.2)).dp _ _ (can0_of_shaped sa)
      · exact (dq_mono x2.sub _ _ du).dp _ _ (can0_of_shaped sa)
      · rw [hq]; exact q1 F2 H2 M' (y.ext x2), fun cl ρ' hR F' H' M' y => nomatch (h1 _ _ hR).1⟩
      fun v u s2 x y H2 I2 rx ry q => op_eqD c.room.units pins s2 σ H2 x y v u Q I2 rx ry q⟩ (nobehind _ (by decide) (by decide))).run pins s σ H Q I ⟨F, M, B, F0, ok, fun F' H' M' y => q1 (fz (.bool true)) ρ1 ⟨rfl, rfl⟩ (.bl true) F' H' M' [] y ⟨rfl, .bl true⟩ fun _ _ z => nomatch z⟩⟩
/-- a and b, a True -/
theorem evm_andOne {q : Bool} (h : EvM X W ρ a (fun o ρ' => o = .ok (fz (.bool true)) ∧ ρ' = ρ1)) (h2 : Ev X W ρ1 b (.bool q)) : EvM X W ρ (.BoolOp .And [a, b] pos) (fun o ρ' => o = .ok (fz (.bool q)) ∧ ρ' = ρ1) := ⟨fun pins s σ F H M B F0 Q I ok q1 q2 =>
  (pe_and h.pe (ev_bo1 h2).pe).run pins s σ H Q I ⟨F, M, B, F0, ok, fun S ρ' hR v F' H' M' m y hv hm => by
    obtain ⟨e1, rfl⟩ := hR
    cases e1
    exact ⟨true, dq_bl hv.2, iteT (rd y.ok fun w F2 H2 e2 dw => q1 (fz (.bool q)) ρ' ⟨rfl, rfl⟩ w F2 H2 M' [] (y.ext e2) ⟨rfl, dw⟩ fun _ _ z => nomatch z)⟩, fun cl ρ' hR => nomatch hR.1⟩⟩
end
end PV

/-! The pure-value layer: more facts for the head; try .. except X as e, and isinstance of what is caught. -/
namespace PV
open PySem PySem.Spec PyProof.Rows L2
/-! ### the head by facts, with further ones of a law's own -/
def obsX (as : List Addr) (fa : List He.Fa) (fn : List He.DefD) (ex : PySem.W.Frag → Bool) (g : Addr → Option Obj) : He.AlD × Bool := (He.obsD fa fn (He.frG g as), ex (He.frG g as))
def hookX (as : List Addr) (fa : List He.Fa) (fn : List He.DefD) (ex : PySem.W.Frag → Bool) : PySem.W.Hook where
  α := He.AlD × Bool
  obs := fun s => obsX as fa fn ex s.heap.get?
  val := fun _ => (He.valD fn, true)
  says := fun _ h => ∃ K : PySem.W.Frag, K.In h ∧ He.SaysD fa fn K ∧ ex K = true
  of := fun _ _ e => ⟨_, He.frG_in, congrArg Prod.fst e, congrArg Prod.snd e⟩
  keeps := fun _ _ _ ⟨K, hK, c⟩ k => ⟨K, PySem.W.Frag.In.keeps hK k, c⟩
theorem obsX_eq {as : List Addr} {fa : List He.Fa} {fn : List He.DefD} {ex : PySem.W.Frag → Bool} {g : Addr → Option Obj} {s : Shared} (h : ∀ a, g a = s.heap.get? a) : obsX as fa fn ex g = (hookX as fa fn ex).obs s := by
  have e : g = s.heap.get? := funext h
  rw [e]
  rfl
/-! ### what isinstance asks of a caught error's class -/
def excB (K : PySem.W.Frag) (D : Addr) : Bool :=
  He.eqO (PySem.W.findIn K (.ref D) "__getattribute__") (some (some (.builtin "BaseException.__getattribute__"))) && (He.eqO (PySem.W.findIn K (.ref D) "__getattr__") (some none) && (decide (PySem.W.subIn K (.ref D) (.type "BaseException") = some true) && (PySem.W.hasDictIn K D &&
  (He.eqO (PySem.W.findIn K (.ref D) "__class__") (some (some (.builtin "object.__class__"))) && (He.eqO (PySem.W.specialIn K (.builtin "object.__class__") "__get__") (some (some (.builtin "getset_descriptor.__get__"))) && (decide (PySem.W.takesIn K (.builtin "object.__class__") = some true) && decide (PySem.W.mroIn K D (.type "object") = some true)))))))
theorem excB_ok {K : PySem.W.Frag} {D : Addr} (h : excB K D = true) : ExcC K D := by
  unfold excB at h
  obtain ⟨h1, h⟩ := He.ba h
  obtain ⟨h2, h⟩ := He.ba h
  obtain ⟨h3, h⟩ := He.ba h
  obtain ⟨h4, h⟩ := He.ba h
  obtain ⟨h5, h⟩ := He.ba h
  obtain ⟨h6, h⟩ := He.ba h
  obtain ⟨h7, h8⟩ := He.ba h
  exact ⟨He.eqO_ok h1, He.eqO_ok h2, of_decide_eq_true h3, h4, He.eqO_ok h5, He.eqO_ok h6, of_decide_eq_true h7, of_decide_eq_true h8⟩
/-- a caught error -/
def exS (a : Addr) : Slot := ⟨fun _ _ v m => m = [] ∧ v = .ref a, fun _ _ _ _ _ _ h => h⟩
section
variable {K : PySem.W.Frag} {B F0 F H : Hp} {ρ : Env} {σ : St} {M : Nat → Mini}
/-- a name is deleted -/
theorem PInv.del (i : Nat) (x : PInv K B F0 ρ F σ H M) : PInv K B F0 (ρ.set i none) F (σ.set i none) H (upM M i []) := by
  refine ⟨⟨by rw [List.length_set, List.length_set]; exact x.ok.len, x.ok.sub, fun j T h => ?_, fun j a o h => ?_, fun j k a o o' h h' => ?_⟩, x.base, x.f0, x.nb, fun j a o h => ?_⟩
  · by_cases e : j = i
    · subst e
      have hl : j < ρ.length := by
        have := (List.getElem?_eq_some_iff.mp h).1
        rwa [List.length_set] at this
      rw [List.getElem?_set_self hl] at h
      cases h
    · rw [List.getElem?_set_ne (Ne.symm e)] at h
      obtain ⟨v, h1, h2⟩ := x.ok.at_ j T h
      exact ⟨v, by rw [List.getElem?_set_ne (Ne.symm e)]; exact h1, by rw [upM_ne e]; exact h2⟩
  · by_cases e : j = i
    · subst e; rw [upM_same] at h; cases h
    · rw [upM_ne e] at h; exact x.ok.own j a o h
  · by_cases e : j = i
    · subst e; rw [upM_same] at h; cases h
    · by_cases e2 : k = i
      · subst e2; rw [upM_same] at h'; cases h'
      · rw [upM_ne e] at h; rw [upM_ne e2] at h'; exact x.ok.apart j k a o o' h h'
  · by_cases e : j = i
    · subst e; rw [upM_same] at h; cases h
    · rw [upM_ne e] at h; exact x.mb j a o h
end
section
variable {X : Cx} {W : Wc} {ρ : Env} {C : Ec → Addr} {k : Nat} {rest : List Stmt} {Φ : Out → Prop} {pos : Pos}
/-- what is to hold behind the body of try .. except x as n -/
def asS (X : Cx) (W : Wc) (C : Ec → Addr) (Dh : Addr) (i : Nat) (suite rest : List Stmt) (Φ : Out → Prop) : Out → Prop
  | .raise c ρ => ∃ b, PySem.W.exmOne X.K (.ref (C c)) (.ref Dh) = some b ∧
      (b = true → ∀ (a : Addr) (oe : Obj) (pn : List (Addr × Obj)), Zc (.ref (C c)) none oe → (∃ vs, oe.data = .fields vs) → Sxs (X.suite a ((a, oe) :: pn)) noW suite (ρ.set i (some (exS a))) (fun o => match o with | .next ρ2 => Sxs X W rest (ρ2.set i none) Φ | _ => False)) ∧ (b = false → Φ (.raise c ρ))
  | o => thenS X W rest Φ o
def tSuiteA (X : Cx) (sts : List Stmt) : Addr → Value → Option Addr → TS := fun a cls d D σ H => ∃ ρ Φ F M B F0, (∀ (oe : Obj) (pn : List (Addr × Obj)), Zc cls d oe → (∃ vs, oe.data = .fields vs) → Sxs (X.suite a ((a, oe) :: pn)) noW sts ρ Φ) ∧ PInv X.K B F0 ρ F σ H M ∧ (∀ o, Φ o → EndOk X.K noW B F0 D o)
theorem sxs_try_as {body : List Stmt} {x n : Str} {b₀ : Stmt} {suite : List Stmt} {np pos' : Pos} (i : Nat) (Dh : Addr) (c : Ctx X C W k) (hm : X.mg x = some (.ref Dh))
    (hb : ∀ (Wb : Wc) pn xe, Ctx (X.tr pn xe) C Wb k → Sxs (X.tr pn xe) Wb body ρ (asS X W C Dh i (b₀ :: suite) rest Φ))
    (hi : X.N[i]? = some n := by rfl) (hln : X.env.kindOf n = some .local := by rfl) (hg : Gl X x := by rfl) (hdb : (x == ("__debug__" : Str)) = false := by decide)
    (e1 : X.stack = X.env :: X.outer := by rfl) (e2 : X.env.frame = some X.env.locals := by rfl) : Sxs X W (.Try body [.ExceptHandler (some (.Name x np)) (some n) (b₀ :: suite) pos'] [] [] pos :: rest) ρ Φ := by
  refine sxs_of (ps_try_as (i := i) e1 e2 c.nd hi hln ⟨hg, hdb, .inl hm⟩ c.tk (tb := tTryB X C k body) (fun W' pn xe tk po => ⟨fun pins s σ H D I ⟨ρ', Φ', F, M, B, F0, h, ok, q⟩ => ?_⟩) (ts := tSuiteA X (b₀ :: suite)) (fun a oe cls d pn hz hf => ⟨fun pins s σ H D I ⟨ρ, Φ, F, M, B, F0, h, ok, q⟩ => h oe pn hz hf pins s σ F H M B F0 D I ok q⟩)) fun σ F H M B F0 D ok q => ?_
  · refine h _ pn xe ⟨c.calm, c.room, c.nd, po, tk.imp fun cls d σ H ⟨c', e1, e2, z⟩ => ?_⟩ pins s σ F H M B F0 D I ok q
    subst e1 e2
    exact z
  · refine ⟨ρ, asS X W C Dh i (b₀ :: suite) rest Φ, F, M, B, F0, hb, ok, fun o ho => ?_⟩
    cases o with
    | raise cl ρ' =>
      intro F σ H M y
      obtain ⟨b, h1, h2, h3⟩ := ho
      refine ⟨b, h1, fun hb a ha => ⟨ρ'.set i (some (exS a)), _, F, _, B, F0, fun oe pn hz hf => h2 hb a oe pn hz hf, y.set ⟨rfl, rfl⟩ fun _ _ z => (nomatch z), fun o ho => ?_⟩, fun hb => ⟨cl, rfl, rfl, q _ (h3 hb) F σ H M y⟩⟩
      cases o with
      | next ρ2 =>
        intro F2 σ2 H2 M2 y2
        exact ⟨ρ2.set i none, Φ, F2, _, B, F0, ho, y2.del i, q⟩
      | ret S ρ2 => exact ho.elim
      | brk ρ2 => exact ho.elim
      | cont ρ2 => exact ho.elim
      | raise c ρ2 => exact ho.elim
    | next ρ2 => exact thenS_ok q (.next ρ2) ho
    | ret S ρ2 => exact thenS_ok q (.ret S ρ2) ho
    | brk ρ2 => exact thenS_ok q (.brk ρ2) ho
    | cont ρ2 => exact thenS_ok q (.cont ρ2) ho
/-- isinstance(e, T), e what was caught, T a class of the module -/
theorem ev_isE {a D E : Addr} {oe : Obj} {pn : List (Addr × Obj)} {T n : Str} {b : Bool} {p p1 p2 : Pos} (i : Nat) (Bt : Blt X.mg) (hd : ρ[i]? = some (some (exS a))) (Cx : ExcC X.K D) (hz : Zc (.ref D) none oe) (hf : ∃ vs, oe.data = .fields vs) (hT : X.mg T = some (.ref E)) (hk : PySem.W.kitOne X.K (.ref D) (.ref E) = some b)
    (hN : X.N[i]? = some n := by rfl) (hv : Vis X.env.scope n := by first | exact Or.inl rfl | exact Or.inr (Or.inl rfl) | exact Or.inr (Or.inr rfl))
    (h1 : (n == ("__debug__" : Str)) = false := by decide) (h2 : (n == ("__classdict__" : Str)) = false := by decide) (hgT : Gl X T := by rfl) (hg : Gl X "isinstance" := by rfl) (hdT : (T == ("__debug__" : Str)) = false := by decide)
    (he : starEach [.Name n p1, .Name T p2] (X.suite a ((a, oe) :: pn)).env = (false, eval (.Name n p1) (X.suite a ((a, oe) :: pn)).env) :: starEach [.Name T p2] (X.suite a ((a, oe) :: pn)).env := by rfl)
    (he2 : starEach [.Name T p2] (X.suite a ((a, oe) :: pn)).env = (false, eval (.Name T p2) (X.suite a ((a, oe) :: pn)).env) :: starEach [] (X.suite a ((a, oe) :: pn)).env := by rfl)
    (hpl : (backTo pos (starEach [.Name T p2] (X.suite a ((a, oe) :: pn)).env)).any (·.1) = false := by rfl) :
    Ev (X.suite a ((a, oe) :: pn)) W ρ (.Call (.Name "isinstance" p) [.Name n p1, .Name T p2] [] pos) (.bool b) :=
  ev1_of (X := X.suite a ((a, oe) :: pn)) (pe_callB (call_isE Cx hz hf) hg Bt.isinstance (by decide +kernel) (pa_cons (pe_var hN hv h1 h2) (pa_cons (pe_glob (v := .ref E) hgT hT rfl hdT) pa_nil he2) he) (he := he) (hpl := hpl)) fun σ F H M Q ok h => by
    obtain ⟨v, e, hm, rfl⟩ := ok.at_ i _ hd
    exact ⟨.ref a, e, ⟨.ref E, .ref E, b, rfl, fun u hu => hu, hk, h _ F H (.refl ok.sub) (.bl b)⟩⟩
/-- isinstance(e, T), T a built-in class -/
theorem ev_isEt {a D : Addr} {oe : Obj} {pn : List (Addr × Obj)} {T n : Str} {T0 : String} {b : Bool} {p p1 p2 : Pos} (i : Nat) (Bt : Blt X.mg) (hd : ρ[i]? = some (some (exS a))) (Cx : ExcC X.K D) (hz : Zc (.ref D) none oe) (hf : ∃ vs, oe.data = .fields vs) (hT : bootBuiltins T = some (.type T0)) (hmT : X.mg T = none) (hk : PySem.W.kitOne X.K (.ref D) (.type T0) = some b)
    (hN : X.N[i]? = some n := by rfl) (hv : Vis X.env.scope n := by first | exact Or.inl rfl | exact Or.inr (Or.inl rfl) | exact Or.inr (Or.inr rfl))
    (h1 : (n == ("__debug__" : Str)) = false := by decide) (h2 : (n == ("__classdict__" : Str)) = false := by decide) (hgT : Gl X T := by rfl) (hg : Gl X "isinstance" := by rfl) (hn1 : T ≠ "__name__" := by decide) (hdT : (T == ("__debug__" : Str)) = false := by decide)
    (he : starEach [.Name n p1, .Name T p2] (X.suite a ((a, oe) :: pn)).env = (false, eval (.Name n p1) (X.suite a ((a, oe) :: pn)).env) :: starEach [.Name T p2] (X.suite a ((a, oe) :: pn)).env := by rfl)
    (he2 : starEach [.Name T p2] (X.suite a ((a, oe) :: pn)).env = (false, eval (.Name T p2) (X.suite a ((a, oe) :: pn)).env) :: starEach [] (X.suite a ((a, oe) :: pn)).env := by rfl)
    (hpl : (backTo pos (starEach [.Name T p2] (X.suite a ((a, oe) :: pn)).env)).any (·.1) = false := by rfl) :
    Ev (X.suite a ((a, oe) :: pn)) W ρ (.Call (.Name "isinstance" p) [.Name n p1, .Name T p2] [] pos) (.bool b) :=
  ev1_of (X := X.suite a ((a, oe) :: pn)) (pe_callB (call_isE Cx hz hf) hg Bt.isinstance (by decide +kernel) (pa_cons (pe_var hN hv h1 h2) (pa_cons (pe_bltn (v := .ty T0) hgT hmT hT rfl hn1 hdT) pa_nil he2) he) (he := he) (hpl := hpl)) fun σ F H M Q ok h => by
    obtain ⟨v, e, hm, rfl⟩ := ok.at_ i _ hd
    exact ⟨.ref a, e, ⟨.ty T0, .type T0, b, rfl, fun u hu => hu, hk, h _ F H (.refl ok.sub) (.bl b)⟩⟩
end
end PV

/-! k75: a deed done, a deed refused. -/
namespace Tl
open PySem PySem.Spec PyProof.Rows L2 PV
def doneR (D : Addr) (s : DkS) (d : Option Deed) : Except Ec Slot → List Asl → Prop := fun out outs => match stepD s d with
  | .ok s' => out = .ok (fz .none) ∧ outs = [dkA D s']
  | .error c => out = .error c ∧ outs = [dkA D s]
def kindsL (c : Ec) : List PyData := [.bool (decide (c = .badName)), .bool (decide (c = .twice)), .bool (decide (c = .tooLong)), .bool (decide (c = .noPart)), .bool (decide (c = .noRow)), .bool (decide (c = .nothingDone)), .bool (decide (c = .badForm)), .bool true]
def refR (D : Addr) (s : DkS) (d : Option Deed) : Except Ec Slot → List Asl → Prop := fun out outs => match stepD s d with
  | .ok s' => out = .ok (fz .none) ∧ outs = [dkA D s']
  | .error c => out = .ok (fz (.list (kindsL c))) ∧ outs = [dkA D s]
/-- what is asked of the classes of refusals -/
structure ExI (K : PySem.W.Frag) (mg : Str → Option Value) (C : Ec → Addr) (TE : Addr) : Prop where
  exc : ∀ c ∈ hl, ExcC K (C c)
  one : ∀ c ∈ hl, ∀ h ∈ Ec.badForm :: hl, PySem.W.kitOne K (.ref (C c)) (.ref (C h)) = some (decide (c = h))
  ve : ∀ c ∈ hl, PySem.W.kitOne K (.ref (C c)) (.type "ValueError") = some true
  te : ∀ c ∈ hl, PySem.W.exmOne K (.ref (C c)) (.ref TE) = some true
  gt : mg "TrueleafError" = some (.ref TE)
  gv : mg "ValueError" = none
section
variable {P : Program} {w : World} {K : PySem.W.Frag} {mg : Str → Option Value} {base : Heap} {C : Ec → Addr} {D TE : Addr}
abbrev C_done (P : Program) (w : World) (K : PySem.W.Frag) (mg : Str → Option Value) (base : Heap) (C : Ec → Addr) (D : Addr) := Callee P w K mg base 5 "_law_done" (spM K C 2 (fun i : DkS × Option Deed => [.mu (dkA D i.1), .ro (fz (dOpt i.2))]) (fun i => i.1.es.length ≤ 1000 ∧ okOwn i.1.o ∧ okOpt i.2) (fun i => doneR D i.1 i.2))
theorem ok_done (O : ClsO K D dNs) (G_put : C_put_part P w K mg base C D) (G_drop : C_drop_part P w K mg base C D) (G_row : C_put_row P w K mg base C D) (G_cut : C_cut_row P w K mg base C D) (G_undo : C_undo P w K mg base C D) (Df0 : Df K mg "_law_done" s_law_done) : C_done P w K mg base C D := by
  refine callee_ofM Df0 sc_law_done (fun _ _ _ _ _ _ us hl => match us, hl with | [_, _], _ => rfl) (fun f cdv A outer s H E c i hi ad => ?_)
  obtain ⟨dk, d⟩ := i
  obtain ⟨hes, ho, hd⟩ := hi
  simp only at hes ho hd
  show Sxs _ _ _ [some (obj D dNs (dSs dk.frm dk.o dk.es dk.iss) (some (ad 0))), some (fz (dOpt d)), none, none, none, none] (bodyM ad [0] (doneR D dk d))
  refine sxs_unpack (tg_tup c.calm (tgs_cons 2 c.nd (tgs_cons 3 c.nd (tgs_cons 4 c.nd (tgs_cons 5 c.nd tgs_nil))))) ((ev_var 1 rfl).to (dOpt_eq d)) rfl ?_
  show Sxs _ _ _ [some (obj D dNs (dSs dk.frm dk.o dk.es dk.iss) (some (ad 0))), some (fz (dOpt d)), some (fz (.str (kdO d))), some (fz (.str (nmO d))), some (fz (.int (aO d))), some (fz (.str (txO d)))] _
  have recc : ∀ {r : Except Ec Own} {out : Except Ec Slot} {outs : List Asl}, deedR D dk r out outs → (match r.map dk.go with | .ok s' => out = .ok (fz .none) ∧ outs = [dkA D s'] | .error c => out = .error c ∧ outs = [dkA D dk]) := fun {r} {out} {outs} h => by
    cases r with
    | ok o' => exact h
    | error cl => exact h
  have fin : ∀ {r : Except Ec Own} {out : Except Ec Slot} {outs : List Asl}, stepD dk d = r.map dk.go → deedR D dk r out outs → doneR D dk d out outs ∧ ∃ s', outs = [dkA D s'] := fun {r} {out} {outs} e h => by
    unfold doneR
    rw [e]
    cases r with
    | ok o' => exact ⟨h, _, h.2⟩
    | error cl => exact ⟨h, _, h.2⟩
  cases d with
  | none =>
    refine sxs_if (t := false) ((tst_cm (cm_eqS (ev_var 2 rfl) ev_str)).to (by decide +kernel)) (fun h => nomatch h) (fun _ => ?_)
    refine sxs_nil ?_
    refine sxs_if (t := false) ((tst_cm (cm_eqS (ev_var 2 rfl) ev_str)).to (by decide +kernel)) (fun h => nomatch h) (fun _ => ?_)
    refine sxs_nil ?_
    refine sxs_if (t := false) ((tst_cm (cm_eqS (ev_var 2 rfl) ev_str)).to (by decide +kernel)) (fun h => nomatch h) (fun _ => ?_)
    refine sxs_nil ?_
    refine sxs_if (t := false) ((tst_cm (cm_eqS (ev_var 2 rfl) ev_str)).to (by decide +kernel)) (fun h => nomatch h) (fun _ => ?_)
    refine sxs_nil ?_
    have ud : ∀ {out : Except Ec Slot} {outs : List Asl}, undoR D dk out outs → doneR D dk none out outs ∧ ∃ s', outs = [dkA D s'] := fun {out} {outs} h => by
      unfold undoR at h
      unfold doneR stepD
      cases e : dk.es.getLast? with
      | none => rw [e] at h; exact ⟨h, _, h.2⟩
      | some o' => rw [e] at h; exact ⟨h, _, h.2⟩
    refine sxs_retM (evm_meth0 0 c O G_undo dk trivial rfl rfl) (fun S ρ' hR => ?_) (fun cl ρ' hR => ?_)
    · obtain ⟨outs, h1, rfl⟩ := hR
      obtain ⟨h2, s', rfl⟩ := ud h1
      exact ⟨_, h2, rfl, trivial⟩
    · obtain ⟨outs, h1, rfl⟩ := hR
      obtain ⟨h2, s', rfl⟩ := ud h1
      exact ⟨_, h2, rfl, trivial⟩
  | some d =>
    have hol := ho.len
    cases d with
    | put n a r =>
      refine sxs_if (t := true) ((tst_cm (cm_eqS (ev_var 2 rfl) ev_str)).to (by simp only [kdO]; decide +kernel)) (fun _ => ?_) (fun h => nomatch h)
      refine sxs_retM (evm_meth 0 [] c O G_put (dk, n, r) ⟨by have := hd.1; show n.length ≤ 10000000; omega, hes, by show dk.o.length ≤ 1000; omega⟩ rfl rfl (am_ro (Ev.s (ev_var 3 rfl)) (am_ro (Ev.s (ev_var 5 rfl)) am_nil))) (fun S ρ' hR => ?_) (fun cl ρ' hR => ?_)
      all_goals
        obtain ⟨outs, h1, rfl⟩ := hR
        obtain ⟨h2, s', rfl⟩ := fin (r := opPut dk.o n r) rfl h1
        exact ⟨_, h2, rfl, trivial⟩
    | drop n a x =>
      refine sxs_if (t := false) ((tst_cm (cm_eqS (ev_var 2 rfl) ev_str)).to (by simp only [kdO]; exact decide_eq_false (by decide +kernel))) (fun h => nomatch h) (fun _ => ?_)
      refine sxs_nil ?_
      refine sxs_if (t := true) ((tst_cm (cm_eqS (ev_var 2 rfl) ev_str)).to (by simp only [kdO]; decide +kernel)) (fun _ => ?_) (fun h => nomatch h)
      refine sxs_retM (evm_meth 0 [] c O G_drop (dk, n) hes rfl rfl (am_ro (Ev.s (ev_var 3 rfl)) am_nil)) (fun S ρ' hR => ?_) (fun cl ρ' hR => ?_)
      all_goals
        obtain ⟨outs, h1, rfl⟩ := hR
        obtain ⟨h2, s', rfl⟩ := fin (r := opDrop dk.o n) rfl h1
        exact ⟨_, h2, rfl, trivial⟩
    | row n a x =>
      refine sxs_if (t := false) ((tst_cm (cm_eqS (ev_var 2 rfl) ev_str)).to (by simp only [kdO]; exact decide_eq_false (by decide +kernel))) (fun h => nomatch h) (fun _ => ?_)
      refine sxs_nil ?_
      refine sxs_if (t := false) ((tst_cm (cm_eqS (ev_var 2 rfl) ev_str)).to (by simp only [kdO]; exact decide_eq_false (by decide +kernel))) (fun h => nomatch h) (fun _ => ?_)
      refine sxs_nil ?_
      refine sxs_if (t := true) ((tst_cm (cm_eqS (ev_var 2 rfl) ev_str)).to (by simp only [kdO]; decide +kernel)) (fun _ => ?_) (fun h => nomatch h)
      refine sxs_retM (evm_meth 0 [] c O G_row (dk, n, a, x) ⟨hes, ho, hd.2.2⟩ rfl rfl (am_ro (Ev.s (ev_var 3 rfl)) (am_ro (Ev.s (ev_var 4 rfl)) (am_ro (Ev.s (ev_var 5 rfl)) am_nil)))) (fun S ρ' hR => ?_) (fun cl ρ' hR => ?_)
      all_goals
        obtain ⟨outs, h1, rfl⟩ := hR
        obtain ⟨h2, s', rfl⟩ := fin (r := opRow dk.o n a x) rfl h1
        exact ⟨_, h2, rfl, trivial⟩
    | cut n a x =>
      refine sxs_if (t := false) ((tst_cm (cm_eqS (ev_var 2 rfl) ev_str)).to (by simp only [kdO]; exact decide_eq_false (by decide +kernel))) (fun h => nomatch h) (fun _ => ?_)
      refine sxs_nil ?_
      refine sxs_if (t := false) ((tst_cm (cm_eqS (ev_var 2 rfl) ev_str)).to (by simp only [kdO]; exact decide_eq_false (by decide +kernel))) (fun h => nomatch h) (fun _ => ?_)
      refine sxs_nil ?_
      refine sxs_if (t := false) ((tst_cm (cm_eqS (ev_var 2 rfl) ev_str)).to (by simp only [kdO]; exact decide_eq_false (by decide +kernel))) (fun h => nomatch h) (fun _ => ?_)
      refine sxs_nil ?_
      refine sxs_if (t := true) ((tst_cm (cm_eqS (ev_var 2 rfl) ev_str)).to (by simp only [kdO]; decide +kernel)) (fun _ => ?_) (fun h => nomatch h)
      refine sxs_retM (evm_meth 0 [] c O G_cut (dk, n, a) ⟨hes, ho⟩ rfl rfl (am_ro (Ev.s (ev_var 3 rfl)) (am_ro (Ev.s (ev_var 4 rfl)) am_nil))) (fun S ρ' hR => ?_) (fun cl ρ' hR => ?_)
      all_goals
        obtain ⟨outs, h1, rfl⟩ := hR
        obtain ⟨h2, s', rfl⟩ := fin (r := opCut dk.o n a) rfl h1
        exact ⟨_, h2, rfl, trivial⟩
abbrev C_refused (P : Program) (w : World) (K : PySem.W.Frag) (mg : Str → Option Value) (base : Heap) (C : Ec → Addr) (D : Addr) := Callee P w K mg base 6 "_law_refused" (spM K C 2 (fun i : DkS × Option Deed => [.mu (dkA D i.1), .ro (fz (dOpt i.2))]) (fun i => i.1.es.length ≤ 1000 ∧ okOwn i.1.o ∧ okOpt i.2) (fun i => refR D i.1 i.2))
theorem step_err {s : DkS} {d : Option Deed} {c : Ec} (h : stepD s d = .error c) : c ∈ hl := by
  cases d with
  | none =>
    unfold stepD at h
    simp only at h
    split at h
    · cases h; decide
    · cases h
  | some d =>
    have h : (opDeed s.o d).map s.go = .error c := h
    cases e : opDeed s.o d with
    | ok o => rw [e] at h; cases h
    | error c' => rw [e] at h; cases h; exact err_in e
theorem ok_refused (Bt : Blt mg) (Er : Errs K mg C) (Ei : ExI K mg C TE) (G_done : C_done P w K mg base C D) (Df0 : Df K mg "_law_refused" s_law_refused) : C_refused P w K mg base C D := by
  refine callee_ofM Df0 sc_law_refused (fun _ _ _ _ _ _ us hl => match us, hl with | [_, _], _ => rfl) (fun f cdv A outer s H E c i hi ad => ?_)
  obtain ⟨dk, d⟩ := i
  show Sxs _ _ _ [some (obj D dNs (dSs dk.frm dk.o dk.es dk.iss) (some (ad 0))), some (fz (dOpt d)), none, none] (bodyM ad [0] (refR D dk d))
  refine sxs_set 2 ev_non ?_ c.nd
  refine sxs_try_as 3 TE c Ei.gt (fun Wb pn xe cb => ?_)
  refine sxs_exprM (evm_call (hix := by simp) [(0, some (ad 0))] cb G_done (dk, d) hi (am_mu 0 (some (ad 0)) rfl (am_ro (Ev.s (ev_var 1 rfl)) am_nil))) (fun S ρ' hR => ?_) (fun cl ρ' hR => ?_)
  · obtain ⟨outs, h1, rfl⟩ := hR
    have h1 : doneR D dk d (.ok S) outs := h1
    unfold doneR at h1
    cases e : stepD dk d with
    | error c' => rw [e] at h1; cases h1.1
    | ok s' =>
      rw [e] at h1
      obtain ⟨_, rfl⟩ := h1
      refine sxs_nil ?_
      refine sxs_ret (ev_var 2 rfl) ⟨[dkA D s'], ?_, rfl, trivial⟩
      unfold refR
      rw [e]
      exact ⟨rfl, rfl⟩
  · obtain ⟨outs, h1, rfl⟩ := hR
    have h1 : doneR D dk d (.error cl) outs := h1
    unfold doneR at h1
    cases e : stepD dk d with
    | ok s' => rw [e] at h1; cases h1.1
    | error c' =>
      rw [e] at h1
      obtain ⟨h2, rfl⟩ := h1
      cases h2
      have hin := step_err e
      refine ⟨true, Ei.te cl hin, fun _ a oe pn hz hf => ?_, fun h => nomatch h⟩
      have X1 := Ei.exc cl hin
      have on := Ei.one cl hin
      show Sxs _ _ _ [some (obj D dNs (dSs dk.frm dk.o dk.es dk.iss) (some (ad 0))), some (fz (dOpt d)), some (fz .none), some (exS a)] _
      refine sxs_setF 2 (fr_lst (eva_cons (ev_isE 3 Bt rfl X1 hz hf Er.badName.g (on .badName (by decide))) (eva_cons (ev_isE 3 Bt rfl X1 hz hf Er.twice.g (on .twice (by decide))) (eva_cons (ev_isE 3 Bt rfl X1 hz hf Er.tooLong.g (on .tooLong (by decide))) (eva_cons (ev_isE 3 Bt rfl X1 hz hf Er.noPart.g (on .noPart (by decide))) eva_nil))))) ?_ c.nd
      refine sxs_setF 2 (fr_cat (bv_var 2 rfl) (Fr.bv (fr_lst (eva_cons (ev_isE 3 Bt rfl X1 hz hf Er.noRow.g (on .noRow (by decide))) (eva_cons (ev_isE 3 Bt rfl X1 hz hf Er.nothing.g (on .nothingDone (by decide))) (eva_cons (ev_isE 3 Bt rfl X1 hz hf Er.badForm.g (on .badForm (by decide))) eva_nil))))) (PV.small (by simp))) ?_ c.nd
      refine sxs_setF 2 (fr_cat (bv_var 2 rfl) (Fr.bv (fr_lst (eva_cons (ev_isEt (T0 := "ValueError") 3 Bt rfl X1 hz hf (by decide +kernel) Ei.gv (Ei.ve cl hin)) eva_nil))) (PV.small (by simp))) ?_ c.nd
      refine sxs_nil ?_
      refine sxs_freeze 2 rfl ?_
      refine sxs_ret (ev_var 2 rfl) ⟨[dkA D dk], ?_, rfl, trivial⟩
      unfold refR
      rw [e]
      exact ⟨rfl, rfl⟩
abbrev C_form_refused (P : Program) (w : World) (K : PySem.W.Frag) (mg : Str → Option Value) (base : Heap) (C : Ec → Addr) := Callee P w K mg base 4 "_law_form_refused" (spP K C 1 (fun i : Fm => [fz (fmD i)]) (fun i => fmOk i = false) (fun _ => is (.ok (fz (.bool true)))))
theorem ok_form_refused (Er : Errs K mg C) (hx : PySem.W.exmOne K (.ref (C .badForm)) (.ref (C .badForm)) = some true) (G_Desk : C_Desk P w K mg base C D) (Df0 : Df K mg "_law_form_refused" s_law_form_refused) : C_form_refused P w K mg base C := by
  refine callee_of Df0 sc_law_form_refused (fun _ _ _ _ _ _ us hl => match us, hl with | [_], _ => rfl) (fun f cdv A outer s H E c i hi => ?_)
  have hi : fmOk i = false := hi
  show Sxs _ _ _ [some (fz (fmD i)), none] _
  refine sxs_set 1 ev_str ?_ c.nd
  refine sxs_try _ c (.cons Er.badForm.g .nil) (fun Wb pn xe cb => ?_)
  have hnew : ∀ {out : Except Ec Slot} {outs : List Asl}, newR D i out outs → out = .error .badForm := fun h => by
    unfold newR at h
    rw [if_neg (by rw [hi]; exact fun z => nomatch z)] at h
    exact h.1
  refine sxs_exprM (evm_make cb G_Desk i trivial rfl (am_ro (Ev.s (ev_var 0 rfl)) am_nil) (fun S outs h => nomatch hnew h)) (fun S ρ' hR => ?_) (fun cl ρ' hR => ?_)
  · obtain ⟨rfl, ⟨_, _, h, _⟩ | ⟨_, _, _, e⟩⟩ := hR
    · cases hnew h
    · cases e
  · obtain ⟨rfl, ⟨_, _, _, e⟩ | ⟨cl', outs, h, e⟩⟩ := hR
    · cases e
    · cases e
      cases hnew h
      refine ⟨true, hx, fun _ a pn => ?_, fun h => nomatch h⟩
      refine sxs_set 1 ev_str ?_ c.nd
      refine sxs_nil ?_
      exact sxs_ret (ev_cm (cm_eqS (ev_var 1 rfl) ev_str)) (by show _ = _; rfl)
end
end Tl

/-! The desk's laws: what deeds keep. -/
namespace Tl
open PySem PySem.Spec PyProof.Rows L2 PV
def okO (o : Own) : Prop := okOwn o ∧ ∀ q ∈ o, nmB q.1 = true
theorem look_any : ∀ (o : Own) (n : Str), (look o n).isSome = o.any fun q => decide (q.1 = n)
  | [], _ => rfl
  | (m, r) :: o, n => by
    rw [look, List.any_cons]
    by_cases h : m = n
    · rw [if_pos h, decide_eq_true h]; rfl
    · rw [if_neg h, decide_eq_false h, Bool.false_or, look_any o n]
theorem okO_put {o : Own} {n : Str} {r : List Str} (h : okO o) (hr : okRows r) (hn : (look o n).isSome = true ∨ (nmB n = true ∧ o.length < 20)) : okO (putO o n r) := by
  rw [putO_eq]
  by_cases ha : (o.any fun q => decide (q.1 = n)) = true
  · rw [if_pos ha]
    refine ⟨⟨by rw [List.length_map]; exact h.1.len, fun q hq => ?_⟩, fun q hq => ?_⟩
    · obtain ⟨q', hq', rfl⟩ := List.mem_map.mp hq
      split
      · exact hr
      · exact h.1.rows _ hq'
    · obtain ⟨q', hq', rfl⟩ := List.mem_map.mp hq
      split
      · exact h.2 q' hq'
      · exact h.2 q' hq'
  · rw [if_neg ha]
    rw [look_any] at hn
    have hn := hn.resolve_left ha
    refine ⟨⟨by rw [List.length_append]; show o.length + 1 ≤ 20; omega, fun q hq => ?_⟩, fun q hq => ?_⟩
    · rcases List.mem_append.mp hq with z | z
      · exact h.1.rows q z
      · obtain rfl := List.mem_singleton.mp z; exact hr
    · rcases List.mem_append.mp hq with z | z
      · exact h.2 q z
      · obtain rfl := List.mem_singleton.mp z; exact hn.1
theorem okO_drop {o : Own} {n : Str} (h : okO o) : okO (dropO o n) :=
  ⟨⟨Nat.le_trans (List.length_filter_le _ _) h.1.len, fun q hq => h.1.rows q (List.mem_filter.mp hq).1⟩, fun q hq => h.2 q (List.mem_filter.mp hq).1⟩
theorem rowIn_ok {r : List Str} {k : Nat} {x : Str} (h : okRows r) (h2 : r.length < 200) (hx : 10 ∉ x.cps.toList ∧ x.length ≤ 400) : okRows (rowIn r k x) := by
  unfold rowIn
  refine ⟨by simp, by simp; omega, fun y hy => ?_⟩
  rcases List.mem_append.mp hy with z | z
  · rcases List.mem_append.mp z with z | z
    · exact h.2.2 y (List.mem_of_mem_take z)
    · obtain rfl := List.mem_singleton.mp z; exact hx
  · exact h.2.2 y (List.mem_of_mem_drop z)
theorem rowOut_ok {r : List Str} {k : Nat} (h : okRows r) : okRows (orOne (rowOut r k)) := by
  unfold orOne
  split
  · refine ⟨by simp, by simp, fun y hy => ?_⟩
    obtain rfl := List.mem_singleton.mp hy
    exact ⟨by decide, by decide⟩
  · rename_i hne
    refine ⟨hne, by have := h.2.1; unfold rowOut; simp; omega, fun y hy => ?_⟩
    unfold rowOut at hy
    rcases List.mem_append.mp hy with z | z
    · exact h.2.2 y (List.mem_of_mem_take z)
    · exact h.2.2 y (List.mem_of_mem_drop z)
theorem deed_ok {o o' : Own} {d : Deed} (h : okO o) (hd : okDeed d) (e : opDeed o d = .ok o') : okO o' := by
  cases d with
  | put n a r =>
    have e : opPut o n r = .ok o' := e
    unfold opPut at e
    split at e
    · cases e
    · rename_i h1
      split at e
      · cases e
      · split at e
        · cases e
        · rename_i h2 h3
          cases e
          exact okO_put h hd.2 (.inr ⟨by simpa using h1, by omega⟩)
  | row n a x =>
    have e : opRow o n a x = .ok o' := e
    unfold opRow at e
    split at e
    · cases e
    · rename_i r hr
      split at e
      · cases e
      · split at e
        · cases e
        · rename_i h2 h3
          cases e
          exact okO_put h (rowIn_ok (h.1.look hr) (by omega) hd.2) (.inl (by rw [hr]; rfl))
  | cut n a x =>
    have e : opCut o n a = .ok o' := e
    unfold opCut at e
    split at e
    · cases e
    · rename_i r hr
      split at e
      · cases e
      · cases e
        exact okO_put h (rowOut_ok (h.1.look hr)) (.inl (by rw [hr]; rfl))
  | drop n a x =>
    have e : opDrop o n = .ok o' := e
    unfold opDrop at e
    split at e
    · cases e; exact okO_drop h
    · cases e
end Tl

/-! Books: sayings, words, places, forms as plain data. -/
namespace Tl
open PySem PySem.Spec PyProof.Rows L2 PV
inductive Say where
  | txt (s : Str) | pg (k : Nat) | rw (k : Nat)
def sayD : Say → PyData
  | .txt s => .tuple [.str "text", .str s]
  | .pg k => .tuple [.str "page", .int k]
  | .rw k => .tuple [.str "row", .int k]
abbrev Plc := Nat × Nat
def plD (p : Plc) : PyData := .tuple [.int p.1, .int p.2]
structure Frm where
  wide : Nat
  high : Nat
  first : Nat
  most : Nat
def frD (f : Frm) : PyData := .tuple [.int f.wide, .int f.high, .int f.first, .int f.most]
structure Wrd where
  lead : Nat
  kept : Bool
  own : Say
  foot : List Say
def wdD (w : Wrd) : PyData := .tuple [.int w.lead, .bool w.kept, sayD w.own, .list (w.foot.map sayD)]
def bkD (b : Frm × List Wrd) : PyData := .tuple [frD b.1, .list (b.2.map wdD)]
/-! ### figures -/
def figS (n : Nat) : Str := toString ((n : Nat) : Int)
theorem fig_cps (n : Nat) : (figS n).cps.toList = (Nat.toDigits 10 n).map Char.toNat := by
  have h : Str.ofString (toString (Int.ofNat n)) = ⟨((Nat.toDigits 10 n).map Char.toNat).toArray⟩ := text_ofNat n
  show (Str.ofString (toString (Int.ofNat n))).cps.toList = _
  rw [h]
theorem fig_length (n : Nat) : (figS n).length = (Nat.toDigits 10 n).length := by
  show (figS n).cps.size = _
  rw [← Array.length_toList, fig_cps, List.length_map]
theorem fig_le {n k : Nat} (hk : 0 < k) (h : n < 10 ^ k) : (figS n).length ≤ k := by
  rw [fig_length]; exact (Nat.length_toDigits_le_iff (by decide) hk).mpr h
theorem fig_pos (n : Nat) : 1 ≤ (figS n).length := by
  rw [fig_length]; exact Nat.length_toDigits_pos
theorem fig_mono {m n : Nat} (h : m ≤ n) : (figS m).length ≤ (figS n).length := by
  rw [fig_length, fig_length]
  have hp : 0 < (Nat.toDigits 10 n).length := Nat.length_toDigits_pos
  exact (Nat.length_toDigits_le_iff (by decide) hp).mpr (Nat.lt_of_le_of_lt h ((Nat.length_toDigits_le_iff (by decide) hp).mp (Nat.le_refl _)))
theorem strOk_of (s : String) : PyData.strOk (Str.ofString s) = true := by
  rw [Str.ofString_eq_toList]
  unfold PyData.strOk
  rw [← Array.all_toList, List.all_eq_true]
  intro c hc
  obtain ⟨ch, _, rfl⟩ := List.mem_map.mp (show c ∈ s.toList.map Char.toNat from hc)
  have h := ch.valid
  have h2 : ch.val.toNat < 0x110000 := by
    rcases h with h | h
    · have h' : ch.val.toNat < 0xd800 := h
      omega
    · have h' : ch.val.toNat < 0x110000 := h.2
      exact h'
  exact decide_eq_true h2
theorem fig_ok (n : Nat) : PyData.strOk (figS n) = true := strOk_of _
theorem log2_small {n : Nat} (h : n < 10 ^ 100) : (((n : Nat) : Int).natAbs).log2 < 1920 := by
  rw [Int.natAbs_natCast]
  by_cases e : n = 0
  · subst e; decide
  · exact (Nat.log2_lt e).mpr (Nat.lt_of_lt_of_le h (by decide +kernel))
theorem app_size (x y : Str) : (x ++ y).length = x.length + y.length := by
  show (x.cps ++ y.cps).size = _
  rw [Array.size_append]; rfl
theorem app_strOk {x y : Str} (hx : PyData.strOk x = true) (hy : PyData.strOk y = true) : PyData.strOk (x ++ y) = true := by
  show (x.cps ++ y.cps).all _ = true
  unfold PyData.strOk at hx hy
  rw [Array.all_append, hx, hy]
  rfl
/-! ### what a saying says -/
def plAt (ps : List Plc) (k : Nat) : Plc := ps.getD k (0, 0)
theorem plAt_get {ps : List Plc} {k : Nat} (h : k < ps.length) : ps[k]? = some (plAt ps k) := by
  unfold plAt
  rw [List.getD_eq_getElem?_getD, List.getElem?_eq_getElem h]
  rfl
def said (f : Frm) (ps : List Plc) : Say → Str
  | .txt t => t
  | .pg k => figS (f.first + (plAt ps k).1)
  | .rw k => figS ((plAt ps k).1 * f.high + (plAt ps k).2 + 1)
def okSay (n : Nat) : Say → Prop
  | .txt t => PyData.strOk t = true ∧ t.length ≤ 100
  | .pg k => k < n
  | .rw k => k < n
def okFrm (f : Frm) : Prop := f.wide ≤ 1000000 ∧ f.high ≤ 1000 ∧ f.first ≤ 10 ^ 70 ∧ f.most ≤ 1000000
def okPls (ps : List Plc) : Prop := ps.length ≤ 100 ∧ ∀ k, (plAt ps k).1 ≤ 1000 ∧ (plAt ps k).2 ≤ 1000
theorem num1 {f : Frm} {ps : List Plc} (hf : okFrm f) (hp : okPls ps) (k : Nat) : f.first + (plAt ps k).1 < 10 ^ 71 := by
  have h1 := hf.2.2.1
  have h2 := (hp.2 k).1
  have : (10 : Nat) ^ 71 = 10 ^ 70 * 10 := by decide +kernel
  have h3 : 1000 ≤ 10 ^ 70 := by decide +kernel
  omega
theorem num2 {f : Frm} {ps : List Plc} (hf : okFrm f) (hp : okPls ps) (k : Nat) : (plAt ps k).1 * f.high + (plAt ps k).2 + 1 < 10 ^ 7 := by
  have h1 := hf.2.1
  have h2 := hp.2 k
  have h3 : (plAt ps k).1 * f.high ≤ 1000 * 1000 := Nat.mul_le_mul h2.1 h1
  omega
theorem said_len {f : Frm} {ps : List Plc} {s : Say} {n : Nat} (hf : okFrm f) (hp : okPls ps) (hs : okSay n s) : (said f ps s).length ≤ 100 := by
  cases s with
  | txt t => exact hs.2
  | pg k => exact Nat.le_trans (fig_le (k := 71) (by decide) (num1 hf hp k)) (by decide)
  | rw k => exact Nat.le_trans (fig_le (k := 7) (by decide) (num2 hf hp k)) (by decide)
theorem said_ok {f : Frm} {ps : List Plc} {s : Say} {n : Nat} (hs : okSay n s) : PyData.strOk (said f ps s) = true := by
  cases s with
  | txt t => exact hs.1
  | pg k => exact fig_ok _
  | rw k => exact fig_ok _
theorem say_cl {n : Nat} {s : Say} (h : okSay n s) : cl 1 (sayD s) = true := by
  cases s with
  | txt t =>
    have a : cl 0 (.str "text") = true := by decide +kernel
    have b : cl 0 (.str t) = true := by simpa [cl] using h.1
    simp only [sayD, cl.eq_def 1, List.all_cons, List.all_nil, a, b, Bool.and_self]
  | pg k =>
    have a : cl 0 (.str "page") = true := by decide +kernel
    have b : cl 0 (.int k) = true := rfl
    simp only [sayD, cl.eq_def 1, List.all_cons, List.all_nil, a, b, Bool.and_self]
  | rw k =>
    have a : cl 0 (.str "row") = true := by decide +kernel
    have b : cl 0 (.int k) = true := rfl
    simp only [sayD, cl.eq_def 1, List.all_cons, List.all_nil, a, b, Bool.and_self]
/-! ### rows filled one by one -/
def fill1 (wide : Nat) (rows : List Str) (t : Str) : List Str := match rows.getLast? with
  | some r => if r.length + 1 + t.length ≤ wide then rows.set (rows.length - 1) (r ++ (" " : Str) ++ t) else rows ++ [t]
  | none => rows ++ [t]
def filled (f : Frm) (ps : List Plc) (foot : List Say) : List Str := (foot.map (said f ps)).foldl (fill1 f.wide) []
theorem fill1_len (wide : Nat) (rows : List Str) (t : Str) : (fill1 wide rows t).length ≤ rows.length + 1 := by
  unfold fill1
  cases rows.getLast? with
  | none => simp
  | some r =>
    show (if _ then _ else _ : List Str).length ≤ _
    split
    · rw [List.length_set]; omega
    · simp
end Tl

/-! A full shelf. -/
namespace Tl
open PySem PySem.Spec PyProof.Rows L2 PV
/-- the parts that a full shelf begins with -/
def pN (j : Nat) : Str := ("p" : Str) ++ figS j
def ownP (j : Nat) : Own := (List.range j).map fun k => (pN k, [("a" : Str)])
theorem ownP_put : ∀ j : Fin 20, (match opPut (ownP j.val) (pN j.val) [("a" : Str)] with | .ok o => decide (o = ownP (j.val + 1)) | .error _ => false) = true ∧ decide (putO (ownP j.val) (pN j.val) [("a" : Str)] = ownP (j.val + 1)) = true := by decide +kernel
theorem ownP_ok : ∀ j : Nat, j ≤ 20 → okO (ownP j) := by
  intro j
  induction j with
  | zero => exact fun _ => ⟨⟨by decide, fun q hq => nomatch hq⟩, fun q hq => nomatch hq⟩
  | succ j ih =>
    intro h
    have h1 := (ownP_put ⟨j, by omega⟩).1
    simp only at h1
    cases e : opPut (ownP j) (pN j) [("a" : Str)] with
    | error c => rw [e] at h1; cases h1
    | ok o =>
      rw [e] at h1
      have h1 : o = ownP (j + 1) := of_decide_eq_true h1
      rw [← h1]
      refine deed_ok (d := .put (pN j) 0 [("a" : Str)]) (ih (by omega)) ⟨?_, by simp, by simp, fun x hx => ?_⟩ e
      · have key : ∀ k : Fin 20, (pN k.val).length ≤ 10000 := by decide +kernel
        exact key ⟨j, by omega⟩
      · obtain rfl := List.mem_singleton.mp hx
        exact ⟨by decide +kernel, by decide +kernel⟩
end Tl

/-! k74: names of a shelf are unlike. -/
namespace Tl
open PySem PySem.Spec PyProof.Rows L2 PV
def ndO (o : Own) : Prop := (o.map (·.1)).Nodup
theorem nd_put {o : Own} {n : Str} {r : List Str} (h : ndO o) : ndO (putO o n r) := by
  rw [putO_eq]
  split
  · unfold ndO
    rw [List.map_map]
    have : (o.map ((fun q : Str × List Str => q.1) ∘ fun q => if q.1 = n then (q.1, r) else q)) = o.map (·.1) := by
      apply List.map_congr_left
      intro q _
      simp only [Function.comp]
      split <;> rfl
    rw [this]
    exact h
  · rename_i hn
    unfold ndO
    rw [List.map_append, List.nodup_append]
    refine ⟨h, by simp, fun a ha b hb e => hn ?_⟩
    simp only [List.map_cons, List.map_nil, List.mem_singleton] at hb
    obtain ⟨q, hq, rfl⟩ := List.mem_map.mp ha
    exact List.any_eq_true.mpr ⟨q, hq, decide_eq_true (e.trans hb)⟩
theorem nd_drop {o : Own} {n : Str} (h : ndO o) : ndO (dropO o n) := by
  unfold ndO dropO
  exact List.Nodup.sublist (List.Sublist.map _ List.filter_sublist) h
theorem nd_deed {o o' : Own} {d : Deed} (h : ndO o) (e : opDeed o d = .ok o') : ndO o' := by
  cases d with
  | put n a r =>
    have e : opPut o n r = .ok o' := e
    unfold opPut at e
    repeat' split at e
    all_goals first | cases e; done | (injection e with e; subst e; exact nd_put h)
  | row n a x =>
    have e : opRow o n a x = .ok o' := e
    unfold opRow at e
    repeat' split at e
    all_goals first | cases e; done | (injection e with e; subst e; exact nd_put h)
  | cut n a x =>
    have e : opCut o n a = .ok o' := e
    unfold opCut at e
    repeat' split at e
    all_goals first | cases e; done | (injection e with e; subst e; exact nd_put h)
  | drop n a x =>
    have e : opDrop o n = .ok o' := e
    unfold opDrop at e
    repeat' split at e
    all_goals first | cases e; done | (injection e with e; subst e; exact nd_drop h)
theorem nd_P : ∀ j : Nat, j ≤ 20 → ndO (ownP j) := by
  have : ∀ j : _root_.Fin 21, ndO (ownP j.val) := by unfold ndO; decide +kernel
  exact fun j h => this ⟨j, by omega⟩
/-- a shelf as it stands -/
def okX (o : Own) : Prop := okO o ∧ ndO o
theorem okX_deed {o o' : Own} {d : Deed} (h : okX o) (hd : okDeed d) (e : opDeed o d = .ok o') : okX o' := ⟨deed_ok h.1 hd e, nd_deed h.2 e⟩
end Tl

/-! k75: the nine kinds of refusals. -/
namespace Tl
open PySem PySem.Spec PyProof.Rows L2 PV
def nA : Str := "a"
def nMain : Str := "main"
structure Cs where
  due : Nat
  good : Option (Option Deed)
  deed : Option Deed
def bad4 (N : Nat) : Str := (["", "A", "a b", "toolongname12"] : List Str).getD (N % 4) ""
def farN (N : Nat) : Int := ((N / 20 % 10 ^ 12 : Nat) : Int)
def awayN (N : Nat) : Int := ([-1, 201, 201 + farN N, -1 - farN N] : List Int).getD (N / 7 % 4) 0
def caseOf (k N : Nat) : Cs :=
  if k = 0 then ⟨0, none, some (.put (bad4 N) 0 ["a"])⟩
  else if k = 1 then ⟨1, none, some (.put (pN (N % 20)) 0 ["b"])⟩
  else if k = 2 then ⟨2, some (some (.drop (pN (N % 20)) 0 "")), some (.put "new" 0 ["a"])⟩
  else if k = 3 then ⟨3, some (some (.put "main" 0 ["a"])), some (.row "main" ((N % 2 : Nat) : Int) "b")⟩
  else if k = 4 then ⟨4, none, some (.row "main" (awayN N) "b")⟩
  else if k = 5 then ⟨2, some (some (.cut "main" ((N % 200 : Nat) : Int) "")), some (.row "main" ((N / 200 % 200 : Nat) : Int) "b")⟩
  else if k = 6 then ⟨4, some (some (.row "main" ((N % 2 : Nat) : Int) "c")), some (.cut "main" 1 "")⟩
  else if k = 7 then ⟨3, some (some (.put "main" 0 [""])), some (.drop "main" 0 "")⟩
  else ⟨5, some (some (.put "main" 0 ["a"])), none⟩
def dueE : Nat → Ec
  | 0 => .badName | 1 => .twice | 2 => .tooLong | 3 => .noPart | 4 => .noRow | _ => .nothingDone
def rep200 : List Str := List.replicate 200 "a"
def shO (k : Nat) : Own := if k < 3 then ownP 20 else if k = 4 ∨ k = 5 then [("main", rep200)] else if k = 6 then [("main", ["a"])] else []
def esP (j : Nat) : List Own := (List.range j).map ownP
def shE (k : Nat) : List Own := if k < 3 then esP 20 else if k = 4 ∨ k = 5 then [[]] else if k = 6 then [[]] else []
def dk0 (frm : PyData) (k : Nat) : DkS := ⟨frm, shO k, shE k, .list []⟩
theorem rows1 {x : Str} (h : 10 ∉ x.cps.toList) (h2 : x.length ≤ 400) : okRows [x] := ⟨by simp, by simp, fun y hy => by
  rw [List.mem_singleton] at hy; subst hy; exact ⟨h, h2⟩⟩
theorem rows200 : okRows rep200 := ⟨by simp [rep200], by simp [rep200], fun y hy => by
  rw [rep200, List.mem_replicate] at hy
  rw [hy.2]
  decide +kernel⟩
theorem sh_cases {k : Nat} (hk : k < 9) : okOwn (shO k) ∧ ndO (shO k) ∧ (shE k).length ≤ 20 := by
  by_cases h : k < 3
  · unfold shO shE
    rw [if_pos h, if_pos h]
    exact ⟨(ownP_ok 20 (by omega)).1, nd_P 20 (by omega), by simp [esP]⟩
  · unfold shO shE
    rw [if_neg h, if_neg h]
    split
    · exact ⟨⟨by simp, fun q hq => by rw [List.mem_singleton] at hq; subst hq; exact rows200⟩, by simp [ndO], by simp⟩
    · split
      · exact ⟨⟨by simp, fun q hq => by rw [List.mem_singleton] at hq; subst hq; exact rows1 (by decide +kernel) (by decide +kernel)⟩, by simp [ndO], by simp⟩
      · exact ⟨⟨by simp, fun q hq => nomatch hq⟩, by simp [ndO], by simp⟩
def errB (r : Except Ec Own) (c : Ec) : Bool := match r with | .ok _ => false | .error d => decide (d = c)
theorem errB_ok {r : Except Ec Own} {c : Ec} (h : errB r c = true) : r = .error c := by
  cases r with
  | ok o => cases h
  | error d => rw [of_decide_eq_true (show decide (d = c) = true from h)]
def okB (r : Except Ec Own) : Bool := match r with | .ok _ => true | .error _ => false
theorem okB_ok {r : Except Ec Own} (h : okB r = true) : ∃ o, r = .ok o := by
  cases r with
  | ok o => exact ⟨o, rfl⟩
  | error d => cases h
theorem step_of {s : DkS} {d : Deed} {c : Ec} (h : opDeed s.o d = .error c) : stepD s (some d) = .error c := by
  show Except.map _ (opDeed s.o d) = _
  rw [h]; rfl
theorem step_ok {s : DkS} {d : Deed} {o : Own} (h : opDeed s.o d = .ok o) : stepD s (some d) = .ok (s.go o) := by
  show Except.map _ (opDeed s.o d) = _
  rw [h]; rfl
theorem f20 {p : Nat → Prop} (h : ∀ k : _root_.Fin 20, p k.val) {N : Nat} : p (N % 20) := h ⟨N % 20, by omega⟩
theorem f4 {p : Nat → Prop} (h : ∀ k : _root_.Fin 4, p k.val) {N : Nat} : p (N % 4) := h ⟨N % 4, by omega⟩
theorem f2 {p : Nat → Prop} (h : ∀ k : _root_.Fin 2, p k.val) {N : Nat} : p (N % 2) := h ⟨N % 2, by omega⟩
theorem pn_len : ∀ k : _root_.Fin 20, (pN k.val).length ≤ 10000 := by decide +kernel
theorem nine {p : Nat → Prop} {k : Nat} (hk : k < 9) (h0 : p 0) (h1 : p 1) (h2 : p 2) (h3 : p 3) (h4 : p 4) (h5 : p 5) (h6 : p 6) (h7 : p 7) (h8 : p 8) : p k := by
  match k, hk with
  | 0, _ => exact h0
  | 1, _ => exact h1
  | 2, _ => exact h2
  | 3, _ => exact h3
  | 4, _ => exact h4
  | 5, _ => exact h5
  | 6, _ => exact h6
  | 7, _ => exact h7
  | 8, _ => exact h8
  | k + 9, h => omega
theorem away_far (N : Nat) : awayN N < 0 ∨ awayN N > 200 := by
  unfold awayN
  have h : 0 ≤ farN N := by unfold farN; omega
  have h4 : N / 7 % 4 < 4 := by omega
  generalize N / 7 % 4 = m at h4
  match m, h4 with
  | 0, _ => left; show (-1 : Int) < 0; decide
  | 1, _ => right; show (201 : Int) > 200; decide
  | 2, _ => right; show 201 + farN N > 200; omega
  | 3, _ => left; show -1 - farN N < 0; omega
  | m + 4, h => omega
theorem deed_fits {k : Nat} (hk : k < 9) (N : Nat) : okOpt (caseOf k N).deed ∧ (caseOf k N).due < 6 := by
  refine nine (p := fun k => okOpt (caseOf k N).deed ∧ (caseOf k N).due < 6) hk ?_ ?_ ?_ ?_ ?_ ?_ ?_ ?_ ?_
  · exact ⟨⟨f4 (p := fun k => ((["", "A", "a b", "toolongname12"] : List Str).getD k "").length ≤ 10000) (by decide +kernel), rows1 (by decide +kernel) (by decide +kernel)⟩, show _ < 6 by (simp [caseOf])⟩
  · exact ⟨⟨f20 (p := fun k => (pN k).length ≤ 10000) pn_len, rows1 (by decide +kernel) (by decide +kernel)⟩, show _ < 6 by (simp [caseOf])⟩
  · exact ⟨⟨by decide +kernel, rows1 (by decide +kernel) (by decide +kernel)⟩, show _ < 6 by (simp [caseOf])⟩
  · exact ⟨⟨by decide +kernel, by decide +kernel, by decide +kernel⟩, show _ < 6 by (simp [caseOf])⟩
  · exact ⟨⟨by decide +kernel, by decide +kernel, by decide +kernel⟩, show _ < 6 by (simp [caseOf])⟩
  · exact ⟨⟨by decide +kernel, by decide +kernel, by decide +kernel⟩, show _ < 6 by (simp [caseOf])⟩
  · exact ⟨show ("main" : Str).length ≤ 10000 by decide +kernel, show _ < 6 by (simp [caseOf])⟩
  · exact ⟨show ("main" : Str).length ≤ 10000 by decide +kernel, show _ < 6 by (simp [caseOf])⟩
  · exact ⟨trivial, show _ < 6 by (simp [caseOf])⟩
theorem row_err {o : Own} {n : Str} {r : List Str} {a : Int} {x : Str} (h : look o n = some r) (ha : a < 0 ∨ a > r.length) : opRow o n a x = .error .noRow := by
  unfold opRow
  rw [h]
  exact if_pos ha
theorem row_long {o : Own} {n : Str} {r : List Str} {a : Int} {x : Str} (h : look o n = some r) (ha : ¬ (a < 0 ∨ a > r.length)) (hl : 200 ≤ r.length) : opRow o n a x = .error .tooLong := by
  unfold opRow
  rw [h]
  simp only
  rw [if_neg ha, if_pos hl]
theorem row_fine {o : Own} {n : Str} {r : List Str} {a : Int} {x : Str} (h : look o n = some r) (ha : ¬ (a < 0 ∨ a > r.length)) (hl : ¬ 200 ≤ r.length) : opRow o n a x = .ok (putO o n (rowIn r a.toNat x)) := by
  unfold opRow
  rw [h]
  simp only
  rw [if_neg ha, if_neg hl]
theorem cut_fine {o : Own} {n : Str} {r : List Str} {a : Int} (h : look o n = some r) (ha : ¬ (a < 0 ∨ a ≥ r.length)) : opCut o n a = .ok (putO o n (orOne (rowOut r a.toNat))) := by
  unfold opCut
  rw [h]
  simp only
  rw [if_neg ha]
theorem look_main (r : List Str) : look [(("main" : Str), r)] "main" = some r := by rw [look, if_pos rfl]
theorem put_main (r s : List Str) : putO [(("main" : Str), r)] "main" s = [(("main" : Str), s)] := by
  rw [putO, if_pos rfl]; rfl
theorem rep_len : rep200.length = 200 := by simp [rep200]
theorem cut_rep {n : Nat} (h : n < 200) : (orOne (rowOut rep200 n)).length = 199 := by
  have h1 : (rowOut rep200 n).length = 199 := by
    unfold rowOut
    rw [List.length_append, List.length_take, List.length_drop, rep_len]
    omega
  unfold orOne
  rw [if_neg (fun z => by rw [z] at h1; cases h1)]
  exact h1
theorem cut_rows {n : Nat} : ∀ x ∈ orOne (rowOut rep200 n), 10 ∉ x.cps.toList ∧ x.length ≤ 400 := by
  intro x hx
  unfold orOne at hx
  split at hx
  · rw [List.mem_singleton] at hx; subst hx; exact ⟨by simp, by show (0 : Nat) ≤ 400; omega⟩
  · unfold rowOut at hx
    rcases List.mem_append.mp hx with z | z
    · exact rows200.2.2 x (List.mem_of_mem_take z)
    · exact rows200.2.2 x (List.mem_of_mem_drop z)
/-- the deed is refused, by the class that is due -/
theorem case_err (frm : PyData) {k : Nat} (hk : k < 9) (N : Nat) : stepD (dk0 frm k) (caseOf k N).deed = .error (dueE (caseOf k N).due) := by
  refine nine (p := fun k => stepD (dk0 frm k) (caseOf k N).deed = .error (dueE (caseOf k N).due)) hk ?_ ?_ ?_ ?_ ?_ ?_ ?_ ?_ ?_
  · exact step_of (errB_ok (f4 (p := fun k => errB (opPut (ownP 20) ((["", "A", "a b", "toolongname12"] : List Str).getD k "") ["a"]) .badName = true) (by decide +kernel)))
  · exact step_of (errB_ok (f20 (p := fun k => errB (opPut (ownP 20) (pN k) ["b"]) .twice = true) (by decide +kernel)))
  · exact step_of (d := .put "new" 0 ["a"]) (errB_ok (r := opPut (ownP 20) "new" ["a"]) (c := .tooLong) (by decide +kernel))
  · exact step_of (d := .row "main" ((N % 2 : Nat) : Int) "b") (show opRow [] "main" ((N % 2 : Nat) : Int) "b" = .error .noPart by unfold opRow look; rfl)
  · exact step_of (d := .row "main" (awayN N) "b") (row_err (look_main rep200) (by rw [rep_len]; exact away_far N))
  · exact step_of (d := .row "main" ((N / 200 % 200 : Nat) : Int) "b") (row_long (look_main rep200) (by rw [rep_len]; omega) (by rw [rep_len]; exact Nat.le_refl _))
  · exact step_of (d := .cut "main" 1 "") (errB_ok (r := opCut [(("main" : Str), ["a"])] "main" 1) (c := .noRow) (by decide +kernel))
  · exact step_of (d := .drop "main" 0 "") (errB_ok (r := opDrop [] "main") (c := .noPart) (by decide +kernel))
  · rfl
/-- what makes it good -/
theorem case_good (frm : PyData) {k : Nat} (hk : k < 9) (N : Nat) : ∀ d, (caseOf k N).good = some d → okOpt d ∧ ∃ s1 s2, stepD (dk0 frm k) d = .ok s1 ∧ stepD s1 (caseOf k N).deed = .ok s2 ∧ okOwn s1.o ∧ s1.es.length ≤ 1000 := by
  have one : ∀ {r : List Str}, okRows r → okOwn [(("main" : Str), r)] := fun h => ⟨by simp, fun q hq => by rw [List.mem_singleton] at hq; subst hq; exact h⟩
  refine nine (p := fun k => ∀ d, (caseOf k N).good = some d → okOpt d ∧ ∃ s1 s2, stepD (dk0 frm k) d = .ok s1 ∧ stepD s1 (caseOf k N).deed = .ok s2 ∧ okOwn s1.o ∧ s1.es.length ≤ 1000) hk ?_ ?_ ?_ ?_ ?_ ?_ ?_ ?_ ?_
  · intro d h; cases h
  · intro d h; cases h
  · intro d h
    cases h
    have h1 : opDrop (ownP 20) (pN (N % 20)) = .ok (dropO (ownP 20) (pN (N % 20))) := f20 (p := fun k => opDrop (ownP 20) (pN k) = .ok (dropO (ownP 20) (pN k))) (fun k => by
      have : ∀ k : _root_.Fin 20, (look (ownP 20) (pN k.val)).isSome = true := by decide +kernel
      unfold opDrop
      exact if_pos (this k))
    obtain ⟨o2, h2⟩ := okB_ok (f20 (p := fun k => okB (opPut (dropO (ownP 20) (pN k)) "new" ["a"]) = true) (by decide +kernel) (N := N))
    refine ⟨show (pN (N % 20)).length ≤ 10000 from f20 (p := fun k => (pN k).length ≤ 10000) pn_len, _, _, step_ok (d := .drop (pN (N % 20)) 0 "") h1, step_ok (d := .put "new" 0 ["a"]) h2, ?_, by simp [dk0, DkS.go, shE, esP]⟩
    exact (deed_ok (d := .drop (pN (N % 20)) 0 "") (ownP_ok 20 (by omega)) (f20 (p := fun k => (pN k).length ≤ 10000) pn_len) h1).1
  · intro d h
    cases h
    have h1 : opPut [] "main" ["a"] = .ok [(("main" : Str), [("a" : Str)])] := by
      have e : nmB ("main" : Str) = true := by decide +kernel
      unfold opPut
      rw [if_neg (by rw [e]; exact fun z => nomatch z), if_neg (by unfold look; exact fun z => nomatch z), if_neg (by simp)]
      rfl
    refine ⟨⟨by decide +kernel, rows1 (by decide +kernel) (by decide +kernel)⟩, _, _, step_ok (d := .put "main" 0 ["a"]) h1, step_ok (d := .row "main" ((N % 2 : Nat) : Int) "b") (row_fine (look_main _) (by simp; omega) (by simp)), one (rows1 (by decide +kernel) (by decide +kernel)), by simp [dk0, DkS.go, shE]⟩
  · intro d h; cases h
  · intro d h
    cases h
    have h1 : opCut [(("main" : Str), rep200)] "main" ((N % 200 : Nat) : Int) = .ok [(("main" : Str), orOne (rowOut rep200 (N % 200)))] := by
      rw [cut_fine (look_main rep200) (by rw [rep_len]; omega), put_main]
      rfl
    have hl := cut_rep (n := N % 200) (by omega)
    refine ⟨show ("main" : Str).length ≤ 10000 by decide +kernel, _, _, step_ok (d := .cut "main" ((N % 200 : Nat) : Int) "") h1, step_ok (d := .row "main" ((N / 200 % 200 : Nat) : Int) "b") (row_fine (look_main _) (by rw [hl]; omega) (by rw [hl]; omega)), one (r := orOne (rowOut rep200 (N % 200))) ⟨(fun z => by rw [z] at hl; exact absurd hl (by decide)), (by rw [hl]; decide), cut_rows⟩, by simp [dk0, DkS.go, shE]⟩
  · intro d h
    cases h
    have h1 : opRow [(("main" : Str), [("a" : Str)])] "main" ((N % 2 : Nat) : Int) "c" = .ok [(("main" : Str), rowIn ["a"] (N % 2) "c")] := by
      rw [row_fine (look_main _) (by simp; omega) (by simp), put_main]
      rfl
    have hin : ∀ k : _root_.Fin 2, okB (opCut [(("main" : Str), rowIn [("a" : Str)] k.val "c")] "main" 1) = true := by decide +kernel
    obtain ⟨o2, h2⟩ := okB_ok (f2 (p := fun k => okB (opCut [(("main" : Str), rowIn [("a" : Str)] k "c")] "main" 1) = true) hin (N := N))
    refine ⟨⟨by decide +kernel, by decide +kernel, by decide +kernel⟩, _, _, step_ok (d := .row "main" ((N % 2 : Nat) : Int) "c") h1, step_ok (d := .cut "main" 1 "") h2, ?_, by simp [dk0, DkS.go, shE]⟩
    exact one (f2 (p := fun k => okRows (rowIn [("a" : Str)] k "c")) (fun k => by
      have : ∀ k : _root_.Fin 2, rowIn [("a" : Str)] k.val "c" ≠ [] ∧ (rowIn [("a" : Str)] k.val "c").length ≤ 200 ∧ ∀ x ∈ rowIn [("a" : Str)] k.val "c", 10 ∉ x.cps.toList ∧ x.length ≤ 400 := by decide +kernel
      exact this k))
  · intro d h
    cases h
    have h1 : opPut [] "main" [("" : Str)] = .ok [(("main" : Str), [("" : Str)])] := by
      have e : nmB ("main" : Str) = true := by decide +kernel
      unfold opPut
      rw [if_neg (by rw [e]; exact fun z => nomatch z), if_neg (by unfold look; exact fun z => nomatch z), if_neg (by simp)]
      rfl
    have h2 : opDrop [(("main" : Str), [("" : Str)])] "main" = .ok (dropO [(("main" : Str), [("" : Str)])] "main") := by
      unfold opDrop
      rw [look_main]
      rfl
    refine ⟨⟨by decide +kernel, rows1 (by decide +kernel) (by decide +kernel)⟩, _, _, step_ok (d := .put "main" 0 [""]) h1, step_ok (d := .drop "main" 0 "") h2, one (rows1 (by decide +kernel) (by decide +kernel)), by simp [dk0, DkS.go, shE]⟩
  · intro d h
    cases h
    have h1 : opPut [] "main" ["a"] = .ok [(("main" : Str), [("a" : Str)])] := by
      have e : nmB ("main" : Str) = true := by decide +kernel
      unfold opPut
      rw [if_neg (by rw [e]; exact fun z => nomatch z), if_neg (by unfold look; exact fun z => nomatch z), if_neg (by simp)]
      rfl
    exact ⟨⟨by decide +kernel, rows1 (by decide +kernel) (by decide +kernel)⟩, _, _, step_ok (d := .put "main" 0 ["a"]) h1, rfl, one (rows1 (by decide +kernel) (by decide +kernel)), by simp [dk0, DkS.go, shE]⟩
def csD (cs : Cs) : PyData := .tuple [.int (cs.due : Int), .list (cs.good.toList.map dOpt), dOpt cs.deed]
def put1 (n x : Str) : PyData := .tuple [.str "put", .str n, .int 0, txF [x]]
theorem cs0 (N : Nat) : csD (caseOf 0 N) = .tuple [.int 0, .list [], put1 (bad4 N) "a"] := rfl
theorem cs1 (N : Nat) : csD (caseOf 1 N) = .tuple [.int 1, .list [], put1 (pN (N % 20)) "b"] := rfl
theorem cs2 (N : Nat) : csD (caseOf 2 N) = .tuple [.int 2, .list [.tuple [.str "drop", .str (pN (N % 20)), .int 0, .str ""]], put1 "new" "a"] := rfl
theorem cs3 (N : Nat) : csD (caseOf 3 N) = .tuple [.int 3, .list [put1 "main" "a"], .tuple [.str "row", .str "main", .int ((N % 2 : Nat) : Int), .str "b"]] := rfl
theorem cs4 (N : Nat) : csD (caseOf 4 N) = .tuple [.int 4, .list [], .tuple [.str "row", .str "main", .int (awayN N), .str "b"]] := rfl
theorem cs5 (N : Nat) : csD (caseOf 5 N) = .tuple [.int 2, .list [.tuple [.str "cut", .str "main", .int ((N % 200 : Nat) : Int), .str ""]], .tuple [.str "row", .str "main", .int ((N / 200 % 200 : Nat) : Int), .str "b"]] := rfl
theorem cs6 (N : Nat) : csD (caseOf 6 N) = .tuple [.int 4, .list [.tuple [.str "row", .str "main", .int ((N % 2 : Nat) : Int), .str "c"]], .tuple [.str "cut", .str "main", .int 1, .str ""]] := rfl
theorem cs7 (N : Nat) : csD (caseOf 7 N) = .tuple [.int 3, .list [put1 "main" ""], .tuple [.str "drop", .str "main", .int 0, .str ""]] := rfl
theorem cs8 (N : Nat) : csD (caseOf 8 N) = .tuple [.int 5, .list [put1 "main" "a"], .tuple [.str "undo", .str "", .int 0, .str ""]] := rfl
theorem txF1 (x : Str) : txF [x] = .str x := by
  unfold txF joinN
  congr 1
theorem case_clb {k : Nat} (hk : k < 9) (N : Nat) : ∀ d, (caseOf k N).good = some d → clb 2 (.list [dOpt d]) = true := by
  refine nine (p := fun k => ∀ d, (caseOf k N).good = some d → clb 2 (.list [dOpt d]) = true) hk ?_ ?_ ?_ ?_ ?_ ?_ ?_ ?_ ?_
  · intro d h; cases h
  · intro d h; cases h
  · intro d h
    cases h
    exact f20 (p := fun k => clb 2 (.list [dOpt (some (.drop (pN k) 0 ""))]) = true) (by decide +kernel)
  · intro d h; cases h; decide +kernel
  · intro d h; cases h
  · intro d h
    cases h
    exact (show ∀ a : Int, clb 2 (.list [.tuple [.str "cut", .str "main", .int a, .str ""]]) = true from fun a => (show _ = clb 2 (.list [.tuple [.str "cut", .str "main", .int 0, .str ""]]) by simp only [clb, List.all_cons]).trans (by decide +kernel)) _
  · intro d h
    cases h
    exact (show ∀ a : Int, clb 2 (.list [.tuple [.str "row", .str "main", .int a, .str "c"]]) = true from fun a => (show _ = clb 2 (.list [.tuple [.str "row", .str "main", .int 0, .str "c"]]) by simp only [clb, List.all_cons]).trans (by decide +kernel)) _
  · intro d h; cases h; decide +kernel
  · intro d h; cases h; decide +kernel
end Tl

/-! The pure-value layer: lists put together wherever they stand; a list asked whether it is empty. -/
namespace PV
open PySem PySem.Spec PyProof.Rows L2
section
variable {X : Cx} {W : Wc} {ρ : Env} {e a b : Expr} {es : List Expr} {pos p : Pos} {C : Ec → Addr} {k : Nat} {rest : List Stmt} {Φ : Out → Prop}
def rCatW (K : PySem.W.Frag) : R2 := fun x y H Q => ∃ l b xs zs, x = .ref l ∧ y = .ref b ∧ SqL K H l xs ∧ SqL K H b zs ∧ xs.length + zs.length ≤ sizeLine ∧ ∀ p, H p = none → Q (.ref p) (upd H p (.lst (xs ++ zs)))
theorem op_catW : OpR X (binaryOp .Add) (rCatW X.K) := by
  intro pins s σ H x y v u Q I rx ry h
  obtain ⟨l, b, xs, zs, rfl, rfl, hH, hB, hz, q⟩ := h
  cases rx
  cases ry
  obtain ⟨its, r, pl, _⟩ := I.list hH
  obtain ⟨its2, r2, pl2, _⟩ := I.list hB
  obtain ⟨⟨cls, dd, data, sl⟩, n, ho, hc, hdd, hd⟩ := pl
  obtain ⟨⟨cls2, dd2, data2, sl2⟩, n2, ho2, hc2, hdd2, hd2⟩ := pl2
  simp only at hc hd hc2 hd2
  subst hc hd hc2 hd2
  have e : its.toArray ++ its2.toArray = (its ++ its2).toArray := by simp
  have hl := r.length
  have hl2 := r2.length
  refine concat_meets ⟨_, ho, rfl⟩ ⟨_, ho2, rfl⟩ noFill_list_add seq_list_add PySem.F.slot_list_add PySem.F.entry_list_add (PySem.F.args_list_add_2 _ _) (list_addW l b its.toArray its2.toArray n n2 dd dd2 sl sl2 (by rw [List.size_toArray, List.size_toArray]; omega)) ⟨ho, ho2, ?_⟩
  rw [e]
  exact ⟨.ref _, _, I.lnew (t' := s.toks) (r.append r2) (by rw [List.length_append]; omega), rfl, q _ I.fresh⟩
theorem fr_catW {ds es : List PyData} (ha : Bw X W ρ a ds) (hb : Bw X W ρ b es) (c : ds.length + es.length ≤ sizeLine) : Fr X W ρ (.BinOp a .Add b pos) (ds ++ es) :=
  ⟨fun pins s σ F H M Q I ok h => (pe_op op_catW ha.pe hb.pe).run pins s σ H Q I ⟨F, M, ok, fun x F1 H1 e1 ⟨p, vs, ex, h1, h2⟩ => ⟨F1, M, ok.ext e1, fun y F2 H2 e2 ⟨q, ws, ey, h3, h4⟩ => by
    subst ex ey
    have x := e1.trans e2
    refine ⟨p, q, vs, ws, rfl, rfl, e2.h.seq h1, h3, by rw [DqAll_len h2, DqAll_len h4]; exact c, fun l hl => ?_⟩
    exact h l _ F2 _ (x.trans (.beside x.sub hl)) (x.h.free hl) (x.sub.free hl) upd_same (DqAll_app (dqAll_mono e2.f _ _ h2) h4)⟩⟩⟩
theorem Fr.as {ds : List PyData} (es : List PyData) (h : Fr X W ρ e ds) (q : ds = es) : Fr X W ρ e es := q ▸ h
end
end PV

/-! k75: cases, desks, bad forms, walked. -/
namespace Tl
open PySem PySem.Spec PyProof.Rows L2 PV
theorem at4 {α : Type} (l : List α) (x : α) (f : α → PyData) {n : Nat} (h : n < l.length) : atI (l.map f) (n : Int) = some (f (l.getD n x)) := by
  refine atI_nat ?_
  rw [List.getElem?_map, List.getD_eq_getElem?_getD, List.getElem?_eq_getElem h]
  rfl
theorem put_main0 (r : List Str) : opPut [] "main" r = .ok [(("main" : Str), r)] := by
  have e : nmB ("main" : Str) = true := by decide +kernel
  unfold opPut
  rw [if_neg (by rw [e]; exact fun z => nomatch z), if_neg (by unfold look; exact fun z => nomatch z), if_neg (by simp)]
  rfl
theorem put_P {j : Nat} (h : j < 20) : opPut (ownP j) (pN j) [("a" : Str)] = .ok (ownP (j + 1)) := by
  have h1 := (ownP_put ⟨j, h⟩).1
  simp only at h1
  cases e : opPut (ownP j) (pN j) [("a" : Str)] with
  | error cl => rw [e] at h1; cases h1
  | ok o => rw [e] at h1; have h1 : o = ownP (j + 1) := of_decide_eq_true h1; rw [h1]
theorem esP_succ (j : Nat) : esP (j + 1) = esP j ++ [ownP j] := by
  unfold esP
  rw [List.range_succ, List.map_append]
  rfl
def limN (k : Nat) : Int := ([200, 60, 10 ^ 60, 60] : List Int).getD k 0
def stepN (N : Nat) (far : Int) : Int := ([1, 1 + far % 10 ^ 60] : List Int).getD (N / 2880000 % 2) 0
def newN (N : Nat) (far : Int) : Int := ([0 - stepN N far + (if N / 720000 % 4 ≠ 2 then 1 else 0), limN (N / 720000 % 4) + stepN N far] : List Int).getD (N / 5760000 % 2) 0
def fm4 (N : Nat) (far : Int) : List Int := [1 + ((N % 200 : Nat) : Int), 1 + ((N / 200 % 60 : Nat) : Int), far % 10 ^ 60, 1 + ((N / 12000 % 60 : Nat) : Int)]
def badL (N : Nat) (far : Int) : List Int := (fm4 N far).set (N / 720000 % 4) (newN N far)
def badF (N : Nat) (far : Int) : Fm := ((badL N far).getD 0 0, (badL N far).getD 1 0, (badL N far).getD 2 0, (badL N far).getD 3 0)
theorem step_pos (N : Nat) (far : Int) : 1 ≤ stepN N far := by
  unfold stepN
  have h := Int.emod_nonneg far (show (10 : Int) ^ 60 ≠ 0 by decide)
  rcases Nat.mod_two_eq_zero_or_one (N / 2880000) with e | e <;> rw [e]
  · show (1 : Int) ≤ 1; omega
  · show (1 : Int) ≤ 1 + far % 10 ^ 60; omega
theorem badF_bad (N : Nat) (far : Int) : fmOk (badF N far) = false := by
  have hs := step_pos N far
  have h4 : N / 720000 % 4 < 4 := Nat.mod_lt _ (by decide)
  unfold fmOk badF badL fm4 newN limN
  generalize stepN N far = s at hs
  generalize N / 720000 % 4 = k at h4
  rcases Nat.mod_two_eq_zero_or_one (N / 5760000) with e | e <;> rw [e]
  · match k, h4 with
    | 0, _ => simp; omega
    | 1, _ => simp; omega
    | 2, _ => simp; omega
    | 3, _ => simp; omega
    | k + 4, h => omega
  · match k, h4 with
    | 0, _ => simp; omega
    | 1, _ => simp; omega
    | 2, _ => simp; omega
    | 3, _ => simp; omega
    | k + 4, h => omega
section
variable {P : Program} {w : World} {K : PySem.W.Frag} {mg : Str → Option Value} {base : Heap} {C : Ec → Addr} {D TE : Addr}
abbrev C_bad_form (P : Program) (w : World) (K : PySem.W.Frag) (mg : Str → Option Value) (base : Heap) (C : Ec → Addr) := Callee P w K mg base 1 "_law_bad_form" (spP K C 2 (fun i : Nat × Int => [fz (.int i.1), fz (.int i.2)]) (fun _ => True) (fun i => is (.ok (fz (fmD (badF i.1 i.2))))))
theorem ok_bad_form (Bt : Blt mg) (Df0 : Df K mg "_law_bad_form" s_law_bad_form) : C_bad_form P w K mg base C := by
  refine callee_of Df0 sc_law_bad_form (fun _ _ _ _ _ _ us hl => match us, hl with | [_, _], _ => rfl) (fun f cdv A outer s H E c i _ => ?_)
  obtain ⟨N, far⟩ := i
  show Sxs _ _ _ [some (fz (.int N)), some (fz (.int far)), none, none, none] (bodyS (is (.ok (fz (fmD (badF N far))))))
  refine sxs_setF 2 (Fr.as ((fm4 N far).map PyData.int) (fr_lst (eva_cons (ev_add ev_int (ev_mod (by decide) (ev_var 0 rfl) ev_int)) (eva_cons (ev_add ev_int (ev_mod (by decide) (ev_fdiv (by decide) (ev_var 0 rfl) ev_int) ev_int)) (eva_cons (ev_mod (by decide) (ev_var 1 rfl) (ev_pow ⟨by decide, by decide, by decide⟩ ev_int ev_int)) (eva_cons (ev_add ev_int (ev_mod (by decide) (ev_fdiv (by decide) (ev_var 0 rfl) ev_int) ev_int)) eva_nil))))) rfl) ?_ c.nd
  refine sxs_set 3 ((ev_mod (by decide) (ev_fdiv (by decide) (ev_var 0 rfl) ev_int) ev_int).to (e := .int ((N / 720000 % 4 : Nat) : Int)) rfl) ?_ c.nd
  refine sxs_set 4 (ev_ixL (d := .int (stepN N far)) (Bv.bw (Fr.bv (Fr.as ([1, 1 + far % 10 ^ 60].map PyData.int) (fr_lst (eva_cons ev_int (eva_cons (ev_add ev_int (ev_mod (by decide) (ev_var 1 rfl) (ev_pow ⟨by decide, by decide, by decide⟩ ev_int ev_int))) eva_nil))) rfl))) ((ev_mod (by decide) (ev_fdiv (by decide) (ev_var 0 rfl) ev_int) ev_int).to (e := .int ((N / 2880000 % 2 : Nat) : Int)) rfl) (at4 _ 0 _ (Nat.mod_lt _ (by decide)))) ?_ c.nd
  have h4 : N / 720000 % 4 < 4 := Nat.mod_lt _ (by decide)
  refine sxs_setItem 2 (n := N / 720000 % 4) rfl (ev_ixL (d := .int (newN N far)) (Bv.bw (Fr.bv (Fr.as ([0 - stepN N far + (if N / 720000 % 4 ≠ 2 then 1 else 0), limN (N / 720000 % 4) + stepN N far].map PyData.int) (fr_lst (eva_cons (ev_add (ev_sub ev_int (ev_var 4 rfl)) (ev_intB Bt (ev_cm (cm_ne (ev_var 3 rfl) ev_int)))) (eva_cons (ev_add (ev_ixL (d := .int (limN (N / 720000 % 4))) (Bv.bw (Fr.bv (Fr.as (([200, 60, 10 ^ 60, 60] : List Int).map PyData.int) (fr_lst (eva_cons ev_int (eva_cons ev_int (eva_cons (ev_pow ⟨by decide, by decide, by decide⟩ ev_int ev_int) (eva_cons ev_int eva_nil))))) rfl))) (ev_var 3 rfl) (at4 _ 0 _ h4)) (ev_var 4 rfl)) eva_nil))) (by
      have : (!decide (((N / 720000 % 4 : Nat) : Int) = 2)) = decide (N / 720000 % 4 ≠ 2) := by
        by_cases h : N / 720000 % 4 = 2
        · rw [decide_eq_true (show ((N / 720000 % 4 : Nat) : Int) = 2 by omega), decide_eq_false (by omega)]; rfl
        · rw [decide_eq_false (show ¬ ((N / 720000 % 4 : Nat) : Int) = 2 by omega), decide_eq_true h]; rfl
      rw [this]
      simp only [decide_eq_true_eq, List.map_cons, List.map_nil])))) ((ev_mod (by decide) (ev_fdiv (by decide) (ev_var 0 rfl) ev_int) ev_int).to (e := .int ((N / 5760000 % 2 : Nat) : Int)) rfl) (at4 _ 0 _ (Nat.mod_lt _ (by decide)))) (ev_var 3 rfl) (ixN_nat (by rw [List.length_map]; exact h4)) ?_
  have e0 : ((fm4 N far).map PyData.int).set (N / 720000 % 4) (.int (newN N far)) = (badL N far).map PyData.int := by
    unfold badL
    rw [List.map_set]
  have hl : (badL N far).length = 4 := by unfold badL fm4; rw [List.length_set]; rfl
  rw [e0]
  refine sxs_ret (ev_tup (eva_cons (ev_ixL (Bv.bw (bv_var 2 rfl)) ev_int (at4 _ 0 _ (n := 0) (by omega))) (eva_cons (ev_ixL (Bv.bw (bv_var 2 rfl)) ev_int (at4 _ 0 _ (n := 1) (by omega))) (eva_cons (ev_ixL (Bv.bw (bv_var 2 rfl)) ev_int (at4 _ 0 _ (n := 2) (by omega))) (eva_cons (ev_ixL (Bv.bw (bv_var 2 rfl)) ev_int (at4 _ 0 _ (n := 3) (by omega))) eva_nil))))) rfl
abbrev C_case (P : Program) (w : World) (K : PySem.W.Frag) (mg : Str → Option Value) (base : Heap) (C : Ec → Addr) := Callee P w K mg base 1 "_law_case" (spP K C 2 (fun i : Nat × Nat => [fz (.int i.1), fz (.int i.2)]) (fun i => i.1 < 9) (fun i => is (.ok (fz (csD (caseOf i.1 i.2))))))
theorem ok_case (Bt : Blt mg) (Df0 : Df K mg "_law_case" s_law_case) : C_case P w K mg base C := by
  refine callee_of Df0 sc_law_case (fun _ _ _ _ _ _ us hl => match us, hl with | [_, _], _ => rfl) (fun f cdv A outer s H E c i hi => ?_)
  obtain ⟨k, N⟩ := i
  have hi : k < 9 := hi
  show Sxs _ _ _ [some (fz (.int k)), some (fz (.int N)), none, none, none] (bodyS (is (.ok (fz (csD (caseOf k N))))))
  have hfl : (figS (N % 20)).length ≤ 2 := fig_le (by decide) (by omega)
  have hp1 : ("p" : Str).length = 1 := by decide +kernel
  have hlog : (N % 20).log2 < 1920 := by
    by_cases h0 : N % 20 = 0
    · rw [h0]; decide
    · have h6 := (Nat.log2_lt (k := 5) h0).mpr (by omega)
      omega
  refine sxs_set 2 ((ev_adds (szm (by rw [hp1]; show 1 + (figS (N % 20)).length ≤ _; omega)) ev_str (ev_strI Bt ((ev_mod (by decide) (ev_var 1 rfl) ev_int).to (e := .int ((N % 20 : Nat) : Int)) rfl) hlog)).to (e := .str (pN (N % 20))) rfl) ?_ c.nd
  refine sxs_set 3 ((ev_mod (by decide) (ev_fdiv (by decide) (ev_var 1 rfl) ev_int) (ev_pow ⟨by decide, by decide, by decide⟩ ev_int ev_int)).to (e := .int (farN N)) (by unfold farN; rfl)) ?_ c.nd
  refine sxs_set 4 (ev_ixL (d := .int (awayN N)) (Bv.bw (Fr.bv (Fr.as (([-1, 201, 201 + farN N, -1 - farN N] : List Int).map PyData.int) (fr_lst (eva_cons (ev_neg ev_int) (eva_cons ev_int (eva_cons (ev_add ev_int (ev_var 3 rfl)) (eva_cons (ev_sub (ev_neg ev_int) (ev_var 3 rfl)) eva_nil))))) rfl))) ((ev_mod (by decide) (ev_fdiv (by decide) (ev_var 1 rfl) ev_int) ev_int).to (e := .int ((N / 7 % 4 : Nat) : Int)) rfl) (at4 _ 0 _ (Nat.mod_lt _ (by decide)))) ?_ c.nd
  refine sxs_if (t := decide (k = 0)) ((tst_cm (cm_eq (ev_var 0 rfl) ev_int)).to (by rw [decide_eq_decide]; omega)) (fun h => ?_) (fun h => ?_)
  · have h := of_decide_eq_true h
    subst h
    rw [cs0]
    exact sxs_ret ((ev_tup (eva_cons ev_int (eva_cons (Fr.ev (fr_lst eva_nil)) (eva_cons (ev_tup (eva_cons ev_str (eva_cons (ev_ixL (d := .str (bad4 N)) (Bv.bw (Fr.bv (Fr.as ((["", "A", "a b", "toolongname12"] : List Str).map PyData.str) (fr_lst (eva_cons ev_str (eva_cons ev_str (eva_cons ev_str (eva_cons ev_str eva_nil))))) rfl))) ((ev_mod (by decide) (ev_var 1 rfl) ev_int).to (e := .int ((N % 4 : Nat) : Int)) rfl) (at4 _ ("" : Str) _ (Nat.mod_lt _ (by decide)))) (eva_cons ev_int (eva_cons (ev_str.to (txF1 _).symm) eva_nil))))) eva_nil))))) rfl
  have h := of_decide_eq_false h
  refine sxs_nil ?_
  refine sxs_if (t := decide (k = 1)) ((tst_cm (cm_eq (ev_var 0 rfl) ev_int)).to (by rw [decide_eq_decide]; omega)) (fun h => ?_) (fun h => ?_)
  · have h := of_decide_eq_true h
    subst h
    rw [cs1]
    exact sxs_ret ((ev_tup (eva_cons ev_int (eva_cons (Fr.ev (fr_lst eva_nil)) (eva_cons (ev_tup (eva_cons ev_str (eva_cons (ev_var 2 rfl) (eva_cons ev_int (eva_cons (ev_str.to (txF1 _).symm) eva_nil))))) eva_nil))))) rfl
  have h := of_decide_eq_false h
  refine sxs_nil ?_
  refine sxs_if (t := decide (k = 2)) ((tst_cm (cm_eq (ev_var 0 rfl) ev_int)).to (by rw [decide_eq_decide]; omega)) (fun h => ?_) (fun h => ?_)
  · have h := of_decide_eq_true h
    subst h
    rw [cs2]
    exact sxs_ret ((ev_tup (eva_cons ev_int (eva_cons (Fr.ev (fr_lst (eva_cons (ev_tup (eva_cons ev_str (eva_cons (ev_var 2 rfl) (eva_cons ev_int (eva_cons ev_str eva_nil))))) eva_nil))) (eva_cons (ev_tup (eva_cons ev_str (eva_cons ev_str (eva_cons ev_int (eva_cons (ev_str.to (txF1 _).symm) eva_nil))))) eva_nil))))) rfl
  have h := of_decide_eq_false h
  refine sxs_nil ?_
  refine sxs_if (t := decide (k = 3)) ((tst_cm (cm_eq (ev_var 0 rfl) ev_int)).to (by rw [decide_eq_decide]; omega)) (fun h => ?_) (fun h => ?_)
  · have h := of_decide_eq_true h
    subst h
    rw [cs3]
    exact sxs_ret ((ev_tup (eva_cons ev_int (eva_cons (Fr.ev (fr_lst (eva_cons (ev_tup (eva_cons ev_str (eva_cons ev_str (eva_cons ev_int (eva_cons (ev_str.to (txF1 _).symm) eva_nil))))) eva_nil))) (eva_cons (ev_tup (eva_cons ev_str (eva_cons ev_str (eva_cons ((ev_mod (by decide) (ev_var 1 rfl) ev_int).to (e := .int ((N % 2 : Nat) : Int)) rfl) (eva_cons ev_str eva_nil))))) eva_nil))))) rfl
  have h := of_decide_eq_false h
  refine sxs_nil ?_
  refine sxs_if (t := decide (k = 4)) ((tst_cm (cm_eq (ev_var 0 rfl) ev_int)).to (by rw [decide_eq_decide]; omega)) (fun h => ?_) (fun h => ?_)
  · have h := of_decide_eq_true h
    subst h
    rw [cs4]
    exact sxs_ret ((ev_tup (eva_cons ev_int (eva_cons (Fr.ev (fr_lst eva_nil)) (eva_cons (ev_tup (eva_cons ev_str (eva_cons ev_str (eva_cons (ev_var 4 rfl) (eva_cons ev_str eva_nil))))) eva_nil))))) rfl
  have h := of_decide_eq_false h
  refine sxs_nil ?_
  refine sxs_if (t := decide (k = 5)) ((tst_cm (cm_eq (ev_var 0 rfl) ev_int)).to (by rw [decide_eq_decide]; omega)) (fun h => ?_) (fun h => ?_)
  · have h := of_decide_eq_true h
    subst h
    rw [cs5]
    exact sxs_ret ((ev_tup (eva_cons ev_int (eva_cons (Fr.ev (fr_lst (eva_cons (ev_tup (eva_cons ev_str (eva_cons ev_str (eva_cons ((ev_mod (by decide) (ev_var 1 rfl) ev_int).to (e := .int ((N % 200 : Nat) : Int)) rfl) (eva_cons ev_str eva_nil))))) eva_nil))) (eva_cons (ev_tup (eva_cons ev_str (eva_cons ev_str (eva_cons ((ev_mod (by decide) (ev_fdiv (by decide) (ev_var 1 rfl) ev_int) ev_int).to (e := .int ((N / 200 % 200 : Nat) : Int)) rfl) (eva_cons ev_str eva_nil))))) eva_nil))))) rfl
  have h := of_decide_eq_false h
  refine sxs_nil ?_
  refine sxs_if (t := decide (k = 6)) ((tst_cm (cm_eq (ev_var 0 rfl) ev_int)).to (by rw [decide_eq_decide]; omega)) (fun h => ?_) (fun h => ?_)
  · have h := of_decide_eq_true h
    subst h
    rw [cs6]
    exact sxs_ret ((ev_tup (eva_cons ev_int (eva_cons (Fr.ev (fr_lst (eva_cons (ev_tup (eva_cons ev_str (eva_cons ev_str (eva_cons ((ev_mod (by decide) (ev_var 1 rfl) ev_int).to (e := .int ((N % 2 : Nat) : Int)) rfl) (eva_cons ev_str eva_nil))))) eva_nil))) (eva_cons (ev_tup (eva_cons ev_str (eva_cons ev_str (eva_cons ev_int (eva_cons ev_str eva_nil))))) eva_nil))))) rfl
  have h := of_decide_eq_false h
  refine sxs_nil ?_
  refine sxs_if (t := decide (k = 7)) ((tst_cm (cm_eq (ev_var 0 rfl) ev_int)).to (by rw [decide_eq_decide]; omega)) (fun h => ?_) (fun h => ?_)
  · have h := of_decide_eq_true h
    subst h
    rw [cs7]
    exact sxs_ret ((ev_tup (eva_cons ev_int (eva_cons (Fr.ev (fr_lst (eva_cons (ev_tup (eva_cons ev_str (eva_cons ev_str (eva_cons ev_int (eva_cons (ev_str.to (txF1 _).symm) eva_nil))))) eva_nil))) (eva_cons (ev_tup (eva_cons ev_str (eva_cons ev_str (eva_cons ev_int (eva_cons ev_str eva_nil))))) eva_nil))))) rfl
  have h := of_decide_eq_false h
  obtain rfl : k = 8 := by omega
  refine sxs_nil ?_
  rw [cs8]
  exact sxs_ret ((ev_tup (eva_cons ev_int (eva_cons (Fr.ev (fr_lst (eva_cons (ev_tup (eva_cons ev_str (eva_cons ev_str (eva_cons ev_int (eva_cons (ev_str.to (txF1 _).symm) eva_nil))))) eva_nil))) (eva_cons (ev_tup (eva_cons ev_str (eva_cons ev_str (eva_cons ev_int (eva_cons ev_str eva_nil))))) eva_nil))))) rfl
end
end Tl

/-! k75: the desk that is opened; the law. -/
namespace Tl
open PySem PySem.Spec PyProof.Rows L2 PV
section
variable {P : Program} {w : World} {K : PySem.W.Frag} {mg : Str → Option Value} {base : Heap} {C : Ec → Addr} {D TE : Addr}
theorem join_rep : Txt.join ("\n" : Str) rep200 = joinN rep200 := rfl
abbrev C_opened (P : Program) (w : World) (K : PySem.W.Frag) (mg : Str → Option Value) (base : Heap) (C : Ec → Addr) (D : Addr) := Callee P w K mg base 5 "_law_opened" (spP K C 2 (fun i : Nat × Fm => [fz (.int i.1), fz (fmD i.2)]) (fun i => i.1 < 9 ∧ fmOk i.2 = true) (fun i => is (.ok (obj D dNs (dSs (fmD i.2) (shO i.1) (shE i.1) (.list [])) none))))
theorem ok_opened (Bt : Blt mg) (O : ClsO K D dNs) (G_Desk : C_Desk P w K mg base C D) (G_put : C_put_part P w K mg base C D) (Df0 : Df K mg "_law_opened" s_law_opened) : C_opened P w K mg base C D := by
  refine callee_of Df0 sc_law_opened (fun _ _ _ _ _ _ us hl => match us, hl with | [_, _], _ => rfl) (fun f cdv A outer s H E c i hi => ?_)
  obtain ⟨k, fm⟩ := i
  obtain ⟨hk, hf⟩ := hi
  simp only at hk hf
  show Sxs _ _ _ [some (fz (.int k)), some (fz (fmD fm)), none, none] (bodyS (is (.ok (obj D dNs (dSs (fmD fm) (shO k) (shE k) (.list [])) none))))
  have hnew : ∀ {out : Except Ec Slot} {outs : List Asl}, newR D fm out outs → out = .ok (fz .none) ∧ outs = [dkA D ⟨fmD fm, [], [], .list []⟩] := fun h => by
    unfold newR at h
    rw [if_pos hf] at h
    exact h
  refine sxs_setE 2 (evm_make c G_Desk fm trivial rfl (am_ro (Ev.s (ev_var 1 rfl)) am_nil) (fun S outs h => by
      obtain ⟨e1, e2⟩ := hnew h
      cases e1
      exact ⟨rfl, _, _, e2⟩)) (fun S ρ' hR => ?_) (fun cl ρ' hR => ?_) c.nd
  rotate_left
  · obtain ⟨_, ⟨_, _, _, e⟩ | ⟨cl', outs, h, e⟩⟩ := hR
    · cases e
    · cases (hnew h).1
  obtain ⟨rfl, ⟨ns', Ss, h, e⟩ | ⟨cl', outs, h, e⟩⟩ := hR
  rotate_left
  · cases e
  cases e
  have eS : objA D ns' Ss = dkA D ⟨fmD fm, [], [], .list []⟩ := (List.cons.inj (hnew h).2).1
  have eO : obj D ns' Ss none = obj D dNs (dSs (fmD fm) [] [] (.list [])) none := congrArg (fun G : Asl => G.G none) eS
  rw [eO]
  clear h hnew eS eO
  show Sxs _ _ _ [some (fz (.int k)), some (fz (fmD fm)), some (obj D dNs (dSs (fmD fm) [] [] (.list [])) none), none] _
  have pr : ∀ {o o' : Own} {es : List Own} {n : Str} {r : List Str} {out : Except Ec Slot} {outs : List Asl}, opPut o n r = .ok o' → deedR D ⟨fmD fm, o, es, .list []⟩ (opPut o n r) out outs → out = .ok (fz .none) ∧ outs = [dkA D ⟨fmD fm, o', es ++ [o], .list []⟩] := fun e h => by
    rw [e] at h
    exact h
  by_cases h3 : k < 3
  · refine sxs_if (t := true) ((tst_cm (cm_lt (ev_var 0 rfl) ev_int)).to (decide_eq_true (by omega))) (fun _ => ?_) (fun h => nomatch h)
    refine sxs_for c (fun i ρ => ∃ (x : Option Slot), ρ = [some (fz (.int k)), some (fz (fmD fm)), some (obj D dNs (dSs (fmD fm) (ownP i) (esP i) (.list [])) none), x]) (iv_range1 Bt ev_int (by decide) (by decide)) (tg_name 3 c.nd) ⟨none, rfl⟩ (fun i d ρ hd hP => ?_) (fun ρ hP => ?_)
    · obtain ⟨x, rfl⟩ := hP
      obtain ⟨hi, rfl⟩ := nums_of hd
      have hi : i < 20 := by simpa using hi
      refine ⟨⟨(fun h => nomatch h), rfl⟩, ?_⟩
      show Sxs _ _ _ [some (fz (.int k)), some (fz (fmD fm)), some (obj D dNs (dSs (fmD fm) (ownP i) (esP i) (.list [])) none), some (fz (.int i))] _
      have hfl : (figS i).length ≤ 2 := fig_le (by decide) (by omega)
      have hp1 : ("p" : Str).length = 1 := by decide +kernel
      have hlog : i.log2 < 1920 := by
        by_cases h0 : i = 0
        · subst h0; decide
        · have h6 := (Nat.log2_lt (k := 5) h0).mpr (by omega)
          omega
      have hol := (ownP_ok i (by omega)).1.len
      have hpn : (pN i).length ≤ 10000000 := Nat.le_trans (pn_len ⟨i, hi⟩) (by decide)
      refine sxs_exprM (evm_meth 2 [] c O G_put (⟨fmD fm, ownP i, esP i, .list []⟩, pN i, [("a" : Str)]) ⟨hpn, by show (esP i).length ≤ 1000; simp [esP]; omega, by show (ownP i).length ≤ 1000; omega⟩ rfl rfl (am_ro (Ev.s (ev_adds (szm (by rw [hp1]; show 1 + (figS i).length ≤ _; omega)) ev_str (ev_strI Bt (ev_var 3 rfl) hlog))) (am_ro (Ev.s (ev_str.to (txF1 _).symm)) am_nil))) (fun S ρ' hR => ?_) (fun cl ρ' hR => ?_)
      · obtain ⟨outs, h, rfl⟩ := hR
        obtain ⟨_, rfl⟩ := pr (put_P hi) h
        exact sxs_nil ⟨_, Wk.refl _, _, by rw [esP_succ]; rfl⟩
      · obtain ⟨outs, h, rfl⟩ := hR
        cases (pr (put_P hi) h).1
    · obtain ⟨x, rfl⟩ := hP
      refine sxs_nil ?_
      refine sxs_if (t := false) ((Tws.tst (tw_or (p := false) ((tst_cm (cm_eq (ev_var 0 rfl) ev_int)).to (decide_eq_false (by omega))) fun h => (tw_or1 (p := false) ((tst_cm (cm_eq (ev_var 0 rfl) ev_int)).to (decide_eq_false (by omega))))))) (fun h => nomatch h) (fun _ => ?_)
      refine sxs_nil ?_
      refine sxs_if (t := false) ((tst_cm (cm_eq (ev_var 0 rfl) ev_int)).to (decide_eq_false (by omega))) (fun h => nomatch h) (fun _ => ?_)
      refine sxs_nil ?_
      refine sxs_retO 2 rfl ?_
      show _ = _
      unfold shO shE
      rw [if_pos h3, if_pos h3]
      rfl
  refine sxs_if (t := false) ((tst_cm (cm_lt (ev_var 0 rfl) ev_int)).to (decide_eq_false (by omega))) (fun h => nomatch h) (fun _ => ?_)
  refine sxs_nil ?_
  by_cases h45 : k = 4 ∨ k = 5
  · refine sxs_if (t := true) ((Tws.tst (tw_or (p := decide (k = 4)) ((tst_cm (cm_eq (ev_var 0 rfl) ev_int)).to (by rw [decide_eq_decide]; omega)) fun h => (tw_or1 (p := true) ((tst_cm (cm_eq (ev_var 0 rfl) ev_int)).to (decide_eq_true (by have := of_decide_eq_false h; omega)))))).to (by simp)) (fun _ => ?_) (fun h => nomatch h)
    have hfl : (List.replicate ((200 : Int).toNat) [PyData.str ("a" : Str)]).flatten = rep200.map PyData.str := by
      unfold rep200
      rw [List.map_replicate]
      exact List.flatten_replicate_singleton
    refine sxs_exprM (evm_meth 2 [] c O G_put (⟨fmD fm, [], [], .list []⟩, "main", rep200) ⟨show ("main" : Str).length ≤ 10000000 by decide +kernel, Nat.zero_le _, Nat.zero_le _⟩ rfl rfl (am_ro (Ev.s ev_str) (am_ro (Ev.s (ev_join (ys := rep200) ev_str (Bv.bw (Fr.bv (Fr.to (fr_rep (fr_lst (eva_cons ev_str eva_nil)) ev_int ⟨by decide, by decide, by decide⟩) hfl))) (by decide +kernel))) am_nil))) (fun S ρ' hR => ?_) (fun cl ρ' hR => ?_)
    rotate_left
    · obtain ⟨outs, h, rfl⟩ := hR
      cases (pr (put_main0 rep200) h).1
    obtain ⟨outs, h, rfl⟩ := hR
    obtain ⟨_, rfl⟩ := pr (put_main0 rep200) h
    refine sxs_nil ?_
    refine sxs_if (t := false) ((tst_cm (cm_eq (ev_var 0 rfl) ev_int)).to (decide_eq_false (by omega))) (fun h => nomatch h) (fun _ => ?_)
    refine sxs_nil ?_
    refine sxs_retO 2 rfl ?_
    show _ = _
    unfold shO shE
    rw [if_neg h3, if_neg h3, if_pos h45, if_pos h45]
    rfl
  refine sxs_if (t := false) ((Tws.tst (tw_or (p := false) ((tst_cm (cm_eq (ev_var 0 rfl) ev_int)).to (decide_eq_false (by omega))) fun h => (tw_or1 (p := false) ((tst_cm (cm_eq (ev_var 0 rfl) ev_int)).to (decide_eq_false (by omega))))))) (fun h => nomatch h) (fun _ => ?_)
  refine sxs_nil ?_
  by_cases h6 : k = 6
  · refine sxs_if (t := true) ((tst_cm (cm_eq (ev_var 0 rfl) ev_int)).to (decide_eq_true (by omega))) (fun _ => ?_) (fun h => nomatch h)
    refine sxs_exprM (evm_meth 2 [] c O G_put (⟨fmD fm, [], [], .list []⟩, "main", ["a"]) ⟨show ("main" : Str).length ≤ 10000000 by decide +kernel, Nat.zero_le _, Nat.zero_le _⟩ rfl rfl (am_ro (Ev.s ev_str) (am_ro (Ev.s (ev_str.to (txF1 _).symm)) am_nil))) (fun S ρ' hR => ?_) (fun cl ρ' hR => ?_)
    rotate_left
    · obtain ⟨outs, h, rfl⟩ := hR
      cases (pr (put_main0 ["a"]) h).1
    obtain ⟨outs, h, rfl⟩ := hR
    obtain ⟨_, rfl⟩ := pr (put_main0 ["a"]) h
    refine sxs_nil ?_
    refine sxs_retO 2 rfl ?_
    show _ = _
    unfold shO shE
    rw [if_neg h3, if_neg h3, if_neg h45, if_neg h45, if_pos h6, if_pos h6]
    rfl
  · refine sxs_if (t := false) ((tst_cm (cm_eq (ev_var 0 rfl) ev_int)).to (decide_eq_false (by omega))) (fun h => nomatch h) (fun _ => ?_)
    refine sxs_nil ?_
    refine sxs_retO 2 rfl ?_
    show _ = _
    unfold shO shE
    rw [if_neg h3, if_neg h3, if_neg h45, if_neg h45, if_neg h6, if_neg h6]
theorem due_list {d : Nat} (h : d < 6) : ((List.range 7).map fun k => PyData.bool (decide (k = d))) ++ [PyData.bool true] = kindsL (dueE d) := by
  match d, h with
  | 0, _ => rfl
  | 1, _ => rfl
  | 2, _ => rfl
  | 3, _ => rfl
  | 4, _ => rfl
  | 5, _ => rfl
  | d + 6, h => omega
theorem kinds_clb (c : Ec) : clb 1 (.list (kindsL c)) = true := by cases c <;> decide +kernel
theorem ok_law (Bt : Blt mg) (O : ClsO K D dNs) (G_mixed : C_mixed P w K mg base C) (G_case : C_case P w K mg base C) (G_opened : C_opened P w K mg base C D) (G_shelf : C_shelf P w K mg base C D) (G_refused : C_refused P w K mg base C D) (G_form : C_form_refused P w K mg base C) (G_bad : C_bad_form P w K mg base C) (G_done : C_done P w K mg base C D) (Df0 : Df K mg "law" s_law) : CalleeP P w K mg base 7 "law" ["script"] (spP K C 1 (fun ns : List Int => [kn (ns.map .int)]) (fun ns => ns.length ≤ 1000) (fun ns => is (.ok (fz (.bool true))))) := by
  refine callee_ofP Df0 sc_law (fun _ _ _ _ _ _ us hl => match us, hl with | [_], _ => rfl) (fun f cdv A outer s H E c ns hns => ?_)
  have hns : ns.length ≤ 1000 := hns
  show Sxs _ _ _ [some (kn (ns.map .int)), none, none, none, none, none, none, none, none, none, none, none] (bodyS (is (.ok (fz (.bool true)))))
  refine sxs_set 1 ((ev_tup (eva_cons ev_int (eva_cons ev_int (eva_cons ev_int (eva_cons ev_int eva_nil))))).to (e := fmD (20, 5, 1, 9)) rfl) ?_ c.nd
  have hf : fmOk (20, 5, 1, 9) = true := by decide +kernel
  refine sxs_for c (fun i ρ => ∃ (x2 x3 x4 x5 x6 x7 x8 x9 x10 : Option Slot), ρ = [some (kn (ns.map .int)), some (fz (fmD (20, 5, 1, 9))), x2, x3, x4, x5, x6, x7, x8, x9, x10, none]) (iv_list (Fr.ev (fr_slice (l := none) (u := some 31) (Bv.bw (Fr.bv (Fr.as ((ns ++ [1]).map PyData.int) (fr_catW (bw_var 0 rfl) (Bv.bw (Fr.bv (fr_lst (eva_cons ev_int eva_nil)))) (szl (by rw [List.length_map]; show _ + 1 ≤ _; omega))) (by rw [List.map_append]; rfl)))) trivial (evo ev_int)))) (tg_name 2 c.nd) ⟨none, none, none, none, none, none, none, none, none, rfl⟩ (fun i d ρ hd hP => ?_) (fun ρ hP => ?_)
  rotate_left
  · obtain ⟨x2, x3, x4, x5, x6, x7, x8, x9, x10, rfl⟩ := hP
    exact sxs_ret ev_bl rfl
  obtain ⟨x2, x3, x4, x5, x6, x7, x8, x9, x10, rfl⟩ := hP
  obtain ⟨ce, rfl⟩ : ∃ ce : Int, d = .int ce := by
    have h1 := List.mem_of_getElem? hd
    unfold PV.cutD at h1
    obtain ⟨ce, _, e⟩ := List.mem_map.mp (List.mem_of_mem_drop (List.mem_of_mem_take h1))
    exact ⟨ce, e.symm⟩
  refine ⟨⟨(fun h => nomatch h), rfl⟩, ?_⟩
  refine sxs_set 3 ((ev_call c G_mixed ce trivial (fun _ h => h) (as_cons (Ev.s (ev_var 2 rfl)) as_nil)).to (e := .int (mixN ce)) (by rw [mix_eq])) ?_ c.nd
  generalize mixN ce = N
  refine sxs_set 4 ((ev_mod (by decide) (ev_var 3 rfl) ev_int).to (e := .int ((N % 9 : Nat) : Int)) rfl) ?_ c.nd
  have hk : N % 9 < 9 := Nat.mod_lt _ (by decide)
  refine sxs_unpack (tg_tup c.calm (tgs_cons 5 c.nd (tgs_cons 6 c.nd (tgs_cons 7 c.nd tgs_nil)))) ((ev_call c G_case (N % 9, N / 9) hk (fun _ h => h) (as_cons (Ev.s (ev_var 4 rfl)) (as_cons (Ev.s ((ev_fdiv (by decide) (ev_var 3 rfl) ev_int).to (e := .int ((N / 9 : Nat) : Int)) rfl)) as_nil))).to (e := .tuple [.int ((caseOf (N % 9) (N / 9)).due : Int), .list ((caseOf (N % 9) (N / 9)).good.toList.map dOpt), dOpt (caseOf (N % 9) (N / 9)).deed]) rfl) rfl ?_
  have F1 := deed_fits hk (N / 9)
  have F2 := case_err (fmD (20, 5, 1, 9)) hk (N / 9)
  have F3 := case_good (fmD (20, 5, 1, 9)) hk (N / 9)
  obtain ⟨hso, hsn, hsl⟩ := sh_cases hk
  have F4 := case_clb hk (N / 9)
  generalize caseOf (N % 9) (N / 9) = cs at F1 F2 F3 F4
  obtain ⟨fd, fdue⟩ := F1
  show Sxs _ _ _ [some (kn (ns.map .int)), some (fz (fmD (20, 5, 1, 9))), some (fz (.int ce)), some (fz (.int N)), some (fz (.int ((N % 9 : Nat) : Int))), some (fz (.int (cs.due : Int))), some (fz (.list (cs.good.toList.map dOpt))), some (fz (dOpt cs.deed)), x8, x9, x10, none] _
  refine sxs_setS 8 (s_call c G_opened (N % 9, (20, 5, 1, 9)) ⟨hk, hf⟩ (fun _ h => h) (as_cons (Ev.s (ev_var 4 rfl)) (as_cons (Ev.s (ev_var 1 rfl)) as_nil))) ?_ c.nd
  show Sxs _ _ _ [some (kn (ns.map .int)), some (fz (fmD (20, 5, 1, 9))), some (fz (.int ce)), some (fz (.int N)), some (fz (.int ((N % 9 : Nat) : Int))), some (fz (.int (cs.due : Int))), some (fz (.list (cs.good.toList.map dOpt))), some (fz (dOpt cs.deed)), some (obj D dNs (dSs (fmD (20, 5, 1, 9)) (shO (N % 9)) (shE (N % 9)) (.list [])) none), x9, x10, none] _
  refine sxs_setE 9 (evm_meth0 8 c O G_shelf (dk0 (fmD (20, 5, 1, 9)) (N % 9)) trivial rfl rfl) (fun S ρ' hR => ?_) (fun cl ρ' hR => ?_) c.nd
  rotate_left
  · obtain ⟨outs, ⟨e1, _⟩, _⟩ := hR
    cases e1
  obtain ⟨outs, ⟨e1, e2⟩, e3⟩ := hR
  cases e1
  subst e2 e3
  have hkv : ∀ o : Own, kvO txF o = (o.map fun q => ((.inr q.1 : Key), joinN q.2)).map fun z => (z.1, .str z.2) := fun o => by
    unfold kvO
    rw [List.map_map]
    rfl
  have hnd : (((shO (N % 9)).map fun q => ((.inr q.1 : Key), joinN q.2)).map (·.1)).Nodup := by
    rw [List.map_map]
    have : ((·.1) ∘ fun q : Str × List Str => ((.inr q.1 : Key), joinN q.2)) = (fun n : Str => (.inr n : Key)) ∘ (fun q : Str × List Str => q.1) := rfl
    rw [this, ← List.map_map]
    exact List.Pairwise.map _ (fun a b h e => h (by injection e)) hsn
  show Sxs _ _ _ [some (kn (ns.map .int)), some (fz (fmD (20, 5, 1, 9))), some (fz (.int ce)), some (fz (.int N)), some (fz (.int ((N % 9 : Nat) : Int))), some (fz (.int (cs.due : Int))), some (fz (.list (cs.good.toList.map dOpt))), some (fz (dOpt cs.deed)), some (obj D dNs (dSs (fmD (20, 5, 1, 9)) (shO (N % 9)) (shE (N % 9)) (.list [])) none), some (dk (kvO txF (shO (N % 9)))), x10, none] _
  rw [hkv]
  refine sxs_ifOne (t := false) (ρ1 := [some (kn (ns.map .int)), some (fz (fmD (20, 5, 1, 9))), some (fz (.int ce)), some (fz (.int N)), some (fz (.int ((N % 9 : Nat) : Int))), some (fz (.int (cs.due : Int))), some (fz (.list (cs.good.toList.map dOpt))), some (fz (dOpt cs.deed)), some (obj D dNs (dSs (fmD (20, 5, 1, 9)) (shO (N % 9)) (shE (N % 9)) (.list [])) none), some (dk (((shO (N % 9)).map fun q => ((.inr q.1 : Key), joinN q.2)).map fun z => (z.1, .str z.2))), x10, none])
    (tstM_orOne (tstM_neSame (da := .list (kindsL (dueE cs.due))) (ρ1 := [some (kn (ns.map .int)), some (fz (fmD (20, 5, 1, 9))), some (fz (.int ce)), some (fz (.int N)), some (fz (.int ((N % 9 : Nat) : Int))), some (fz (.int (cs.due : Int))), some (fz (.list (cs.good.toList.map dOpt))), some (fz (dOpt cs.deed)), some (obj D dNs (dSs (fmD (20, 5, 1, 9)) (shO (N % 9)) (shE (N % 9)) (.list [])) none), some (dk (((shO (N % 9)).map fun q => ((.inr q.1 : Key), joinN q.2)).map fun z => (z.1, .str z.2))), x10, none]) c
      (evm_call [(8, none)] c G_refused (dk0 (fmD (20, 5, 1, 9)) (N % 9), cs.deed) ⟨by show (shE (N % 9)).length ≤ 1000; omega, hso, fd⟩ (am_mu 8 none rfl (am_ro (Ev.s (ev_var 7 rfl)) am_nil))) (fun out ρ' hR => ?_)
      ((Fr.ev (fr_cat (Fr.bv (Fr.to (fr_lc (ks := ((List.range 7).map fun k => PyData.bool (decide (k = cs.due))).map some) [("k", 11)] c (iv_range1 Bt ev_int (by decide) (by decide)) (fun s H Cc cl fp => have cb := c.blk s H Cc cl fp; tg_name 11 cb.nd) (szl (by rw [nums_length]; decide)) (by rw [nums_length]; simp) (fun i d r hd hr => ?_)) (keep_all _))) (Fr.bv (fr_lst (eva_cons ev_bl eva_nil))) (szl (by simp)))).to (by rw [due_list fdue])) (clb_shaped (kinds_clb _)) (clb_self 1 _ (kinds_clb _))) rfl
      (tstM_neDk c 9 (evm_meth0 8 c O G_shelf (dk0 (fmD (20, 5, 1, 9)) (N % 9)) trivial rfl rfl) (fun out ρ' hR => ?_) rfl hnd)) (fun h => nomatch h) (fun _ => ?_)
  · obtain ⟨outs, h, rfl⟩ := hR
    have h : refR D _ _ _ _ := h
    unfold refR at h
    simp only at h
    rw [F2] at h
    obtain ⟨rfl, rfl⟩ := h
    exact ⟨rfl, rfl⟩
  · obtain ⟨hi, rfl⟩ := nums_of hd
    have hi : i < 7 := by simpa using hi
    have hr : r = some (.bool (decide (i = cs.due))) := by
      rw [List.map_map, List.getElem?_map, List.getElem?_range hi] at hr
      exact (Option.some.inj hr).symm
    subst hr
    refine ⟨⟨(fun h => nomatch h), rfl⟩, true, rfl, (fun h => nomatch h), fun _ => ⟨_, rfl, fun s H Cc cl fp => ?_⟩⟩
    exact (ev_cm (cm_eq (ev_var 11 rfl) (ev_var 5 rfl))).to (by congr 1; rw [decide_eq_decide]; omega)
  · obtain ⟨outs, ⟨rfl, rfl⟩, rfl⟩ := hR
    exact ⟨by rw [hkv]; rfl, rfl⟩
  refine sxs_nil ?_
  refine sxs_if (t := false) ((tst_not (tst_val (ev_call c G_form (badF N ce) (badF_bad N ce) (fun _ h => h) (as_cons (Ev.s (ev_call c G_bad (N, ce) trivial (fun _ h => h) (as_cons (Ev.s (ev_var 3 rfl)) (as_cons (Ev.s (ev_var 2 rfl)) as_nil)))) as_nil)))).to rfl) (fun h => nomatch h) (fun _ => ?_)
  refine sxs_nil ?_
  cases eg : cs.good with
  | none =>
    refine sxs_for c (fun i ρ => ρ = [some (kn (ns.map .int)), some (fz (fmD (20, 5, 1, 9))), some (fz (.int ce)), some (fz (.int N)), some (fz (.int ((N % 9 : Nat) : Int))), some (fz (.int (cs.due : Int))), some (fz (.list [])), some (fz (dOpt cs.deed)), some (obj D dNs (dSs (fmD (20, 5, 1, 9)) (shO (N % 9)) (shE (N % 9)) (.list [])) none), some (dk (((shO (N % 9)).map fun q => ((.inr q.1 : Key), joinN q.2)).map fun z => (z.1, .str z.2))), x10, none]) (iv_list (ds := []) (ev_var 6 rfl)) (tg_name 10 c.nd) rfl (fun i d ρ hd hP => ?_) (fun ρ hP => ?_)
    · simp at hd
    · subst hP
      refine sxs_ifM (tstM_and2 (p := false) ((tst_cm (cm_neD c (Ev.rv (ev_var 6 rfl)) (Ev.rv (Fr.ev (fr_lst eva_nil))) (by decide) (by decide))).to rfl) (fun h => nomatch h) (R := fun _ _ => False)) (fun ρ' hR => ?_) (fun ρ' hR => ?_) (fun cl ρ' hR => ?_)
      · rcases hR with ⟨_, h, _⟩ | ⟨h, _⟩
        · cases h
        · cases h
      · rcases hR with ⟨_, _, rfl⟩ | ⟨h, _⟩
        · refine sxs_nil ?_
          exact sxs_nil ⟨_, Wk.refl _, _, _, _, _, _, _, _, _, _, rfl⟩
        · cases h
      · rcases hR with ⟨_, h, _⟩ | ⟨h, _⟩
        · cases h
        · cases h
  | some d =>
    obtain ⟨od, s1, s2, h1, h2, ho1, hl1⟩ := F3 d eg
    have hc := F4 d eg
    have dn : ∀ {s s' : DkS} {d : Option Deed} {out : Except Ec Slot} {outs : List Asl}, stepD s d = .ok s' → doneR D s d out outs → out = .ok (fz .none) ∧ outs = [dkA D s'] := fun e h => by
      unfold doneR at h
      rw [e] at h
      exact h
    refine sxs_for c (fun i ρ => (i = 0 ∧ ρ = [some (kn (ns.map .int)), some (fz (fmD (20, 5, 1, 9))), some (fz (.int ce)), some (fz (.int N)), some (fz (.int ((N % 9 : Nat) : Int))), some (fz (.int (cs.due : Int))), some (fz (.list [dOpt d])), some (fz (dOpt cs.deed)), some (obj D dNs (dSs (fmD (20, 5, 1, 9)) (shO (N % 9)) (shE (N % 9)) (.list [])) none), some (dk (((shO (N % 9)).map fun q => ((.inr q.1 : Key), joinN q.2)).map fun z => (z.1, .str z.2))), x10, none]) ∨
        (i = 1 ∧ ∃ x10, ρ = [some (kn (ns.map .int)), some (fz (fmD (20, 5, 1, 9))), some (fz (.int ce)), some (fz (.int N)), some (fz (.int ((N % 9 : Nat) : Int))), some (fz (.int (cs.due : Int))), some (fz (.list [dOpt d])), some (fz (dOpt cs.deed)), some (obj D dNs (dSs s1.frm s1.o s1.es s1.iss) none), some (dk (((shO (N % 9)).map fun q => ((.inr q.1 : Key), joinN q.2)).map fun z => (z.1, .str z.2))), x10, none])) (iv_list (ds := [dOpt d]) (ev_var 6 rfl)) (tg_name 10 c.nd) (.inl ⟨rfl, rfl⟩) (fun i d' ρ hd hP => ?_) (fun ρ hP => ?_)
    · rcases hP with ⟨rfl, rfl⟩ | ⟨rfl, _⟩
      · have hd : d' = dOpt d := by simpa using hd.symm
        subst hd
        refine ⟨⟨(fun h => nomatch h), rfl⟩, ?_⟩
        refine sxs_exprM (evm_call [(8, none)] c G_done (dk0 (fmD (20, 5, 1, 9)) (N % 9), d) ⟨by show (shE (N % 9)).length ≤ 1000; omega, hso, od⟩ (am_mu 8 none rfl (am_ro (Ev.s (ev_var 10 rfl)) am_nil))) (fun S ρ' hR => ?_) (fun cl ρ' hR => ?_)
        · obtain ⟨outs, h, rfl⟩ := hR
          obtain ⟨_, rfl⟩ := dn h1 h
          exact sxs_nil ⟨_, Wk.refl _, .inr ⟨rfl, _, rfl⟩⟩
        · obtain ⟨outs, h, rfl⟩ := hR
          cases (dn h1 h).1
      · simp at hd
    · rcases hP with ⟨h, _⟩ | ⟨_, x10, rfl⟩
      · cases h
      refine sxs_ifM (tstM_and2 (p := true) ((tst_cm (cm_neD c (Ev.rv (ev_var 6 rfl)) (Ev.rv (Fr.ev (fr_lst eva_nil))) (clb_shaped hc) (by decide))).to (by simp [PyData.eqv, PyData.eqvAll])) (fun _ => tstM_notN (evm_call [(8, none)] c G_done (s1, cs.deed) ⟨hl1, ho1, fd⟩ (am_mu 8 none rfl (am_ro (Ev.s (ev_var 7 rfl)) am_nil))) (fun S ρ' hR => by
        obtain ⟨outs, h, _⟩ := hR
        exact ⟨_, Except.ok.inj (dn h2 h).1⟩))) (fun ρ' hR => ?_) (fun ρ' hR => ?_) (fun cl ρ' hR => ?_)
      · rcases hR with ⟨h, _, _⟩ | ⟨_, dd, ⟨outs, h, _⟩, e⟩
        · cases h
        have e2 : fz dd = fz .none := Except.ok.inj (dn h2 h).1
        have e3 : dd = .none := by
          have h1 : (fz .none).R K (fun _ => none) .non [] := ⟨rfl, .non⟩
          rw [← e2] at h1
          obtain ⟨_, h1⟩ := h1
          cases h1
          rfl
        subst e3
        cases e
      · rcases hR with ⟨h, _, _⟩ | ⟨_, dd, ⟨outs, h, rfl⟩, e⟩
        · cases h
        obtain ⟨_, rfl⟩ := dn h2 h
        refine sxs_nil ?_
        exact sxs_nil ⟨_, Wk.refl _, _, _, _, _, _, _, _, _, _, rfl⟩
      · rcases hR with ⟨h, _, _⟩ | ⟨_, outs, h, _⟩
        · cases h
        · cases (dn h2 h).1
end
end Tl

/-! Where the classes of refusals stand. -/
namespace Tl
open PySem PySem.Spec PyProof.Rows L2 PV
def nmE : Ec → Str
  | .badRow => "BadRow" | .noPart => "NoPart" | .ring => "Ring" | .tooLong => "TooLong" | .badCall => "BadCall" | .deep => "Deep" | .noShort => "NoShort" | .badForm => "BadForm" | .badWord => "BadWord" | .badPaper => "BadPaper" | .noGrowth => "NoGrowth" | .twice => "Twice" | .noFoot => "NoFoot" | .noMark => "NoMark" | .noLaying => "NoLaying" | .badName => "BadName" | .noRow => "NoRow" | .nothingDone => "NothingDone"
def cA (K : PySem.W.Frag) (c : Ec) : Addr := He.ga K (nmE c)
end Tl

/-! The pure-value layer: the head by facts, over objects that are named by number. -/
namespace PV
open PySem PySem.Spec PyProof.Rows L2
def obsL (as : List Addr) (fa : List He.Fa) (fn : List He.DefD) (g : Addr → Option Obj) : He.AlD := He.obsD fa fn (He.frG g as)
def hookL (as : List Addr) (fa : List He.Fa) (fn : List He.DefD) : PySem.W.Hook where
  α := He.AlD
  obs := fun s => obsL as fa fn s.heap.get?
  val := fun _ => He.valD fn
  says := fun _ h => ∃ K : PySem.W.Frag, K.In h ∧ He.SaysD fa fn K
  of := fun _ _ e => ⟨_, He.frG_in, e⟩
  keeps := fun _ _ _ ⟨K, hK, c⟩ k => ⟨K, PySem.W.Frag.In.keeps hK k, c⟩
theorem obsL_eq {as : List Addr} {fa : List He.Fa} {fn : List He.DefD} {g : Addr → Option Obj} {s : Shared} (h : ∀ a, g a = s.heap.get? a) : obsL as fa fn g = (hookL as fa fn).obs s := by
  have e : g = s.heap.get? := funext h
  rw [e]
  rfl
end PV

/-! Where the objects stand that the head asks of. -/
namespace Tl
def asL0 : List Nat := [3, 31, 56, 80, 128, 152, 200, 212, 224, 233, 270, 291, 857, 875, 882, 889, 896, 903, 910, 917, 922, 30, 55, 79, 127, 151, 199, 211, 223, 232, 269, 290, 856, 874, 881, 888, 895, 902, 909, 916, 921, 29, 32, 54, 78, 126, 150, 198, 210, 222]
def asL1 : List Nat := [227, 228, 229, 230, 231, 264, 265, 266, 267, 268, 285, 286, 287, 288, 289, 784, 791, 798, 805, 812, 819, 826, 833, 840, 847, 854, 855, 858, 859, 869, 870, 871, 872, 873, 876, 877, 878, 879, 880, 883, 884, 885, 886, 887, 890, 891, 892, 893, 894, 897]
def asL2 : List Nat := [898, 899, 900, 901, 904, 905, 906, 907, 908, 911, 912, 913, 914, 915, 918, 919, 920, 783, 790, 797, 804, 811, 818, 825, 832, 839, 846, 853, 778, 779, 780, 781, 782, 785, 786, 787, 788, 789, 792, 793, 794, 795, 796, 799, 800, 801, 802, 803, 806, 807]
def asL3 : List Nat := [808, 809, 810, 813, 814, 815, 816, 817, 820, 821, 822, 823, 824, 827, 828, 829, 830, 831, 834, 835, 836, 837, 838, 841, 842, 843, 844, 845, 848, 849, 850, 851, 852]
def asL : List Nat := asL0 ++ asL1 ++ asL2 ++ asL3
end Tl

/-! k75: the head, and the end. -/
namespace Tl
open PySem PySem.Spec PyProof.Rows L2 PV
def exB (K : PySem.W.Frag) : Bool := hl.all fun c => excB K (cA K c) && (((Ec.badForm :: hl).all fun h => decide (PySem.W.kitOne K (.ref (cA K c)) (.ref (cA K h)) = some (decide (c = h)))) && decide (PySem.W.kitOne K (.ref (cA K c)) (.type "ValueError") = some true))
abbrev hk : PySem.W.Hook := hookX asL (bltFa ++ glos) fns exB
def ob (s : PySem.W.SharedT) : He.AlD × Bool := obsX asL (bltFa ++ glos) fns exB (HandSHeadRun.getT s)
theorem ob_eq (s : PySem.W.SharedT) : ob s = hk.obs s.abs := obsX_eq (HandSHeadRun.getT_eq s)
theorem run (w : World) : HandSHeadRun.RunEq R (PySem.W.view R.prog [lawAt]) hk ob 12000 loose w := by
  intro os
  kernel_rfl
theorem made {P : Program} {w : World} {K : PySem.W.Frag} {h : Heap} {mg : Str → Option Value} (X : K.In h) (G : h.Ns mainGlobals mg) (c : He.SaysD (bltFa ++ glos) fns K) (ex : exB K = true) (base : Heap) : CalleeP P w K mg base 7 "law" ["script"] (spLaw K (cA K) fun ns => ns.length ≤ 1000) := by
  have Bt := blt_of X G c
  have O : ClsO K (He.ga K "Desk") dNs := ⟨He.cls_ok (c.fact 29 rfl), fun f hf => by
    simp only [dNs, List.mem_cons, List.not_mem_nil, or_false] at hf
    rcases hf with rfl | rfl | rfl | rfl
    · exact He.noat_ok (c.fact 31 rfl)
    · exact He.noat_ok (c.fact 32 rfl)
    · exact He.noat_ok (c.fact 33 rfl)
    · exact He.noat_ok (c.fact 34 rfl)⟩
  have Er : Errs K mg (cA K) := ⟨exd_of X G c 44 45, exd_of X G c 46 47, exd_of X G c 48 49, exd_of X G c 50 51, exd_of X G c 52 53, exd_of X G c 54 55, exd_of X G c 56 57⟩
  have Cn : Cons mg := ⟨He.str_ok X G (c.fact 67 rfl), He.str_ok X G (c.fact 68 rfl), He.int_ok X G (c.fact 69 rfl)⟩
  have ex1 : ∀ c ∈ hl, excB K (cA K c) = true ∧ (∀ h ∈ Ec.badForm :: hl, PySem.W.kitOne K (.ref (cA K c)) (.ref (cA K h)) = some (decide (c = h))) ∧ PySem.W.kitOne K (.ref (cA K c)) (.type "ValueError") = some true := fun c hc => by
    have h := List.all_eq_true.mp ex c hc
    obtain ⟨h1, h⟩ := He.ba h
    obtain ⟨h2, h3⟩ := He.ba h
    exact ⟨h1, fun e he => of_decide_eq_true (List.all_eq_true.mp h2 e he), of_decide_eq_true h3⟩
  have Ei : ExI K mg (cA K) (He.ga K "TrueleafError") := ⟨fun e he => excB_ok (ex1 e he).1, fun e he => (ex1 e he).2.1, fun e he => (ex1 e he).2.2, fun e he => by
    simp only [hl, List.mem_cons, List.not_mem_nil, or_false] at he
    rcases he with rfl | rfl | rfl | rfl | rfl | rfl
    · exact He.exm_ok (c.fact 61 rfl)
    · exact He.exm_ok (c.fact 62 rfl)
    · exact He.exm_ok (c.fact 63 rfl)
    · exact He.exm_ok (c.fact 64 rfl)
    · exact He.exm_ok (c.fact 65 rfl)
    · exact He.exm_ok (c.fact 66 rfl), He.glo_ok X G (c.fact 58 rfl), He.free_ok X G (c.fact 59 rfl)⟩
  have g_check : C_check_form P w K mg base (cA K) := ok_check_form Er (df_of X G c 0 17)
  have g_is_name : C_is_name P w K mg base (cA K) := ok_is_name Bt Cn (df_of X G c 1 18)
  have g_rows_in : C_rows_in P w K mg base (cA K) := ok_rows_in (df_of X G c 2 19)
  have g_Desk := ok_Desk (P := P) (w := w) (base := base) O g_check (dfk_of X G c 11 30 28)
  have g_settled := ok_settled_on (P := P) (w := w) (base := base) (mg := mg) (C := cA K) O (dfm_of c 12 36)
  have g_rows_of := ok_dk_rows_of (P := P) (w := w) (base := base) O Er g_rows_in (dfm_of c 13 37)
  have g_put := ok_put_part (P := P) (w := w) (base := base) Bt O Er g_is_name g_settled (dfm_of c 14 38)
  have g_drop := ok_drop_part (P := P) (w := w) (base := base) Bt O Er g_settled (dfm_of c 15 39)
  have g_row := ok_put_row (P := P) (w := w) (base := base) Bt O Er g_rows_of g_settled (dfm_of c 16 40)
  have g_cut := ok_cut_row (P := P) (w := w) (base := base) Bt O Er g_rows_of g_settled (dfm_of c 17 41)
  have g_undo := ok_undo (P := P) (w := w) (base := base) O Er (dfm_of c 18 42)
  have g_shelf := ok_shelf (P := P) (w := w) (base := base) (C := cA K) Bt O (dfm_of c 19 43)
  have g_mixed : C_mixed P w K mg base (cA K) := ok_mixed (df_of X G c 3 20)
  have g_done := ok_done (P := P) (w := w) (base := base) O g_put g_drop g_row g_cut g_undo (df_of X G c 4 21)
  have g_refused := ok_refused (P := P) (w := w) (base := base) Bt Er Ei g_done (df_of X G c 5 22)
  have g_case : C_case P w K mg base (cA K) := ok_case Bt (df_of X G c 6 23)
  have g_opened := ok_opened (P := P) (w := w) (base := base) Bt O g_Desk g_put (df_of X G c 7 24)
  have g_form := ok_form_refused (P := P) (w := w) (base := base) Er (He.exm_ok (c.fact 60 rfl)) g_Desk (df_of X G c 8 25)
  have g_bad : C_bad_form P w K mg base (cA K) := ok_bad_form Bt (df_of X G c 9 26)
  exact ok_law Bt O g_mixed g_case g_opened g_shelf g_refused g_form g_bad g_done (df_of X G c 10 27)
end Tl
open PySem PySem.W PyProof.Rows PySem.Calls
theorem PySem.Challenge.cw_trueleaf_k75_refused_once_holds : PySem.Challenge.rw_trueleaf_k75_refused_once.Holds := by
  w_on; o_law
  refine HandSHeadRun.head_any (r := Tl.R) (q := view Tl.R.prog [Tl.lawAt]) (H := Tl.hk) (ob := Tl.ob) (M := 12000) (loose := Tl.loose) (d := HandSHeadRun.topDef Tl.R.prog Tl.lawAt) (kwd := []) Tl.ob_eq (by kernel_rfl) (fun s => by kernel_rfl) Tl.run (by kernel_rfl) (by kernel_rfl) (by kernel_rfl) (by rfl)
    (by first | assumption | decide +kernel) (by decide +kernel) ⟨rfl, rfl, rfl, rfl, rfl, by decide +kernel⟩ ?hw ?hc
  case hw => w_witness2
  case hc =>
    refine PV.law_end (most := 63) (k := 7) (pre := fun ns => ns.length ≤ 1000) rfl (by decide) (by kernel_rfl) ⟨rfl, by decide, by decide⟩ (by kernel_rfl) (fun ns h => Nat.le_trans h (by decide)) fun w mg h Y G => ?_
    obtain ⟨K, KX, c, ex⟩ := Y
    exact ⟨K, Tl.cA K, KX, fun base => Tl.made KX G c ex base⟩
