import PyProof.Rows.All
import Wide.All
import OpenK.AllK
import Wide.FinOn
import HandS.ForMost
import HandS.ForExc
import HandS.Wide
import HandS.IsInst
import HandS.Conv
import HandS.Defaults
import HandS.HeadHook2
import HandS.More
import HandS.Head0
import HandS.Head1
import HandS.Head2
import HandS.HeadEnd
import HandS.HeadHook1
import PySem.Challenge.RW_firstgoers_k37_rounds_of_many
set_option Elab.async false
set_option linter.all false
set_option maxRecDepth 100000
set_option maxHeartbeats 4000000
namespace G
open PySem PySem.Spec PyProof.Rows L2

/-! ### the weakest readings -/
def wE (X : Cx) (e : Expr) : TE := fun σ H Q => ∀ pins s, Inv X pins σ H s → wpAny (model X.prog X.w) X.A (eval e X.env) (EP X pins σ Q) X.xe s
def wT (X : Cx) (e : Expr) : TT := fun σ H Q => ∀ pins s, Inv X pins σ H s → wpAny (model X.prog X.w) X.A (isTrue e X.env (eval e X.env)) (TP X pins σ Q) X.xe s
def wA (X : Cx) (es : List Expr) : TA := fun σ H Q => ∀ pos pins s, Inv X pins σ H s → wpAny (model X.prog X.w) X.A (spliced (backTo pos (starEach es X.env))) (AP X pins σ Q) X.xe s
def wS (X : Cx) (st : List Stmt) : TS := fun D σ H => ∀ pins s, Inv X pins σ H s → wpAny (model X.prog X.w) X.A (execs st X.env) (SP X pins D) X.xe s
def wS1 (X : Cx) (st : Stmt) : TS := fun D σ H => ∀ pins s, Inv X pins σ H s → wpAny (model X.prog X.w) X.A (exec st X.env) (SP X pins D) X.xe s
def wI (X : Cx) (tg e : Expr) : TI := fun σ H R => ∀ pins s, Inv X pins σ H s → wpAny (model X.prog X.w) X.A (eval e X.env) (fun v s1 => wpAny (model X.prog X.w) X.A (pyIter v) (PIE X pins σ tg R) X.xe s1) X.xe s
section
variable {X : Cx} {e tg : Expr} {es : List Expr} {st : List Stmt} {s1 : Stmt} {σ : L2.St} {H : Hp}
theorem pE : PE X e (wE X e) := ⟨fun pins s _ _ _ I h => h pins s I⟩
theorem pT : PT X e (wT X e) := ⟨fun pins s _ _ _ I h => h pins s I⟩
theorem pA : PA X es (wA X es) := ⟨fun pos pins s _ _ _ I h => h pos pins s I⟩
theorem pS : PSs X st (wS X st) := ⟨fun pins s _ _ _ I h => h pins s I⟩
theorem pS1 : PS X s1 (wS1 X s1) := ⟨fun pins s _ _ _ I h => h pins s I⟩
theorem pI : PI X tg e (wI X tg e) := ⟨fun pins s _ _ _ I h => h pins s I⟩
theorem wE.of {t : TE} {Q : VK} (h : PE X e t) (q : t σ H Q) : wE X e σ H Q := fun pins s I => h.run pins s σ H Q I q
theorem wT.of {t : TT} {Q} (h : PT X e t) (q : t σ H Q) : wT X e σ H Q := fun pins s I => h.run pins s σ H Q I q
theorem wA.of {t : TA} {Q} (h : PA X es t) (q : t σ H Q) : wA X es σ H Q := fun pos pins s I => h.run pos pins s σ H Q I q
theorem wS.of {t : TS} {D : Ends} (h : PSs X st t) (q : t D σ H) : wS X st D σ H := fun pins s I => h.run pins s σ H D I q
theorem wS1.of {t : TS} {D : Ends} (h : PS X s1 t) (q : t D σ H) : wS1 X s1 D σ H := fun pins s I => h.run pins s σ H D I q
theorem wI.of {t : TI} {R} (h : PI X tg e t) (q : t σ H R) : wI X tg e σ H R := fun pins s I => h.run pins s σ H R I q
end

/-! ### what a value stands for -/
class Rp (α : Type) where
  rp : PySem.W.Frag → Hp → V → α → Prop
  mono : ∀ {K : PySem.W.Frag} {F F' : Hp} {v : V} {x : α}, Same F F' → rp K F v x → rp K F' v x
open Rp (rp)
instance : Rp Int := ⟨fun _ _ v x => v = .int x, fun _ h => h⟩
instance : Rp Bool := ⟨fun _ _ v x => v = .bl x, fun _ h => h⟩
instance : Rp Str := ⟨fun _ _ v x => v = .str x, fun _ h => h⟩
instance : Rp Unit := ⟨fun _ _ v _ => v = .non, fun _ h => h⟩
instance : Rp V := ⟨fun _ _ v x => v = x, fun _ h => h⟩
abbrev RpL {α : Type} [Rp α] (K : PySem.W.Frag) (F : Hp) (vs : List V) (xs : List α) : Prop := Paired (rp K F) vs xs
theorem RpL.mono {α : Type} [Rp α] {K : PySem.W.Frag} {F F' : Hp} {vs : List V} {xs : List α} (h : Same F F') (r : RpL K F vs xs) : RpL K F' vs xs := Paired.mapP r fun _ _ => Rp.mono h
theorem Same.sqt {K : PySem.W.Frag} {H H' : Hp} {a : Addr} {xs : List V} (e : Same H H') (h : SqT K H a xs) : SqT K H' a xs := by
  rcases h with (h | ⟨o, h⟩) | h
  · exact .inl (.inl (e _ _ h))
  · exact .inl (.inr ⟨o, e _ _ h⟩)
  · exact .inr h
instance {α : Type} [Rp α] : Rp (List α) := ⟨fun K F v xs => ∃ a vs, v = .ref a ∧ F a = some (.lst vs) ∧ RpL K F vs xs, fun h ⟨a, vs, e, s, r⟩ => ⟨a, vs, e, h a _ s, r.mono h⟩⟩
/-- a list that may be another's (the script) -/
structure Scr (α : Type) where
  l : List α
instance {α : Type} [Rp α] : Rp (Scr α) := ⟨fun K F v xs => ∃ a vs, v = .ref a ∧ SqL K F a vs ∧ RpL K F vs xs.l, fun h ⟨a, vs, e, s, r⟩ => ⟨a, vs, e, h.seq s, r.mono h⟩⟩
instance {α : Type} [Rp α] : Rp (Option α) := ⟨fun K F v x => match x with | none => v = .non | some y => rp K F v y, fun {K F F' v x} h r => by
  cases x with
  | none => exact r
  | some y => exact Rp.mono (α := α) (x := y) h r⟩
instance {α β : Type} [Rp α] [Rp β] : Rp (α × β) := ⟨fun K F v x => ∃ a v1 v2, v = .ref a ∧ F a = some (.tup [v1, v2]) ∧ rp K F v1 x.1 ∧ rp K F v2 x.2, fun h ⟨a, v1, v2, e, s, r1, r2⟩ => ⟨a, v1, v2, e, h a _ s, Rp.mono h r1, Rp.mono h r2⟩⟩
instance {α β : Type} [Rp α] [Rp β] : Rp (α ⊕ β) := ⟨fun K F v x => match x with | .inl y => rp K F v y | .inr y => rp K F v y, fun {K F F' v x} h r => by
  cases x with
  | inl y => exact Rp.mono (α := α) (x := y) h r
  | inr y => exact Rp.mono (α := β) (x := y) h r⟩
structure T3 (α β γ : Type) where
  a : α
  b : β
  c : γ
  deriving DecidableEq
structure T4 (α β γ δ : Type) where
  a : α
  b : β
  c : γ
  d : δ
  deriving DecidableEq
structure Tup (α : Type) where
  l : List α
  deriving DecidableEq
instance {α β γ : Type} [Rp α] [Rp β] [Rp γ] : Rp (T3 α β γ) := ⟨fun K F v x => ∃ a v1 v2 v3, v = .ref a ∧ F a = some (.tup [v1, v2, v3]) ∧ rp K F v1 x.a ∧ rp K F v2 x.b ∧ rp K F v3 x.c,
  fun h ⟨a, v1, v2, v3, e, s, r1, r2, r3⟩ => ⟨a, v1, v2, v3, e, h a _ s, Rp.mono h r1, Rp.mono h r2, Rp.mono h r3⟩⟩
instance {α β γ δ : Type} [Rp α] [Rp β] [Rp γ] [Rp δ] : Rp (T4 α β γ δ) := ⟨fun K F v x => ∃ a v1 v2 v3 v4, v = .ref a ∧ F a = some (.tup [v1, v2, v3, v4]) ∧ rp K F v1 x.a ∧ rp K F v2 x.b ∧ rp K F v3 x.c ∧ rp K F v4 x.d,
  fun h ⟨a, v1, v2, v3, v4, e, s, r1, r2, r3, r4⟩ => ⟨a, v1, v2, v3, v4, e, h a _ s, Rp.mono h r1, Rp.mono h r2, Rp.mono h r3, Rp.mono h r4⟩⟩
instance {α : Type} [Rp α] : Rp (Tup α) := ⟨fun K F v x => ∃ a vs, v = .ref a ∧ F a = some (.tup vs) ∧ RpL K F vs x.l, fun h ⟨a, vs, e, s, r⟩ => ⟨a, vs, e, h a _ s, r.mono h⟩⟩

/-! ### entries, environments, steps -/
inductive Ent : Type 1
  | no
  | is {α : Type} [Rp α] (x : α)
  | own {α : Type} [Rp α] (a : Addr) (xs : List α)
def Ent.adr : Ent → Option Addr
  | @Ent.own _ _ a _ => some a
  | _ => none
def Ent.ok (K : PySem.W.Frag) (F H : Hp) (o : Option V) : Ent → Prop
  | .no => True
  | @Ent.is _ _ x => ∃ v, o = some v ∧ rp K F v x
  | @Ent.own _ _ a xs => o = some (.ref a) ∧ F a = none ∧ ∃ vs, H a = some (.lst vs) ∧ RpL K F vs xs
abbrev DE := List Ent
def Own (Γ : DE) (a : Addr) : Prop := ∃ i : Nat, (Γ[i]?.bind Ent.adr) = some a
structure Env (K : PySem.W.Frag) (Γ : DE) (σ : L2.St) (F H : Hp) : Prop where
  le : Same F H
  len : σ.length = Γ.length
  ent : ∀ (i : Nat) (e : Ent), Γ[i]? = some e → ∃ o, σ[i]? = some o ∧ e.ok K F H o
  sep : ∀ (i j : Nat) (a : Addr), (Γ[i]?.bind Ent.adr) = some a → (Γ[j]?.bind Ent.adr) = some a → i = j
structure Step (O : Addr → Prop) (F H F' H' : Hp) : Prop where
  up : Same F F'
  keep : ∀ p o, H p = some o → ¬ O p → H' p = some o
  there : ∀ p, H' p = none → H p = none
  fresh : ∀ p, F p = none → F' p ≠ none → H p = none ∨ O p
theorem Step.refl {O : Addr → Prop} {F H : Hp} : Step O F H F H := ⟨Same.refl _, fun _ _ h _ => h, fun _ h => h, fun _ h h' => absurd h h'⟩
theorem Step.trans {O O1 : Addr → Prop} {F H F1 H1 F2 H2 : Hp} (a : Step O F H F1 H1) (b : Step O1 F1 H1 F2 H2) (n : ∀ p, O1 p → O p ∨ H p = none) : Step O F H F2 H2 := by
  refine ⟨a.up.trans b.up, fun p o h no => b.keep p o (a.keep p o h no) fun z => ?_, fun p h => a.there p (b.there p h), fun p h h' => ?_⟩
  · rcases n p z with z | z
    · exact no z
    · rw [h] at z; cases z
  · by_cases q : F1 p = none
    · rcases b.fresh p q h' with z | z
      · exact .inl (a.there p z)
      · rcases n p z with z | z
        · exact .inr z
        · exact .inl z
    · exact a.fresh p h q
theorem Own.some {Γ : DE} {a : Addr} (h : Own Γ a) {K : PySem.W.Frag} {σ : L2.St} {F H : Hp} (E : Env K Γ σ F H) : H a ≠ none := by
  obtain ⟨i, h⟩ := h
  cases q : Γ[i]? with
  | none => rw [q] at h; cases h
  | some e =>
    rw [q] at h
    obtain ⟨o, _, r⟩ := E.ent i e q
    cases e with
    | no => cases h
    | is x => cases h
    | own b xs =>
      cases h
      obtain ⟨_, _, vs, r, _⟩ := r
      rw [r]; exact fun z => nomatch z

/-! ### modes of handing back -/
structure Md where
  β : Type
  ok : PySem.W.Frag → Hp → Hp → Hp → Hp → V → β → Prop
  pre : ∀ {K : PySem.W.Frag} {F H F1 H1 F2 H2 : Hp} {v : V} {x : β}, (∀ p, H1 p = none → H p = none) → ok K F1 H1 F2 H2 v x → ok K F H F2 H2 v x
@[reducible] def sh (α : Type) [Rp α] : Md := ⟨α, fun K _ _ F' _ v x => rp K F' v x, fun _ h => h⟩
/-- a new list -/
@[reducible] def nw (α : Type) [Rp α] : Md := ⟨List α, fun K _ H F' H' v xs => ∃ p vs, v = .ref p ∧ H p = none ∧ F' p = none ∧ H' p = some (.lst vs) ∧ RpL K F' vs xs, fun n ⟨p, vs, a, b, c⟩ => ⟨p, vs, a, n p b, c⟩⟩
/-- a list that is read at once -/
@[reducible] def br (α : Type) [Rp α] : Md := ⟨List α, fun K _ _ F' H' v xs => ∃ p vs, v = .ref p ∧ SqL K H' p vs ∧ RpL K F' vs xs, fun _ h => h⟩

structure PX (X : Cx) (m : Md) (Γ : DE) (e : Expr) (x : m.β) (Γ' : DE) : Prop where
  sub : ∀ a, Own Γ' a → Own Γ a
  run : ∀ σ F H (Q : VK), Env X.K Γ σ F H → (∀ v F' H', Env X.K Γ' σ F' H' → Step (Own Γ) F H F' H' → m.ok X.K F H F' H' v x → Q v H') → wE X e σ H Q
structure TX (X : Cx) (Γ : DE) (e : Expr) (b : Bool) (Γ' : DE) : Prop where
  sub : ∀ a, Own Γ' a → Own Γ a
  run : ∀ σ F H (Q : Bool → Hp → Prop), Env X.K Γ σ F H → (∀ F' H', Env X.K Γ' σ F' H' → Step (Own Γ) F H F' H' → Q b H') → wT X e σ H Q

section
variable {X : Cx} {Γ Γ1 Γ2 Γ3 : DE} {e e1 e2 a b c : Expr} {pos : Pos}
theorem sub_refl : ∀ a, Own Γ a → Own Γ a := fun _ h => h
theorem Step.sub {O1 O : Addr → Prop} {F H F1 H1 F2 H2 : Hp} (a : Step O F H F1 H1) (b : Step O1 F1 H1 F2 H2) (n : ∀ p, O1 p → O p) : Step O F H F2 H2 := a.trans b fun p z => .inl (n p z)

/-- a value that needs no heap and changes none -/
theorem px_of {m : Md} {x : m.β} (h : ∀ σ F H (Q : VK), Env X.K Γ σ F H → (∀ v, m.ok X.K F H F H v x → Q v H) → wE X e σ H Q) : PX X m Γ e x Γ :=
  ⟨sub_refl, fun σ F H Q E q => h σ F H Q E fun v r => q v F H E Step.refl r⟩
theorem px_int {n : Int} {j} : PX X (sh Int) Γ (.Constant (.int n) j pos) n Γ := px_of fun _ _ _ _ _ q => wE.of pe_int (q _ rfl)
theorem px_bl {n : Bool} {j} : PX X (sh Bool) Γ (.Constant (.bool n) j pos) n Γ := px_of fun _ _ _ _ _ q => wE.of pe_bl (q _ rfl)
theorem px_str {n : Str} {j} : PX X (sh Str) Γ (.Constant (.str n) j pos) n Γ := px_of fun _ _ _ _ _ q => wE.of pe_str (q _ rfl)
theorem px_non {j} : PX X (sh Unit) Γ (.Constant .none j pos) () Γ := px_of fun _ _ _ _ _ q => wE.of pe_non (q _ rfl)
theorem px_none {α : Type} [Rp α] {j} : PX X (sh (Option α)) Γ (.Constant .none j pos) none Γ := px_of fun _ _ _ _ _ q => wE.of pe_non (q _ rfl)
theorem px_some {α : Type} [Rp α] {x : α} (h : PX X (sh α) Γ e x Γ1) : PX X (sh (Option α)) Γ e (some x) Γ1 := ⟨h.sub, fun σ F H Q E q => h.run σ F H Q E fun v F' H' E' s r => q v F' H' E' s r⟩
theorem px_inl {α β : Type} [Rp α] [Rp β] {x : α} (h : PX X (sh α) Γ e x Γ1) : PX X (sh (α ⊕ β)) Γ e (.inl x) Γ1 := ⟨h.sub, fun σ F H Q E q => h.run σ F H Q E fun v F' H' E' s r => q v F' H' E' s r⟩
theorem px_inr {α β : Type} [Rp α] [Rp β] {x : β} (h : PX X (sh β) Γ e x Γ1) : PX X (sh (α ⊕ β)) Γ e (.inr x) Γ1 := ⟨h.sub, fun σ F H Q E q => h.run σ F H Q E fun v F' H' E' s r => q v F' H' E' s r⟩
/-- a module's constant -/
theorem px_glob {α : Type} [Rp α] {x : α} {nm : Str} {v : V} {u : Value} (hg : Gl X nm) (hm : X.mg nm = some u) (r : RelV v u) (hr : ∀ F, rp X.K F v x) (hd : (nm == ("__debug__" : Str)) = false := by decide) : PX X (sh α) Γ (.Name nm pos) x Γ :=
  px_of fun _ F _ _ _ q => wE.of (pe_glob hg hm r hd) (q _ (hr F))
/-- a name's slot -/
theorem px_var {α : Type} [Rp α] {x : α} {nm : Str} (i : Nat) (h : Γ[i]? = some (.is x) := by rfl) (hN : X.N[i]? = some nm := by rfl) (hv : Vis X.env.scope nm := by first | exact Or.inl rfl | exact Or.inr (Or.inl rfl) | exact Or.inr (Or.inr rfl))
    (hd : (nm == ("__debug__" : Str)) = false := by decide) (hcd : (nm == ("__classdict__" : Str)) = false := by decide) : PX X (sh α) Γ (.Name nm pos) x Γ :=
  px_of fun σ F H Q E q => by
    obtain ⟨o, ho, v, rfl, r⟩ := E.ent i _ h
    exact wE.of (pe_var hN hv hd hcd) ⟨v, ho, q v r⟩
/-- a name that holds a list of one's own, read at once -/
theorem px_ownB {α : Type} [Rp α] {ad : Addr} {xs : List α} {nm : Str} (i : Nat) (h : Γ[i]? = some (.own ad xs) := by rfl) (hN : X.N[i]? = some nm := by rfl) (hv : Vis X.env.scope nm := by first | exact Or.inl rfl | exact Or.inr (Or.inl rfl) | exact Or.inr (Or.inr rfl))
    (hd : (nm == ("__debug__" : Str)) = false := by decide) (hcd : (nm == ("__classdict__" : Str)) = false := by decide) : PX X (br α) Γ (.Name nm pos) xs Γ :=
  px_of fun σ F H Q E q => by
    obtain ⟨o, ho, rfl, hf, vs, hl, r⟩ := E.ent i _ h
    exact wE.of (pe_var hN hv hd hcd) ⟨_, ho, q _ ⟨ad, vs, rfl, .inl (.inl hl), r⟩⟩
theorem PX.br {α : Type} [Rp α] {xs : List α} (h : PX X (sh (List α)) Γ e xs Γ1) : PX X (br α) Γ e xs Γ1 :=
  ⟨h.sub, fun σ F H Q E q => h.run σ F H Q E fun v F' H' E' s ⟨a, vs, e, t, r⟩ => q v F' H' E' s ⟨a, vs, e, .inl (.inl (E'.le a _ t)), r⟩⟩
theorem PX.nb {α : Type} [Rp α] {xs : List α} (h : PX X (nw α) Γ e xs Γ1) : PX X (G.br α) Γ e xs Γ1 :=
  ⟨h.sub, fun σ F H Q E q => h.run σ F H Q E fun v F' H' E' s ⟨p, vs, e, _, _, t, r⟩ => q v F' H' E' s ⟨p, vs, e, .inl (.inl t), r⟩⟩

/-! ### freezing -/
theorem same_upd {F : Hp} {p : Addr} {o : HO} (h : F p = none) : Same F (upd F p o) := fun b x e => by
  rw [upd_ne (ne_of_none e h)]
  exact e
theorem Env.freeze {K : PySem.W.Frag} {σ : L2.St} {F H : Hp} {p : Addr} {o : HO} (E : Env K Γ σ F H) (hp : H p = some o) (hF : F p = none) (hn : ¬ Own Γ p) : Env K Γ σ (upd F p o) H := by
  have s := same_upd (o := o) hF
  refine ⟨fun b x e => ?_, E.len, fun i e h => ?_, E.sep⟩
  · by_cases z : b = p
    · subst z; rw [upd_same] at e; cases e; exact hp
    · rw [upd_ne z] at e; exact E.le _ _ e
  · obtain ⟨w, ho, r⟩ := E.ent i e h
    refine ⟨w, ho, ?_⟩
    cases e with
    | no => trivial
    | is x => obtain ⟨v, e, r⟩ := r; exact ⟨v, e, Rp.mono s r⟩
    | own b xs =>
      obtain ⟨e1, e2, vs, e3, r⟩ := r
      refine ⟨e1, ?_, vs, e3, r.mono s⟩
      rw [upd_ne (fun z => hn ⟨i, by rw [h]; exact congrArg some z⟩)]
      exact e2
theorem px_frz {α : Type} [Rp α] {xs : List α} (h : PX X (nw α) Γ e xs Γ1) : PX X (sh (List α)) Γ e xs Γ1 := by
  refine ⟨h.sub, fun σ F H Q E q => h.run σ F H Q E fun v F' H' E' s ⟨p, vs, e, hn, hf, t, r⟩ => ?_⟩
  have no : ¬ Own Γ1 p := fun z => by
    have := Own.some (h.sub _ z) E
    exact this hn
  have sm := same_upd (o := .lst vs) hf
  refine q v (upd F' p (.lst vs)) H' (E'.freeze t hf no) ⟨s.up.trans sm, s.keep, s.there, fun b h1 h2 => ?_⟩ ⟨p, vs, e, upd_same, r.mono sm⟩
  by_cases z : b = p
  · subst z; exact .inl hn
  · rw [upd_ne z] at h2; exact s.fresh b h1 h2
end
end G
namespace G
open PySem PySem.Spec PyProof.Rows L2
open Rp (rp)
section
variable {X : Cx} {Γ Γ1 Γ2 Γ3 : DE} {e a b c : Expr} {pos : Pos}
/-! ### a new object, not frozen -/
theorem Env.free {K : PySem.W.Frag} {σ : L2.St} {F H : Hp} {p : Addr} (E : Env K Γ σ F H) (hp : H p = none) : F p = none := Same.free E.le hp
theorem Env.grow {K : PySem.W.Frag} {σ : L2.St} {F H H' : Hp} (E : Env K Γ σ F H) (h : Same H H') : Env K Γ σ F H' := by
  refine ⟨E.le.trans h, E.len, fun i e g => ?_, E.sep⟩
  obtain ⟨w, ho, r⟩ := E.ent i e g
  refine ⟨w, ho, ?_⟩
  cases e with
  | no => trivial
  | is x => exact r
  | own b xs => obtain ⟨e1, e2, vs, e3, r⟩ := r; exact ⟨e1, e2, vs, h _ _ e3, r⟩
theorem Env.new {K : PySem.W.Frag} {σ : L2.St} {F H : Hp} {p : Addr} {o : HO} (E : Env K Γ σ F H) (hp : H p = none) : Env K Γ σ F (upd H p o) := E.grow (same_upd hp)
theorem Step.new {O : Addr → Prop} {F H : Hp} {p : Addr} {o : HO} (hp : H p = none) : Step O F H F (upd H p o) :=
  ⟨Same.refl _, fun b x e _ => same_upd hp b x e, fun b e => by
    by_cases z : b = p
    · rw [z, upd_same] at e; cases e
    · rw [upd_ne z] at e; exact e, fun b h h' => absurd h h'⟩
theorem pair_append {α β : Type} {R : α → β → Prop} : ∀ {l1 : List α} {l2 : List β} {m1 : List α} {m2 : List β}, Paired R l1 l2 → Paired R m1 m2 → Paired R (l1 ++ m1) (l2 ++ m2)
  | _, _, _, _, .nil, s => s
  | _, _, _, _, .cons r t, s => .cons r (pair_append t s)
/-! ### two operands -/
theorem px_two {m1 : Md} {α : Type} [Rp α] {m : Md} {x : α} {y : m1.β} {z : m.β} {r : R2} (ha : PX X (sh α) Γ a x Γ1) (hb : PX X m1 Γ1 b y Γ2) (hpe : PE X e (tOp r (wE X a) (wE X b)))
    (hr : ∀ σ F0 H0 F H v w (Q : VK), Env X.K Γ2 σ F H → rp X.K F v x → m1.ok X.K F0 H0 F H w y → (∀ u F' H', Env X.K Γ2 σ F' H' → Step (Own Γ2) F H F' H' → m.ok X.K F H F' H' u z → Q u H') → r v w H Q) : PX X m Γ e z Γ2 := by
  refine ⟨fun p h => ha.sub p (hb.sub p h), fun σ F H Q E q => wE.of hpe ?_⟩
  refine ha.run σ F H _ E fun v F1 H1 E1 s1 r1 => hb.run σ F1 H1 _ E1 fun w F2 H2 E2 s2 r2 => ?_
  refine hr σ F1 H1 F2 H2 v w Q E2 (Rp.mono s2.up r1) r2 fun u F3 H3 E3 s3 r3 => q u F3 H3 E3 ?_ ?_
  · exact s1.sub (s2.sub s3 fun p h => hb.sub p h) fun p h => ha.sub p h
  · exact m.pre (fun p h => s1.there p (s2.there p h)) r3
/-- a scalar comes out -/
theorem px_sc {m1 : Md} {α : Type} [Rp α] {m : Md} {x : α} {y : m1.β} {z : m.β} {r : R2} (ha : PX X (sh α) Γ a x Γ1) (hb : PX X m1 Γ1 b y Γ2) (hpe : PE X e (tOp r (wE X a) (wE X b)))
    (hr : ∀ F0 H0 F H v w (Q : VK), Same F H → rp X.K F v x → m1.ok X.K F0 H0 F H w y → (∀ u, m.ok X.K F H F H u z → Q u H) → r v w H Q) : PX X m Γ e z Γ2 :=
  px_two ha hb hpe fun σ F0 H0 F H v w Q E rv rw q => hr F0 H0 F H v w Q E.le rv rw fun u k => q u F H E Step.refl k
theorem px_i2 {op : Operator} {C : Int → Int → Prop} {g : Int → Int → Int} {x y : Int} (ho : OpR X (binaryOp op) (rI C fun i j => .int (g i j))) (ha : PX X (sh Int) Γ a x Γ1) (hb : PX X (sh Int) Γ1 b y Γ2) (hc : C x y) : PX X (sh Int) Γ (.BinOp a op b pos) (g x y) Γ2 :=
  px_sc ha hb (pe_op ho pE pE) fun _ _ _ _ _ _ _ _ hv hw q => ⟨x, y, hv, hw, hc, q _ rfl⟩
theorem px_i20 {op : Operator} {g : Int → Int → Int} {x y : Int} (ho : OpR X (binaryOp op) (rI0 fun i j => .int (g i j))) (ha : PX X (sh Int) Γ a x Γ1) (hb : PX X (sh Int) Γ1 b y Γ2) : PX X (sh Int) Γ (.BinOp a op b pos) (g x y) Γ2 :=
  px_sc ha hb (pe_op ho pE pE) fun _ _ _ _ _ _ _ _ hv hw q => ⟨x, y, hv, hw, q _ rfl⟩
theorem px_add {x y : Int} (ha : PX X (sh Int) Γ a x Γ1) (hb : PX X (sh Int) Γ1 b y Γ2) : PX X (sh Int) Γ (.BinOp a .Add b pos) (x + y) Γ2 := px_i20 op_add ha hb
theorem px_sub {x y : Int} (ha : PX X (sh Int) Γ a x Γ1) (hb : PX X (sh Int) Γ1 b y Γ2) : PX X (sh Int) Γ (.BinOp a .Sub b pos) (x - y) Γ2 := px_i20 op_sub ha hb
theorem px_mulL {x y : Int} (ha : PX X (sh Int) Γ a x Γ1) (hb : PX X (sh Int) Γ1 b y Γ2) (h : -(2 ^ 64) < x ∧ x < 2 ^ 64) : PX X (sh Int) Γ (.BinOp a .Mult b pos) (x * y) Γ2 := px_i2 op_mul ha hb (.inl h)
theorem px_mulR {x y : Int} (ha : PX X (sh Int) Γ a x Γ1) (hb : PX X (sh Int) Γ1 b y Γ2) (h : -(2 ^ 64) < y ∧ y < 2 ^ 64) : PX X (sh Int) Γ (.BinOp a .Mult b pos) (x * y) Γ2 := px_i2 op_mul ha hb (.inr h)
theorem px_mulW {x y : Int} (ha : PX X (sh Int) Γ a x Γ1) (hb : PX X (sh Int) Γ1 b y Γ2) (h : CMulW x y) : PX X (sh Int) Γ (.BinOp a .Mult b pos) (x * y) Γ2 := px_i2 op_mulW ha hb h
theorem px_div {x y : Int} (ha : PX X (sh Int) Γ a x Γ1) (hb : PX X (sh Int) Γ1 b y Γ2) (h : CDivW x y) : PX X (sh Int) Γ (.BinOp a .FloorDiv b pos) (x / y) Γ2 := px_i2 op_fdivW ha hb h
theorem px_mod {x y : Int} (ha : PX X (sh Int) Γ a x Γ1) (hb : PX X (sh Int) Γ1 b y Γ2) (h : 0 < y) : PX X (sh Int) Γ (.BinOp a .Mod b pos) (x % y) Γ2 := px_i2 op_mod ha hb h
theorem px_pow {x y : Int} (ha : PX X (sh Int) Γ a x Γ1) (hb : PX X (sh Int) Γ1 b y Γ2) (h : CPow x y) : PX X (sh Int) Γ (.BinOp a .Pow b pos) (x ^ y.toNat) Γ2 := px_i2 op_pow ha hb h
theorem px_neg {x : Int} (ha : PX X (sh Int) Γ a x Γ1) : PX X (sh Int) Γ (.UnaryOp .USub a pos) (-x) Γ1 :=
  ⟨ha.sub, fun σ F H Q E q => wE.of (pe_un un_neg pE) (ha.run σ F H _ E fun v F' H' E' s rv => ⟨x, rv, q _ F' H' E' s rfl⟩)⟩
theorem px_cadd {x y : Str} (ha : PX X (sh Str) Γ a x Γ1) (hb : PX X (sh Str) Γ1 b y Γ2) (h : x.length + y.length ≤ sizeLine) : PX X (sh Str) Γ (.BinOp a .Add b pos) (x ++ y) Γ2 :=
  px_sc ha hb (pe_op op_add_str pE pE) fun _ _ _ _ _ _ _ _ hv hw q => ⟨x, y, hv, hw, h, q _ rfl⟩
/-- lists put together: a new one -/
theorem px_cat {α : Type} [Rp α] {xs ys : List α} (ha : PX X (sh (List α)) Γ a xs Γ1) (hb : PX X (sh (List α)) Γ1 b ys Γ2) (h : xs.length + ys.length ≤ sizeLine) : PX X (nw α) Γ (.BinOp a .Add b pos) (xs ++ ys) Γ2 := by
  refine px_two ha hb (pe_op op_cat pE pE) fun σ F0 H0 F H v w Q E ⟨l, vs, ev, tv, rv⟩ ⟨k, ws, ew, tw, rw'⟩ q => ?_
  have n1 : vs.length = xs.length := rv.length
  have n2 : ws.length = ys.length := rw'.length
  refine ⟨l, k, vs, ws, ev, ew, E.le _ _ tv, E.le _ _ tw, by omega, fun p hp => ?_⟩
  exact q _ F _ (E.new hp) (Step.new hp) ⟨p, _, rfl, hp, E.free hp, upd_same, pair_append rv rw'⟩

/-! ### comparisons -/
def CR (X : Cx) (op : CmpOp) {α : Type} [Rp α] (x : α) (m : Md) (y : m.β) (z : Bool) : Prop :=
  ∃ r : R2, OpR X (compareOp op) r ∧ ∀ F0 H0 F H v w (Q : VK), Same F H → rp X.K F v x → m.ok X.K F0 H0 F H w y → Q (.bl z) H → r v w H Q
theorem px_cmp {op : CmpOp} {α : Type} [Rp α] {x : α} {m : Md} {y : m.β} {z : Bool} (hc : CR X op x m y z) (ha : PX X (sh α) Γ a x Γ1) (hb : PX X m Γ1 b y Γ2) (hm : behindInMarks op b = false := by first | exact nomark _ | rfl | with_unfolding_all rfl) :
    PX X (sh Bool) Γ (.Compare a [op] [b] pos) z Γ2 := by
  obtain ⟨r, ho, hr⟩ := hc
  exact px_sc ha hb (pe_cmpR ho pE pE hm) fun F0 H0 F H v w Q le hv hw q => hr F0 H0 F H v w Q le hv hw (q _ rfl)
theorem tx_cmp {op : CmpOp} {α : Type} [Rp α] {x : α} {m : Md} {y : m.β} {z : Bool} (hc : CR X op x m y z) (ha : PX X (sh α) Γ a x Γ1) (hb : PX X m Γ1 b y Γ2) (hm : behindInMarks op b = false := by first | exact nomark _ | rfl | with_unfolding_all rfl) :
    TX X Γ (.Compare a [op] [b] pos) z Γ2 := by
  obtain ⟨r, ho, hr⟩ := hc
  refine ⟨fun p h => ha.sub p (hb.sub p h), fun σ F H Q E q => wT.of (pt_cmpR ho pE pE hm) ?_⟩
  refine ha.run σ F H _ E fun v F1 H1 E1 s1 r1 => hb.run σ F1 H1 _ E1 fun w F2 H2 E2 s2 r2 => ?_
  exact hr F1 H1 F2 H2 v w _ E2.le (Rp.mono s2.up r1) r2 ⟨z, rfl, q F2 H2 E2 (s1.sub s2 fun p h => ha.sub p h)⟩
section
variable {x y : Int}
theorem cr_lt : CR X .Lt x (sh Int) y (decide (x < y)) := ⟨_, op_lt, fun _ _ _ _ _ _ _ _ hv hw q => ⟨x, y, hv, hw, q⟩⟩
theorem cr_le : CR X .LtE x (sh Int) y (decide (x ≤ y)) := ⟨_, op_le, fun _ _ _ _ _ _ _ _ hv hw q => ⟨x, y, hv, hw, q⟩⟩
theorem cr_gt : CR X .Gt x (sh Int) y (decide (y < x)) := ⟨_, op_gt, fun _ _ _ _ _ _ _ _ hv hw q => ⟨x, y, hv, hw, q⟩⟩
theorem cr_ge : CR X .GtE x (sh Int) y (decide (y ≤ x)) := ⟨_, op_ge, fun _ _ _ _ _ _ _ _ hv hw q => ⟨x, y, hv, hw, q⟩⟩
end
/-- scalars: == by V's own equality -/
class Sc (α : Type) [Rp α] [DecidableEq α] where
  val : α → V
  val_of : ∀ {K : PySem.W.Frag} {F : Hp} {v : V} {x : α}, rp K F v x → v = val x
  sc : ∀ x y : α, scal (val x) (val y) = true
  eq : ∀ x y : α, decide (val x = val y) = decide (x = y)
instance : Sc Int := ⟨V.int, fun h => h, fun _ _ => rfl, fun x y => by by_cases h : x = y <;> simp [h]⟩
instance : Sc Bool := ⟨V.bl, fun h => h, fun _ _ => rfl, fun x y => by by_cases h : x = y <;> simp [h]⟩
instance : Sc Str := ⟨V.str, fun h => h, fun _ _ => rfl, fun x y => by by_cases h : x = y <;> simp [h]⟩
theorem cr_eq {α : Type} [Rp α] [DecidableEq α] [Sc α] {x y : α} : CR X .Eq x (sh α) y (decide (x = y)) := ⟨_, op_eq, fun _ _ _ _ v w Q _ hv hw q => by
  rw [Sc.val_of hv, Sc.val_of hw]
  exact ⟨Sc.sc x y, by rw [Sc.eq]; exact q⟩⟩
theorem cr_ne {α : Type} [Rp α] [DecidableEq α] [Sc α] {x y : α} : CR X .NotEq x (sh α) y (!decide (x = y)) := ⟨_, op_ne, fun _ _ _ _ v w Q _ hv hw q => by
  rw [Sc.val_of hv, Sc.val_of hw]
  exact ⟨Sc.sc x y, by rw [Sc.eq]; exact q⟩⟩
theorem cr_isN {α : Type} [Rp α] {x : Option α} (hx : ∀ {F : Hp} {v : V} {y : α}, rp X.K F v y → v ≠ .non) : CR X .Is x (sh Unit) () x.isNone := ⟨_, op_isN, fun _ _ _ _ v w Q _ hv hw q => by
  refine ⟨hw, ?_⟩
  cases x with
  | none => rw [show v = V.non from hv]; exact q
  | some y => rw [decide_eq_false (hx (y := y) hv)]; exact q⟩
theorem cr_notN {α : Type} [Rp α] {x : Option α} (hx : ∀ {F : Hp} {v : V} {y : α}, rp X.K F v y → v ≠ .non) : CR X .IsNot x (sh Unit) () x.isSome := ⟨_, op_notN, fun _ _ _ _ v w Q _ hv hw q => by
  refine ⟨hw, ?_⟩
  cases x with
  | none => rw [show v = V.non from hv]; exact q
  | some y => rw [decide_eq_false (hx (y := y) hv)]; exact q⟩
/-- data of any depth: == -/
class De (α : Type) [Rp α] [DecidableEq α] where
  toD : α → PyData
  good : α → Prop
  dep : Nat
  dp : ∀ {K : PySem.W.Frag} {F : Hp} {v : V} {x : α}, rp K F v x → Dp K F v (toD x)
  lay : ∀ x : α, good x → (toD x).canLay0 = true
  hdep : ∀ x : α, (toD x).depth ≤ dep
  eqv : ∀ x y : α, PyData.eqv (toD x) (toD y) = decide (x = y)
instance : De Int := ⟨.int, fun _ => True, 0, fun h => by cases (show _ = V.int _ from h); exact .int _, fun _ _ => rfl, fun _ => Nat.le_refl _, fun x y => by unfold PyData.eqv; by_cases h : x = y <;> simp [h]⟩
instance : De Bool := ⟨.bool, fun _ => True, 0, fun h => by cases (show _ = V.bl _ from h); exact .bl _, fun _ _ => rfl, fun _ => Nat.le_refl _, fun x y => by unfold PyData.eqv; by_cases h : x = y <;> simp [h]⟩
instance : De Str := ⟨.str, fun x => PyData.strOk x = true, 0, fun h => by cases (show _ = V.str _ from h); exact .str _, fun _ h => by unfold PyData.canLay0; exact h, fun _ => Nat.le_refl _, fun x y => by unfold PyData.eqv; by_cases h : x = y <;> simp [h]⟩
theorem dpAll_of {α : Type} [Rp α] [DecidableEq α] [De α] {K : PySem.W.Frag} {F : Hp} : ∀ {vs : List V} {xs : List α}, RpL K F vs xs → DpAll K F vs (xs.map De.toD)
  | _, _, .nil => .nil
  | _, _, .cons r t => .cons (De.dp r) (dpAll_of t)
theorem layAll_of {α : Type} [Rp α] [DecidableEq α] [De α] : ∀ {xs : List α}, (∀ x ∈ xs, De.good x) → PyData.canLayAll0 (xs.map De.toD) = true
  | [], _ => by simp [PyData.canLayAll0]
  | x :: xs, h => by
    rw [List.map_cons, PyData.canLayAll0, De.lay x (h x List.mem_cons_self), layAll_of fun y hy => h y (List.mem_cons_of_mem _ hy)]
    rfl
theorem depAll_of {α : Type} [Rp α] [DecidableEq α] [De α] : ∀ {xs : List α}, PyData.depthAll (xs.map De.toD) ≤ De.dep α
  | [] => by simp [PyData.depthAll]
  | x :: xs => by
    rw [List.map_cons, PyData.depthAll]
    exact Nat.max_le.mpr ⟨De.hdep x, depAll_of⟩
theorem eqvAll_of {α : Type} [Rp α] [DecidableEq α] [De α] : ∀ (xs ys : List α), PyData.eqvAll (xs.map De.toD) (ys.map De.toD) = decide (xs = ys)
  | [], [] => by simp [PyData.eqvAll]
  | [], y :: ys => by simp [PyData.eqvAll]
  | x :: xs, [] => by simp [PyData.eqvAll]
  | x :: xs, y :: ys => by
    rw [List.map_cons, List.map_cons, PyData.eqvAll, De.eqv, eqvAll_of xs ys]
    by_cases h : x = y <;> by_cases h' : xs = ys <;> simp [h, h']
instance {α : Type} [Rp α] [DecidableEq α] [De α] : De (List α) := ⟨fun xs => .list (xs.map De.toD), fun xs => ∀ x ∈ xs, De.good x, De.dep α + 1,
  fun ⟨a, vs, e, s, r⟩ => by rw [e]; exact .lst (.inl (.inl s)) (dpAll_of r), fun xs h => by unfold PyData.canLay0; exact layAll_of h, fun xs => by unfold PyData.depth; exact Nat.succ_le_succ depAll_of, fun x y => by
    unfold PyData.eqv; exact eqvAll_of x y⟩
instance {α β : Type} [Rp α] [DecidableEq α] [De α] [Rp β] [DecidableEq β] [De β] : De (α × β) := ⟨fun x => .tuple [De.toD x.1, De.toD x.2], fun x => De.good x.1 ∧ De.good x.2, max (De.dep α) (De.dep β) + 1,
  fun ⟨a, v1, v2, e, s, r1, r2⟩ => by rw [e]; exact .tup (.inl (.inl s)) (.cons (De.dp r1) (.cons (De.dp r2) .nil)), fun x h => by simp [PyData.canLay0, PyData.canLayAll0, De.lay x.1 h.1, De.lay x.2 h.2],
  fun x => by
    have h1 := De.hdep x.1
    have h2 := De.hdep x.2
    simp only [PyData.depth, PyData.depthAll]
    omega, fun x y => by
    simp only [PyData.eqv, PyData.eqvAll, De.eqv]
    obtain ⟨x1, x2⟩ := x
    obtain ⟨y1, y2⟩ := y
    by_cases h : x1 = y1 <;> by_cases h' : x2 = y2 <;> simp [h, h']⟩
theorem shaped_of {α : Type} [Rp α] [DecidableEq α] [De α] {x : α} (h : De.good x) (hd : De.dep α ≤ 64) : SeqAt.shaped (De.toD x) = true := by
  unfold SeqAt.shaped
  rw [De.lay x h, decide_eq_true (Nat.le_trans (De.hdep x) hd)]
  rfl
theorem cr_eqD {α : Type} [Rp α] [DecidableEq α] [De α] {x y : α} (hu : X.A.units + 64 < cLine) (gx : De.good x) (gy : De.good y) (hd : De.dep α ≤ 64 := by decide) : CR X .Eq x (sh α) y (decide (x = y)) :=
  ⟨_, op_eqD hu, fun F0 H0 F H v w Q le hv hw q => ⟨De.toD x, De.toD y, De.dp (Rp.mono le hv), De.dp (Rp.mono le (show rp X.K F w y from hw)), shaped_of gx hd, shaped_of gy hd, by rw [De.eqv]; exact q⟩⟩
theorem cr_neD {α : Type} [Rp α] [DecidableEq α] [De α] {x y : α} (hu : X.A.units + 64 < cLine) (gx : De.good x) (gy : De.good y) (hd : De.dep α ≤ 64 := by decide) : CR X .NotEq x (sh α) y (!decide (x = y)) :=
  ⟨_, op_neD hu, fun F0 H0 F H v w Q le hv hw q => ⟨De.toD x, De.toD y, De.dp (Rp.mono le hv), De.dp (Rp.mono le (show rp X.K F w y from hw)), shaped_of gx hd, shaped_of gy hd, by rw [De.eqv]; exact q⟩⟩

/-! ### tests -/
theorem tx_val {z : Bool} (h : PX X (sh Bool) Γ e z Γ1) (he : ∀ whole, isTrue e X.env whole = (do let v ← whole; standAt e.pos; holding [v] (truthy v)) := by intro _; rfl) : TX X Γ e z Γ1 :=
  ⟨h.sub, fun σ F H Q E q => wT.of (pt_val pE he) (h.run σ F H _ E fun v F' H' E' s r => ⟨z, r, q F' H' E' s⟩)⟩
theorem tx_not {z : Bool} (h : TX X Γ e z Γ1) : TX X Γ (.UnaryOp .Not e pos) (!z) Γ1 :=
  ⟨h.sub, fun σ F H Q E q => wT.of (pt_not pT) (h.run σ F H _ E fun F' H' E' s => q F' H' E' s)⟩
/-- one more operand of and, or: the rest as it stands by itself -/
structure WX (X : Cx) (Γ : DE) (e : Expr) (z : Bool) (Γ' : DE) : Prop where
  sub : ∀ a, Own Γ' a → Own Γ a
  run : ∀ σ F H (Q : Bool → Hp → Prop), Env X.K Γ σ F H → (∀ F' H', Env X.K Γ' σ F' H' → Step (Own Γ) F H F' H' → Q z H') → ∀ whole pins s, Inv X pins σ H s → wpAny (model X.prog X.w) X.A (isTrue e X.env whole) (TP X pins σ Q) X.xe s
theorem WX.tx {z : Bool} (h : WX X Γ e z Γ1) : TX X Γ e z Γ1 := ⟨h.sub, fun σ F H Q E q pins s I => h.run σ F H Q E q _ pins s I⟩
def wW (X : Cx) (e : Expr) : TT := fun σ H Q => ∀ whole pins s, Inv X pins σ H s → wpAny (model X.prog X.w) X.A (isTrue e X.env whole) (TP X pins σ Q) X.xe s
theorem pW : PW X e (wW X e) := ⟨fun whole pins s _ _ _ I h => h whole pins s I⟩
theorem wx_and1 {z : Bool} (h : TX X Γ a z Γ1) : WX X Γ (.BoolOp .And [a] pos) z Γ1 := ⟨h.sub, fun σ F H Q E q whole pins s I => (pw_and1 pT).run whole pins s σ H Q I (h.run σ F H Q E q)⟩
theorem wx_or1 {z : Bool} (h : TX X Γ a z Γ1) : WX X Γ (.BoolOp .Or [a] pos) z Γ1 := ⟨h.sub, fun σ F H Q E q whole pins s I => (pw_or1 pT).run whole pins s σ H Q I (h.run σ F H Q E q)⟩
theorem wx_and {rest : List Expr} {y z : Bool} (h : TX X Γ a y Γ) (h2 : y = true → WX X Γ (.BoolOp .And (b :: rest) pos) z Γ) : WX X Γ (.BoolOp .And (a :: b :: rest) pos) (y && z) Γ := by
  refine ⟨sub_refl, fun σ F H Q E q whole pins s I => (pw_and pT pW).run whole pins s σ H Q I ?_⟩
  refine h.run σ F H _ E fun F' H' E' st => ?_
  cases y with
  | true => exact (h2 rfl).run σ F' H' Q E' fun F2 H2 E2 s2 => q F2 H2 E2 (st.sub s2 sub_refl)
  | false => exact q F' H' E' st
theorem wx_or {rest : List Expr} {y z : Bool} (h : TX X Γ a y Γ) (h2 : y = false → WX X Γ (.BoolOp .Or (b :: rest) pos) z Γ) : WX X Γ (.BoolOp .Or (a :: b :: rest) pos) (y || z) Γ := by
  refine ⟨sub_refl, fun σ F H Q E q whole pins s I => (pw_or pT pW).run whole pins s σ H Q I ?_⟩
  refine h.run σ F H _ E fun F' H' E' st => ?_
  cases y with
  | false => exact (h2 rfl).run σ F' H' Q E' fun F2 H2 E2 s2 => q F2 H2 E2 (st.sub s2 sub_refl)
  | true => exact q F' H' E' st
/-- as values -/
theorem px_one {op} {m : Md} {x : m.β} (h : PX X m Γ a x Γ1) : PX X m Γ (.BoolOp op [a] pos) x Γ1 := ⟨h.sub, fun σ F H Q E q => wE.of (pe_one pE) (h.run σ F H Q E q)⟩
theorem px_and {rest : List Expr} {y z : Bool} (h : PX X (sh Bool) Γ a y Γ) (h2 : y = true → PX X (sh Bool) Γ (.BoolOp .And (b :: rest) pos) z Γ) : PX X (sh Bool) Γ (.BoolOp .And (a :: b :: rest) pos) (y && z) Γ := by
  refine ⟨sub_refl, fun σ F H Q E q => wE.of (pe_and pE pE) ?_⟩
  refine h.run σ F H _ E fun v F' H' E' st r => ⟨y, r, ?_⟩
  cases y with
  | true => exact (h2 rfl).run σ F' H' Q E' fun w F2 H2 E2 s2 r2 => q w F2 H2 E2 (st.sub s2 sub_refl) r2
  | false => exact q _ F' H' E' st rfl
theorem px_or {rest : List Expr} {y z : Bool} (h : PX X (sh Bool) Γ a y Γ) (h2 : y = false → PX X (sh Bool) Γ (.BoolOp .Or (b :: rest) pos) z Γ) : PX X (sh Bool) Γ (.BoolOp .Or (a :: b :: rest) pos) (y || z) Γ := by
  refine ⟨sub_refl, fun σ F H Q E q => wE.of (pe_or pE pE) ?_⟩
  refine h.run σ F H _ E fun v F' H' E' st r => ⟨y, r, ?_⟩
  cases y with
  | false => exact (h2 rfl).run σ F' H' Q E' fun w F2 H2 E2 s2 r2 => q w F2 H2 E2 (st.sub s2 sub_refl) r2
  | true => exact q _ F' H' E' st rfl
theorem px_not {z : Bool} (h : PX X (sh Bool) Γ e z Γ1) : PX X (sh Bool) Γ (.UnaryOp .Not e pos) (!z) Γ1 :=
  ⟨h.sub, fun σ F H Q E q => wE.of (pe_not pE) (h.run σ F H _ E fun v F' H' E' s r => ⟨z, r, q _ F' H' E' s rfl⟩)⟩
theorem px_ifx {t : Expr} {m : Md} {z : Bool} {x y : m.β} (h : TX X Γ t z Γ1) (ha : z = true → PX X m Γ1 a x Γ2) (hb : z = false → PX X m Γ1 b y Γ2) (s1 : ∀ p, Own Γ2 p → Own Γ1 p) : PX X m Γ (.IfExp t a b pos) (if z then x else y) Γ2 := by
  refine ⟨fun p q => h.sub p (s1 p q), fun σ F H Q E q => wE.of (pe_ifExp pT pE pE) ?_⟩
  refine h.run σ F H _ E fun F' H' E' st => ?_
  cases z with
  | true => exact (ha rfl).run σ F' H' Q E' fun w F2 H2 E2 s2 r2 => q w F2 H2 E2 (st.sub s2 h.sub) (m.pre st.there r2)
  | false => exact (hb rfl).run σ F' H' Q E' fun w F2 H2 E2 s2 r2 => q w F2 H2 E2 (st.sub s2 h.sub) (m.pre st.there r2)
end
end G
namespace G
open PySem PySem.Spec PyProof.Rows L2
open Rp (rp)

/-! ### statements -/
structure Ax (m : Md) where
  nx : DE → Prop
  rt : m.β → DE → Prop
  bk : DE → Prop := fun _ => False
  ct : DE → Prop := fun _ => False
structure Stp (Γ : DE) (F H : Hp) (Γ' : DE) (F' H' : Hp) : Prop where
  st : Step (Own Γ) F H F' H'
  ow : ∀ a, Own Γ' a → Own Γ a ∨ H a = none
theorem Stp.refl {Γ : DE} {F H : Hp} : Stp Γ F H Γ F H := ⟨Step.refl, fun _ h => .inl h⟩
theorem Stp.trans {Γ Γ1 Γ2 : DE} {F H F1 H1 F2 H2 : Hp} (a : Stp Γ F H Γ1 F1 H1) (b : Stp Γ1 F1 H1 Γ2 F2 H2) : Stp Γ F H Γ2 F2 H2 :=
  ⟨a.st.trans b.st a.ow, fun p h => (b.ow p h).elim (a.ow p) fun z => .inr (a.st.there p z)⟩
structure Link (X : Cx) (m : Md) (D : Ax m) (Γ : DE) (F H : Hp) (D' : Ends) : Prop where
  nx : ∀ Γ' σ' F' H', D.nx Γ' → Env X.K Γ' σ' F' H' → Stp Γ F H Γ' F' H' → D'.nx σ' H'
  rt : ∀ x Γ' σ' F' H' v, D.rt x Γ' → Env X.K Γ' σ' F' H' → Stp Γ F H Γ' F' H' → m.ok X.K F H F' H' v x → D'.rt v H'
  bk : ∀ Γ' σ' F' H', D.bk Γ' → Env X.K Γ' σ' F' H' → Stp Γ F H Γ' F' H' → D'.bk σ' H'
  ct : ∀ Γ' σ' F' H', D.ct Γ' → Env X.K Γ' σ' F' H' → Stp Γ F H Γ' F' H' → D'.ct σ' H'
def SD (X : Cx) (m : Md) (Γ : DE) (st : List Stmt) (D : Ax m) : Prop := ∀ σ F H (D' : Ends), Env X.K Γ σ F H → Link X m D Γ F H D' → wS X st D' σ H
def SD1 (X : Cx) (m : Md) (Γ : DE) (st : Stmt) (D : Ax m) : Prop := ∀ σ F H (D' : Ends), Env X.K Γ σ F H → Link X m D Γ F H D' → wS1 X st D' σ H
/-- forgetting -/
inductive Wk : DE → DE → Prop
  | nil : Wk [] []
  | same {e : Ent} {Γ Γ' : DE} : Wk Γ Γ' → Wk (e :: Γ) (e :: Γ')
  | no {e : Ent} {Γ Γ' : DE} : Wk Γ Γ' → Wk (e :: Γ) (.no :: Γ')
theorem Wk.refl : ∀ {Γ : DE}, Wk Γ Γ
  | [] => .nil
  | _ :: _ => .same Wk.refl
theorem Wk.len {Γ Γ' : DE} (h : Wk Γ Γ') : Γ.length = Γ'.length := by
  induction h with
  | nil => rfl
  | same _ ih => simp [ih]
  | no _ ih => simp [ih]
theorem Wk.get {Γ Γ' : DE} (h : Wk Γ Γ') : ∀ (i : Nat) (e : Ent), Γ'[i]? = some e → e = .no ∧ i < Γ.length ∨ Γ[i]? = some e := by
  induction h with
  | nil => intro i e h; simp at h
  | same _ ih =>
    intro i e h
    cases i with
    | zero => exact .inr h
    | succ i => rcases ih i e (by simpa using h) with ⟨a, b⟩ | z
                · exact .inl ⟨a, by simpa using b⟩
                · exact .inr (by simpa using z)
  | no _ ih =>
    intro i e h
    cases i with
    | zero => simp at h; exact .inl ⟨h.symm, by simp⟩
    | succ i => rcases ih i e (by simpa using h) with ⟨a, b⟩ | z
                · exact .inl ⟨a, by simpa using b⟩
                · exact .inr (by simpa using z)
theorem Wk.adr {Γ Γ' : DE} (h : Wk Γ Γ') {i : Nat} {a : Addr} (q : (Γ'[i]?.bind Ent.adr) = some a) : (Γ[i]?.bind Ent.adr) = some a := by
  cases z : Γ'[i]? with
  | none => rw [z] at q; cases q
  | some e =>
    rw [z] at q
    rcases h.get i e z with ⟨rfl, _⟩ | z'
    · cases q
    · rw [z']; exact q
theorem Wk.own {Γ Γ' : DE} (h : Wk Γ Γ') : ∀ a, Own Γ' a → Own Γ a := fun a ⟨i, q⟩ => ⟨i, h.adr q⟩
theorem Env.wk {K : PySem.W.Frag} {Γ Γ' : DE} {σ : L2.St} {F H : Hp} (E : Env K Γ σ F H) (h : Wk Γ Γ') : Env K Γ' σ F H := by
  refine ⟨E.le, E.len.trans h.len, fun i e q => ?_, fun i j a q r => E.sep i j a (h.adr q) (h.adr r)⟩
  rcases h.get i e q with ⟨rfl, hi⟩ | z
  · exact ⟨σ[i]'(by rw [E.len]; exact hi), by rw [List.getElem?_eq_getElem], trivial⟩
  · exact E.ent i e z
theorem Stp.wk {Γ Γ1 Γ2 : DE} {F H F1 H1 : Hp} (s : Stp Γ F H Γ1 F1 H1) (h : Wk Γ1 Γ2) : Stp Γ F H Γ2 F1 H1 := ⟨s.st, fun a q => s.ow a (h.own a q)⟩

section
variable {X : Cx} {m : Md} {Γ Γ1 Γ2 : DE} {st : List Stmt} {s : Stmt} {rest : List Stmt} {D : Ax m} {e a b c tg : Expr} {pos : Pos}
/-- what was reached is reached from further back -/
theorem Link.from {F H F1 H1 : Hp} {D' : Ends} (L : Link X m D Γ F H D') (s : Stp Γ F H Γ1 F1 H1) : Link X m D Γ1 F1 H1 D' :=
  ⟨fun Γ' σ' F' H' h E t => L.nx Γ' σ' F' H' h E (s.trans t), fun x Γ' σ' F' H' v h E t r => L.rt x Γ' σ' F' H' v h E (s.trans t) (m.pre s.st.there r),
    fun Γ' σ' F' H' h E t => L.bk Γ' σ' F' H' h E (s.trans t), fun Γ' σ' F' H' h E t => L.ct Γ' σ' F' H' h E (s.trans t)⟩
theorem PX.stp {m1 : Md} {x : m1.β} (h : PX X m1 Γ e x Γ1) {F H F1 H1 : Hp} (s : Step (Own Γ) F H F1 H1) : Stp Γ F H Γ1 F1 H1 := ⟨s, fun a q => .inl (h.sub a q)⟩
theorem sd_nil (h : D.nx Γ) : SD X m Γ [] D := fun σ F H D' E L => wS.of pss_nil (L.nx Γ σ F H h E Stp.refl)
theorem sd_cons {N : DE → Prop} (h1 : SD1 X m Γ s { D with nx := N }) (h2 : ∀ Γ', N Γ' → SD X m Γ' rest D) : SD X m Γ (s :: rest) D := fun σ F H D' E L => by
  refine wS.of (pss_cons pS1 pS) (h1 σ F H _ E ⟨fun Γ' σ' F' H' h E' t => ?_, L.rt, L.bk, L.ct⟩)
  exact h2 Γ' h σ' F' H' D' E' (L.from t)
/-- through one statement whose end is known -/
theorem sd_c1 {Γ' : DE} (h1 : SD1 X m Γ s { D with nx := fun Γ'' => Γ'' = Γ' }) (h2 : SD X m Γ' rest D) : SD X m Γ (s :: rest) D := sd_cons h1 fun _ e => e ▸ h2
theorem sd_wk (h : Wk Γ Γ1) (k : SD X m Γ1 st D) : SD X m Γ st D := fun σ F H D' E L => k σ F H D' (E.wk h) (L.from (Stp.refl.wk h))
theorem sd_mono {D2 : Ax m} (k : SD X m Γ st D) (h1 : ∀ Γ', D.nx Γ' → D2.nx Γ') (h2 : ∀ x Γ', D.rt x Γ' → D2.rt x Γ') (h3 : ∀ Γ', D.bk Γ' → D2.bk Γ') (h4 : ∀ Γ', D.ct Γ' → D2.ct Γ') : SD X m Γ st D2 := fun σ F H D' E L =>
  k σ F H D' E ⟨fun Γ' σ' F' H' h => L.nx Γ' σ' F' H' (h1 _ h), fun x Γ' σ' F' H' v h => L.rt x Γ' σ' F' H' v (h2 _ _ h), fun Γ' σ' F' H' h => L.bk Γ' σ' F' H' (h3 _ h), fun Γ' σ' F' H' h => L.ct Γ' σ' F' H' (h4 _ h)⟩
theorem sd_ret {x : m.β} (h : PX X m Γ e x Γ1) (k : D.rt x Γ1) : SD X m Γ (.Return (some e) pos :: rest) D := by
  refine sd_cons (N := fun _ => False) ?_ (fun _ z => z.elim)
  intro σ F H D' E L
  exact wS1.of (ps_ret pE) (h.run σ F H _ E fun v F' H' E' s r => L.rt x Γ1 σ F' H' v k E' (h.stp s) r)
theorem sd_if {z : Bool} (h : TX X Γ c z Γ1) {th el : List Stmt} (h1 : z = true → SD X m Γ1 th { D with nx := fun Γ' => SD X m Γ' rest D }) (h2 : z = false → SD X m Γ1 el { D with nx := fun Γ' => SD X m Γ' rest D }) :
    SD X m Γ (.If c th el pos :: rest) D := by
  refine sd_cons (N := fun Γ' => SD X m Γ' rest D) ?_ (fun _ z => z)
  intro σ F H D' E L
  refine wS1.of (ps_if pT pS pS) (h.run σ F H _ E fun F' H' E' s => ?_)
  have t : Stp Γ F H Γ1 F' H' := ⟨s, fun a q => .inl (h.sub a q)⟩
  cases z with
  | true => exact h1 rfl σ F' H' D' E' (L.from t)
  | false => exact h2 rfl σ F' H' D' E' (L.from t)
theorem sd_pass (k : SD X m Γ rest D) : SD X m Γ (.Pass pos :: rest) D :=
  sd_c1 (fun σ F H D' E L => wS1.of ps_pass (L.nx Γ σ F H rfl E Stp.refl)) k
theorem sd_doc {x j pos'} (k : SD X m Γ rest D) : SD X m Γ (.Expr (.Constant (.str x) j pos) pos' :: rest) D :=
  sd_c1 (fun σ F H D' E L => wS1.of ps_doc (L.nx Γ σ F H rfl E Stp.refl)) k
theorem sd_expr {m1 : Md} {x : m1.β} (h : PX X m1 Γ e x Γ1) (k : SD X m Γ1 rest D) (hs : swapsWith e none pos.line X.env = pure false := by rfl) : SD X m Γ (.Expr e pos :: rest) D :=
  sd_c1 (fun σ F H D' E L => wS1.of (ps_expr pE hs) (h.run σ F H _ E fun v F' H' E' s r => L.nx Γ1 σ F' H' rfl E' (h.stp s))) k

/-! ### storing a name -/
theorem get_set {Γ : DE} {i j : Nat} {e e' : Ent} (h : (Γ.set i e)[j]? = some e') : (j = i ∧ e' = e ∧ i < Γ.length) ∨ (j ≠ i ∧ Γ[j]? = some e') := by
  by_cases z : i = j
  · subst z
    by_cases hi : i < Γ.length
    · rw [List.getElem?_set_self hi] at h; exact .inl ⟨rfl, (Option.some.inj h).symm, hi⟩
    · rw [List.getElem?_eq_none (by simpa using hi)] at h; cases h
  · rw [List.getElem?_set_ne z] at h; exact .inr ⟨fun q => z q.symm, h⟩
theorem adr_set {Γ : DE} {i j : Nat} {e : Ent} {p : Addr} (h : ((Γ.set i e)[j]?.bind Ent.adr) = some p) : (j = i ∧ e.adr = some p) ∨ (j ≠ i ∧ (Γ[j]?.bind Ent.adr) = some p) := by
  cases q : (Γ.set i e)[j]? with
  | none => rw [q] at h; cases h
  | some e' =>
    rw [q] at h
    rcases get_set q with ⟨rfl, rfl, _⟩ | ⟨n, q'⟩
    · exact .inl ⟨rfl, h⟩
    · exact .inr ⟨n, by rw [q']; exact h⟩
theorem Env.set_is {K : PySem.W.Frag} {σ : L2.St} {F H : Hp} {i : Nat} {v : V} {α : Type} [Rp α] {x : α} (E : Env K Γ σ F H) (r : rp K F v x) : Env K (Γ.set i (.is x)) (σ.set i (some v)) F H := by
  refine ⟨E.le, by simpa using E.len, fun j e q => ?_, fun j k p q q' => ?_⟩
  · rcases get_set q with ⟨rfl, rfl, hi⟩ | ⟨n, q'⟩
    · exact ⟨some v, by rw [List.getElem?_set_self (by rw [E.len]; exact hi)], v, rfl, r⟩
    · obtain ⟨o, ho, r'⟩ := E.ent j e q'
      exact ⟨o, by rw [List.getElem?_set_ne (Ne.symm n)]; exact ho, r'⟩
  · rcases adr_set q with ⟨_, z⟩ | ⟨n, z⟩
    · cases z
    · rcases adr_set q' with ⟨_, z'⟩ | ⟨n', z'⟩
      · cases z'
      · exact E.sep j k p z z'
theorem own_set_is {i : Nat} {α : Type} [Rp α] {x : α} {p : Addr} (h : Own (Γ.set i (.is x)) p) : Own Γ p := by
  obtain ⟨j, q⟩ := h
  rcases adr_set q with ⟨_, z⟩ | ⟨n, z⟩
  · cases z
  · exact ⟨j, z⟩
theorem own_set_own {i : Nat} {α : Type} [Rp α] {x : List α} {a p : Addr} (h : Own (Γ.set i (.own a x)) p) : p = a ∨ Own Γ p := by
  obtain ⟨j, q⟩ := h
  rcases adr_set q with ⟨_, z⟩ | ⟨n, z⟩
  · exact .inl (Option.some.inj z).symm
  · exact .inr ⟨j, z⟩
/-- a list of one's own gets into slot i; no other slot has its address -/
theorem Env.set_own {K : PySem.W.Frag} {σ : L2.St} {F H : Hp} {i : Nat} {p : Addr} {vs : List V} {α : Type} [Rp α] {xs : List α} (E : Env K Γ σ F H) (hp : H p = some (.lst vs)) (hF : F p = none) (r : RpL K F vs xs)
    (hn : ∀ j, j ≠ i → (Γ[j]?.bind Ent.adr) ≠ some p) : Env K (Γ.set i (.own p xs)) (σ.set i (some (.ref p))) F H := by
  refine ⟨E.le, by simpa using E.len, fun j e q => ?_, fun j k b q q' => ?_⟩
  · rcases get_set q with ⟨rfl, rfl, hi⟩ | ⟨n, q'⟩
    · exact ⟨some (.ref p), by rw [List.getElem?_set_self (by rw [E.len]; exact hi)], rfl, hF, vs, hp, r⟩
    · obtain ⟨o, ho, r'⟩ := E.ent j e q'
      exact ⟨o, by rw [List.getElem?_set_ne (Ne.symm n)]; exact ho, r'⟩
  · rcases adr_set q with ⟨e1, z⟩ | ⟨n, z⟩ <;> rcases adr_set q' with ⟨e2, z'⟩ | ⟨n', z'⟩
    · rw [e1, e2]
    · have e : p = b := Option.some.inj z
      exact absurd (e ▸ z') (hn k n')
    · have e : p = b := Option.some.inj z'
      exact absurd (e ▸ z) (hn j n)
    · exact E.sep j k b z z'
theorem sd_set {α : Type} [Rp α] {x : α} {nm : Str} {pos' : Pos} (i : Nat) (h : PX X (sh α) Γ e x Γ1) (k : SD X m (Γ1.set i (.is x)) rest D) (hN : X.N.Nodup) (hi : X.N[i]? = some nm := by rfl) (hx : Loc X.env.scope nm := by first | exact Or.inl rfl | exact Or.inr rfl)
    (hs : swapsWith e (some (.Name nm pos')) pos.line X.env = pure false := by rfl) (hf : X.fn nm = true ∨ X.env.scope.names.lookup nm = some .local := by first | exact .inl rfl | exact .inr rfl) : SD X m Γ (.Assign [.Name nm pos'] e pos :: rest) D :=
  sd_c1 (fun σ F H D' E L => wS1.of (ps_set hN hi hx pE hs hf) (h.run σ F H _ E fun v F' H' E' s r =>
    L.nx _ _ F' H' rfl (E'.set_is r) ⟨s, fun a q => .inl (h.sub a (own_set_is q))⟩)) k
theorem sd_setO {α : Type} [Rp α] {xs : List α} {nm : Str} {pos' : Pos} (i : Nat) (h : PX X (nw α) Γ e xs Γ1) (k : ∀ p, SD X m (Γ1.set i (.own p xs)) rest D) (hN : X.N.Nodup) (hi : X.N[i]? = some nm := by rfl) (hx : Loc X.env.scope nm := by first | exact Or.inl rfl | exact Or.inr rfl)
    (hs : swapsWith e (some (.Name nm pos')) pos.line X.env = pure false := by rfl) (hf : X.fn nm = true ∨ X.env.scope.names.lookup nm = some .local := by first | exact .inl rfl | exact .inr rfl) : SD X m Γ (.Assign [.Name nm pos'] e pos :: rest) D := by
  refine sd_cons (N := fun Γ' => ∃ p, Γ' = Γ1.set i (.own p xs)) ?_ (fun _ ⟨p, z⟩ => z ▸ k p)
  intro σ F H D' E L
  refine wS1.of (ps_set hN hi hx pE hs hf) (h.run σ F H _ E fun v F' H' E' s ⟨p, vs, ev, hn, hf, ht, r⟩ => ?_)
  subst ev
  have no : ¬ Own Γ1 p := fun z => Own.some (h.sub _ z) E hn
  refine L.nx _ _ F' H' ⟨p, rfl⟩ (E'.set_own ht hf r fun j _ z => no ⟨j, z⟩) ⟨s, fun a q => ?_⟩
  rcases own_set_own q with rfl | q
  · exact .inr hn
  · exact .inl (h.sub a q)
/-- two plain local names at once -/
theorem sd_par {α β : Type} [Rp α] [Rp β] {x : α} {y : β} {n1 n2 : Str} {px py pt : Pos} {kt k2 pt2} (i j : Nat) (h1 : PX X (sh α) Γ a x Γ1) (h2 : PX X (sh β) Γ1 b y Γ2) (k : SD X m ((Γ2.set i (.is x)).set j (.is y)) rest D)
    (hN : X.N.Nodup) (hc : X.calm = true := by rfl) (hi : X.N[i]? = some n1 := by rfl) (hj : X.N[j]? = some n2 := by rfl) (hij : i ≠ j := by decide) (hx : X.env.scope.names.lookup n1 = some .local := by rfl) (hy : X.env.scope.names.lookup n2 = some .local := by rfl)
    (hp : PA X [a, b] (tCons (wE X a) (tCons (wE X b) tNil)) := by exact pa_cons pE (pa_cons pE pa_nil))
    (hps : X.N.Nodup → ∀ ta, PA X [a, b] ta → PS X (.Assign [.Tuple [.Name n1 px, .Name n2 py] kt pt] (.Tuple [a, b] k2 pt2) pos) (tPar i j ta) := by intro hN ta h; exact ps_par (by rfl) hN rfl rfl (by decide) rfl rfl h (by rfl)) :
    SD X m Γ (.Assign [.Tuple [.Name n1 px, .Name n2 py] kt pt] (.Tuple [a, b] k2 pt2) pos :: rest) D :=
  sd_c1 (fun σ F H D' E L => wS1.of (hps hN _ hp) (h1.run σ F H _ E fun v F' H' E' s r => h2.run σ F' H' _ E' fun w F2 H2 E2 s2 r2 =>
    ⟨v, w, rfl, L.nx _ _ F2 H2 rfl ((E2.set_is (Rp.mono s2.up r)).set_is r2) ⟨s.sub s2 h1.sub, fun a q => .inl (h1.sub a (h2.sub a (own_set_is (own_set_is q))))⟩⟩)) k
theorem sd_aug {x y : Int} {op : Operator} {g : Int → Int → Int} {nm : Str} {pos' : Pos} (ho : PIp X op (ipI g)) (i : Nat) (h0 : Γ[i]? = some (.is x)) (h : PX X (sh Int) Γ e y Γ1) (k : SD X m (Γ1.set i (.is (g x y))) rest D) (hN : X.N.Nodup) (hi : X.N[i]? = some nm := by rfl)
    (hx : Loc X.env.scope nm := by first | exact Or.inl rfl | exact Or.inr rfl) (hf : X.fn nm = true ∨ X.env.scope.names.lookup nm = some .local := by first | exact .inl rfl | exact .inr rfl) : SD X m Γ (.AugAssign (.Name nm pos') op e pos :: rest) D :=
  sd_c1 (fun σ F H D' E L => by
    obtain ⟨o, ho1, v, rfl, r⟩ := E.ent i _ h0
    refine wS1.of (ps_aug hN hi hx pE ho hf) ⟨v, ho1, h.run σ F H _ E fun w F' H' E' s rw => ⟨x, y, r, rw, ?_⟩⟩
    exact L.nx _ _ F' H' rfl (E'.set_is (x := g x y) rfl) ⟨s, fun a q => .inl (h.sub a (own_set_is q))⟩) k
/-- a op= e for any operator on values -/
theorem sd_augI {x y : Int} {op : Operator} {C : Int → Int → Prop} {g : Int → Int → Int} {nm : Str} {pos' : Pos} (ho : OpR X (inplaceOp op) (rI C fun i j => .int (g i j))) (i : Nat) (h0 : Γ[i]? = some (.is x)) (h : PX X (sh Int) Γ e y Γ1) (hc : C x y) (k : SD X m (Γ1.set i (.is (g x y))) rest D) (hN : X.N.Nodup) (hi : X.N[i]? = some nm := by rfl)
    (hx : Loc X.env.scope nm := by first | exact Or.inl rfl | exact Or.inr rfl) (hf : X.fn nm = true ∨ X.env.scope.names.lookup nm = some .local := by first | exact .inl rfl | exact .inr rfl) : SD X m Γ (.AugAssign (.Name nm pos') op e pos :: rest) D :=
  sd_c1 (fun σ F H D' E L => by
    obtain ⟨o, ho1, v, rfl, r⟩ := E.ent i _ h0
    refine wS1.of (ps_aug hN hi hx pE (ti := rI C fun i j => .int (g i j)) (fun pins s σ H x y v u Q I r1 r2 q => ho pins s σ H x y v u Q I r1 r2 q) hf) ⟨v, ho1, h.run σ F H _ E fun w F' H' E' s rw => ⟨x, y, r, rw, hc, ?_⟩⟩
    exact L.nx _ _ F' H' rfl (E'.set_is (x := g x y) rfl) ⟨s, fun a q => .inl (h.sub a (own_set_is q))⟩) k
/-- what a slot owns is handed over for good -/
theorem Env.give {K : PySem.W.Frag} {σ : L2.St} {F H : Hp} {i : Nat} {p : Addr} {α : Type} [Rp α] {xs : List α} (E : Env K Γ σ F H) (h : Γ[i]? = some (.own p xs)) :
    ∃ vs, F p = none ∧ H p = some (.lst vs) ∧ RpL K F vs xs ∧ Env K (Γ.set i (.is xs)) σ (upd F p (.lst vs)) H ∧ Stp Γ F H (Γ.set i (.is xs)) (upd F p (.lst vs)) H := by
  obtain ⟨o, ho, rfl, hF, vs, hH, r⟩ := E.ent i _ h
  have sm := same_upd (o := .lst vs) hF
  refine ⟨vs, hF, hH, r, ⟨fun b x e => ?_, by simpa using E.len, fun j e q => ?_, fun j k b q q' => ?_⟩, ⟨sm, fun _ _ h _ => h, fun _ h => h, fun b h1 h2 => ?_⟩, fun b q => .inl (own_set_is q)⟩
  · by_cases z : b = p
    · subst z; rw [upd_same] at e; cases e; exact hH
    · rw [upd_ne z] at e; exact E.le _ _ e
  · rcases get_set q with ⟨rfl, rfl, hi⟩ | ⟨n, q'⟩
    · exact ⟨some (.ref p), ho, .ref p, rfl, p, vs, rfl, upd_same, r.mono sm⟩
    · obtain ⟨o, ho', r'⟩ := E.ent j e q'
      refine ⟨o, ho', ?_⟩
      cases e with
      | no => trivial
      | is x => obtain ⟨v, e, r⟩ := r'; exact ⟨v, e, Rp.mono sm r⟩
      | own b ys =>
        obtain ⟨e1, e2, ws, e3, r⟩ := r'
        refine ⟨e1, ?_, ws, e3, r.mono sm⟩
        have nb : b ≠ p := fun z => n (E.sep j i p (by rw [q']; exact congrArg some z) (by rw [h]; rfl))
        rw [upd_ne nb]; exact e2
  · rcases adr_set q with ⟨_, z⟩ | ⟨n, z⟩
    · cases z
    · rcases adr_set q' with ⟨_, z'⟩ | ⟨n', z'⟩
      · cases z'
      · exact E.sep j k b z z'
  · by_cases z : b = p
    · subst z; exact .inr ⟨i, by rw [h]; rfl⟩
    · rw [upd_ne z] at h2; exact absurd h1 h2
theorem sd_give {α : Type} [Rp α] {xs : List α} {p : Addr} (i : Nat) (k : SD X m (Γ.set i (.is xs)) st D) (h : Γ[i]? = some (.own p xs) := by rfl) : SD X m Γ st D := fun σ F H D' E L => by
  obtain ⟨vs, hF, hH, r, E', t⟩ := E.give h
  exact k σ _ H D' E' (L.from t)
/-- .. in the middle of an expression -/
theorem px_give {α : Type} [Rp α] {xs : List α} {p : Addr} {m1 : Md} {x : m1.β} (i : Nat) (k : PX X m1 (Γ.set i (.is xs)) e x Γ1) (h : Γ[i]? = some (.own p xs) := by rfl) : PX X m1 Γ e x Γ1 :=
  ⟨fun a q => own_set_is (k.sub a q), fun σ F H Q E q => by
    obtain ⟨vs, hF, hH, r, E', t⟩ := E.give h
    exact k.run σ _ H Q E' fun v F' H' E2 s r => q v F' H' E2 (t.st.sub s fun a z => own_set_is z) (m1.pre t.st.there r)⟩
/-- .. a name whose list is handed back -/
theorem px_take {α : Type} [Rp α] {xs : List α} {p : Addr} {nm : Str} (i : Nat) (h : Γ[i]? = some (.own p xs) := by rfl) (hl : (Γ.set i (.is xs))[i]? = some (.is xs) := by rfl) (hN : X.N[i]? = some nm := by rfl) (hv : Vis X.env.scope nm := by first | exact Or.inl rfl | exact Or.inr (Or.inl rfl) | exact Or.inr (Or.inr rfl))
    (hd : (nm == ("__debug__" : Str)) = false := by decide) (hcd : (nm == ("__classdict__" : Str)) = false := by decide) : PX X (sh (List α)) Γ (.Name nm pos) xs (Γ.set i (.is xs)) :=
  px_give i (px_var i hl hN hv hd hcd) h
end
end G
namespace G
open PySem PySem.Spec PyProof.Rows L2
open Rp (rp)
section
variable {X : Cx} {m : Md} {Γ Γ1 Γ2 : DE} {st : List Stmt} {s : Stmt} {rest : List Stmt} {D : Ax m} {e a b c tg : Expr} {pos : Pos} {nm : Str} {p : Pos}

/-! ### contracts -/
def EntsOk (K : PySem.W.Frag) (F H : Hp) (vs : List V) (es : DE) : Prop := vs.length = es.length ∧ ∀ (i : Nat) (e : Ent), es[i]? = some e → ∃ v, vs[i]? = some v ∧ e.ok K F H (some v)
def spM (K : PySem.W.Frag) (m : Md) (n : Nat) (R : DE → m.β → DE → Prop) : Sp := fun vs H Q _ => vs.length = n ∧ ∃ F Γ x Γ', R Γ x Γ' ∧ Env K Γ (vs.map some) F H ∧
  ∀ v F' H', Env K Γ' (vs.map some) F' H' → Step (Own Γ) F H F' H' → m.ok K F H F' H' v x → Q v H'
/-- what the parameters are at the end -/
inductive Fin : DE → DE → DE → Prop
  | nil {Γ : DE} : Fin [] [] Γ
  | is {α : Type} [Rp α] {x : α} {e : Ent} {Γ Γ' Γ'' : DE} : Fin Γ Γ' Γ'' → Fin (.is x :: Γ) (.is x :: Γ') (e :: Γ'')
  | own {α : Type} [Rp α] {a : Addr} {x y : List α} {Γ Γ' Γ'' : DE} : Fin Γ Γ' Γ'' → Fin (.own a x :: Γ) (.own a y :: Γ') (.own a y :: Γ'')
theorem Fin.get {Γ Γ' Γ'' : DE} (h : Fin Γ Γ' Γ'') : Γ'.length = Γ.length ∧ ∀ (i : Nat) (e : Ent), Γ'[i]? = some e → (Γ[i]? = some e ∧ e.adr = none) ∨ (Γ''[i]? = some e ∧ (Γ[i]?.bind Ent.adr) = e.adr ∧ e.adr ≠ none) := by
  induction h with
  | nil => exact ⟨rfl, fun i e h => by simp at h⟩
  | is _ ih =>
    refine ⟨by simp [ih.1], fun i e h => ?_⟩
    cases i with
    | zero => simp at h; subst h; exact .inl ⟨rfl, rfl⟩
    | succ i => simpa using ih.2 i e (by simpa using h)
  | own _ ih =>
    refine ⟨by simp [ih.1], fun i e h => ?_⟩
    cases i with
    | zero => simp at h; subst h; exact .inr ⟨rfl, rfl, fun z => nomatch z⟩
    | succ i => simpa using ih.2 i e (by simpa using h)
theorem Fin.env {K : PySem.W.Frag} {Γ Γ' Γ'' : DE} (h : Fin Γ Γ' Γ'') {σ σ' : L2.St} {F H F' H' : Hp} (E : Env K Γ σ F H) (E' : Env K Γ'' σ' F' H') (up : Same F F') : Env K Γ' σ F' H' := by
  obtain ⟨hl, hg⟩ := h.get
  have ad : ∀ (i : Nat) (a : Addr), (Γ'[i]?.bind Ent.adr) = some a → (Γ''[i]?.bind Ent.adr) = some a := fun i a q => by
    cases z : Γ'[i]? with
    | none => rw [z] at q; cases q
    | some e =>
      rw [z] at q
      have q : e.adr = some a := q
      rcases hg i e z with ⟨_, n⟩ | ⟨z', _, _⟩
      · rw [n] at q; cases q
      · rw [z']; exact q
  refine ⟨E'.le, E.len.trans hl.symm, fun i e q => ?_, fun i j b q r => E'.sep i j b (ad i b q) (ad j b r)⟩
  rcases hg i e q with ⟨z, n⟩ | ⟨z, z2, n⟩
  · obtain ⟨o, ho, r⟩ := E.ent i e z
    refine ⟨o, ho, ?_⟩
    cases e with
    | no => trivial
    | is x => obtain ⟨v, e, r⟩ := r; exact ⟨v, e, Rp.mono up r⟩
    | own b xs => cases n
  · cases e with
    | no => exact absurd rfl n
    | is x => exact absurd rfl n
    | own b xs =>
      obtain ⟨o', _, rfl, r2, r3⟩ := E'.ent i _ z
      cases q1 : Γ[i]? with
      | none => rw [q1] at z2; cases z2
      | some e1 =>
        rw [q1] at z2
        have z2 : e1.adr = some b := z2
        obtain ⟨o, ho, r⟩ := E.ent i e1 q1
        cases e1 with
        | no => cases z2
        | is x => cases z2
        | own b' ys =>
          cases z2
          obtain ⟨rfl, _⟩ := r
          exact ⟨_, ho, rfl, r2, r3⟩
theorem start_env {K : PySem.W.Frag} {vs : List V} {F H : Hp} {N : List Str} (E : Env K Γ (vs.map some) F H) : Env K (Γ ++ List.replicate (N.length - Γ.length) .no) (L2.start N vs) F H := by
  have hl : vs.length = Γ.length := by simpa using E.len
  unfold L2.start
  rw [hl]
  have ad : ∀ (i : Nat) (a : Addr), ((Γ ++ List.replicate (N.length - Γ.length) Ent.no)[i]?.bind Ent.adr) = some a → (Γ[i]?.bind Ent.adr) = some a := fun i a q => by
    by_cases hi : i < Γ.length
    · rwa [List.getElem?_append_left hi] at q
    · rw [List.getElem?_append_right (by omega), List.getElem?_replicate] at q
      split at q <;> cases q
  refine ⟨E.le, by simp [hl], fun i e q => ?_, fun i j b q r => E.sep i j b (ad i b q) (ad j b r)⟩
  by_cases hi : i < Γ.length
  · rw [List.getElem?_append_left hi] at q
    obtain ⟨o, ho, r⟩ := E.ent i e q
    exact ⟨o, by rw [List.getElem?_append_left (by simpa [hl] using hi)]; exact ho, r⟩
  · rw [List.getElem?_append_right (by omega), List.getElem?_replicate] at q
    split at q
    · cases q
      rename_i z
      exact ⟨none, by rw [List.getElem?_append_right (by simp [hl]; omega), List.getElem?_replicate, if_pos (by simpa [hl] using z)], trivial⟩
    · cases q
theorem own_start {N : List Str} {a : Addr} (h : Own (Γ ++ List.replicate (N.length - Γ.length) .no) a) : Own Γ a := by
  obtain ⟨i, q⟩ := h
  refine ⟨i, ?_⟩
  by_cases hi : i < Γ.length
  · rwa [List.getElem?_append_left hi] at q
  · rw [List.getElem?_append_right (by omega), List.getElem?_replicate] at q
    split at q <;> cases q
/-- THE RULE for a def -/
theorem okD {P : Program} {w : World} {K : PySem.W.Frag} {mg : Str → Option Value} {base : Heap} {x qual : Str} {sst : Stmt} {f : Addr} {fd : FuncData} {N ps : List Str} {k : Nat} {m : Md} {R : DE → m.β → DE → Prop} (F : Fun K x qual sst f fd) (S : FnScope N ps (defScope sst))
    (hbody : ∀ (cdv : Value) (A : Around) (outer : List PySem.Env) (s : Shared) (H : Hp) (E : XK) (Γ : DE) (x : m.β) (Γ' : DE), Room k (A.deeper (envOfC qual (defScope sst) s.heap.objs.size f cdv)) → R Γ x Γ' → Γ.length = ps.length →
      SD (cxOf CX0 P w K mg base N qual (defScope sst) f cdv A outer s H E).nox m (Γ ++ List.replicate (N.length - Γ.length) .no) (defBody sst) { nx := fun Γ'' => (∀ F H F' H', m.ok K F H F' H' .non x) ∧ Fin Γ Γ' Γ'', rt := fun y Γ'' => y = x ∧ Fin Γ Γ' Γ'' }) :
    FnOk P w K mg base CX0 (k + 1) f fd ps (spM K m ps.length R) := by
  refine F.ok S (fun vs H Q E h => h.1) (fun cdv A outer s H vs Q E hr h => ⟨wS _ _, pS, ?_⟩)
  obtain ⟨hl, F0, Γ, y, Γ', hR, E0, q⟩ := h
  have hΓ : Γ.length = ps.length := by rw [← hl]; simpa using E0.len.symm
  refine hbody cdv A outer s H E Γ y Γ' hr hR hΓ (L2.start N vs) F0 H _ (start_env E0) ⟨fun Γ'' σ' F' H' h E' t => ?_, fun z Γ'' σ' F' H' v h E' t r => ?_, fun _ _ _ _ h => h.elim, fun _ _ _ _ h => h.elim⟩
  · exact q .non F' H' (h.2.env E0 E' t.st.up) (Step.refl.trans t.st fun p z => .inl (own_start z)) (h.1 _ _ _ _)
  · obtain ⟨rfl, h2⟩ := h
    exact q v F' H' (h2.env E0 E' t.st.up) (Step.refl.trans t.st fun p z => .inl (own_start z)) r

/-! ### arguments -/
structure AX (X : Cx) (Γ : DE) (es : List Expr) (ents : DE) (Γ' : DE) : Prop where
  sub : ∀ a, Own Γ' a → Own Γ a
  ow : ∀ (i : Nat) (a : Addr), (ents[i]?.bind Ent.adr) = some a → Own Γ' a
  run : ∀ σ F H (Q : List V → Hp → Prop), Env X.K Γ σ F H → (∀ vs F' H', Env X.K Γ' σ F' H' → Step (Own Γ) F H F' H' → EntsOk X.K F' H' vs ents → Q vs H') → wA X es σ H Q
theorem ax_nil : AX X Γ [] [] Γ := ⟨sub_refl, fun i a h => by simp at h, fun σ F H Q E q => wA.of pa_nil (q [] F H E Step.refl ⟨rfl, fun i e h => by simp at h⟩)⟩
theorem ax_cons {α : Type} [Rp α] {x : α} {es : List Expr} {ents : DE} (h : PX X (sh α) Γ e x Γ1) (t : AX X Γ1 es ents Γ2) (hs : starEach (e :: es) X.env = (false, eval e X.env) :: starEach es X.env := by rfl) : AX X Γ (e :: es) (.is x :: ents) Γ2 := by
  refine ⟨fun p q => h.sub p (t.sub p q), fun i a q => ?_, fun σ F H Q E q => wA.of (pa_cons pE pA hs) ?_⟩
  · cases i with
    | zero => simp [Ent.adr] at q
    | succ i => exact t.ow i a (by simpa using q)
  refine h.run σ F H _ E fun v F1 H1 E1 s1 r1 => t.run σ F1 H1 _ E1 fun vs F2 H2 E2 s2 r2 => q (v :: vs) F2 H2 E2 (s1.sub s2 h.sub) ⟨by simp [r2.1], fun i e q => ?_⟩
  cases i with
  | zero => simp at q; subst q; exact ⟨v, rfl, v, rfl, Rp.mono s2.up r1⟩
  | succ i => simpa using r2.2 i e (by simpa using q)
/-- a name whose list is lent -/
theorem ax_own {α : Type} [Rp α] {xs : List α} {ad : Addr} {es : List Expr} {ents : DE} (i : Nat) (t : AX X Γ es ents Γ2) (h : Γ2[i]? = some (.own ad xs) := by rfl) (hN : X.N[i]? = some nm := by rfl) (hv : Vis X.env.scope nm := by first | exact Or.inl rfl | exact Or.inr (Or.inl rfl) | exact Or.inr (Or.inr rfl))
    (h0 : (Γ[i]?.bind Ent.adr) = some ad := by rfl) (hd : (nm == ("__debug__" : Str)) = false := by decide) (hcd : (nm == ("__classdict__" : Str)) = false := by decide) (hs : starEach (.Name nm p :: es) X.env = (false, eval (.Name nm p) X.env) :: starEach es X.env := by rfl) : AX X Γ (.Name nm p :: es) (.own ad xs :: ents) Γ2 := by
  refine ⟨t.sub, fun j a q => ?_, fun σ F H Q E q => wA.of (pa_cons (pe_var hN hv hd hcd) pA hs) ?_⟩
  · cases j with
    | zero => exact ⟨i, by rw [h]; simpa using q⟩
    | succ j => exact t.ow j a (by simpa using q)
  cases q0 : Γ[i]? with
  | none => rw [q0] at h0; cases h0
  | some e0 =>
    rw [q0] at h0
    have h0 : e0.adr = some ad := h0
    obtain ⟨o, ho, r⟩ := E.ent i e0 q0
    cases e0 with
    | no => cases h0
    | is x => cases h0
    | own b ys =>
      cases h0
      obtain ⟨rfl, _⟩ := r
      refine ⟨_, ho, t.run σ F H _ E fun vs F2 H2 E2 s2 r2 => q (V.ref ad :: vs) F2 H2 E2 s2 ⟨by simp [r2.1], fun j e q => ?_⟩⟩
      cases j with
      | zero =>
        simp at q
        subst q
        obtain ⟨o2, ho2, r3⟩ := E2.ent i _ h
        rw [ho] at ho2
        cases ho2
        exact ⟨_, rfl, r3⟩
      | succ j => simpa using r2.2 j e (by simpa using q)
def IsOnly (es : DE) : Prop := (es.all fun e => e.adr.isNone) = true
theorem IsOnly.at {es : DE} (h : IsOnly es) : ∀ e ∈ es, e.adr = none := fun e m => by simpa using List.all_eq_true.mp h e m
theorem entsEnv {K : PySem.W.Frag} {F H : Hp} {vs : List V} {es : DE} (le : Same F H) (h : EntsOk K F H vs es) (sep : ∀ (i j : Nat) (a : Addr), (es[i]?.bind Ent.adr) = some a → (es[j]?.bind Ent.adr) = some a → i = j) : Env K es (vs.map some) F H := by
  refine ⟨le, by simpa using h.1, fun i e q => ?_, sep⟩
  obtain ⟨v, hv, r⟩ := h.2 i e q
  exact ⟨some v, by rw [List.getElem?_map, hv]; rfl, r⟩
/-- the default values that fill up -/
def DefOk (K : PySem.W.Frag) (dvs : List V) (ents : DE) : Prop := ∀ F H, EntsOk K F H dvs ents
theorem defOk_nil {K : PySem.W.Frag} : DefOk K [] [] := fun F H => ⟨rfl, fun i e h => by simp at h⟩
theorem defOk_cons {K : PySem.W.Frag} {α : Type} [Rp α] {v : V} {x : α} {vs : List V} {es : DE} (h : ∀ F, rp K F v x) (t : DefOk K vs es) : DefOk K (v :: vs) (.is x :: es) := fun F H => ⟨by simp [(t F H).1], fun i e q => by
  cases i with
  | zero => simp at q; subst q; exact ⟨v, rfl, v, rfl, h F⟩
  | succ i => simpa using (t F H).2 i e (by simpa using q)⟩
theorem entsOk_app {K : PySem.W.Frag} {F H : Hp} {vs ws : List V} {es fs : DE} (h : EntsOk K F H vs es) (g : EntsOk K F H ws fs) : EntsOk K F H (vs ++ ws) (es ++ fs) := by
  refine ⟨by simp [h.1, g.1], fun i e q => ?_⟩
  by_cases hi : i < es.length
  · rw [List.getElem?_append_left hi] at q
    obtain ⟨v, hv, r⟩ := h.2 i e q
    exact ⟨v, by rw [List.getElem?_append_left (by rw [h.1]; exact hi)]; exact hv, r⟩
  · rw [List.getElem?_append_right (by omega)] at q
    obtain ⟨v, hv, r⟩ := g.2 _ e q
    exact ⟨v, by rw [List.getElem?_append_right (by rw [h.1]; omega), h.1]; exact hv, r⟩
/-- behind a call that was lent nothing -/
theorem Env.after0 {K : PySem.W.Frag} {σ : L2.St} {F H F' H' : Hp} {O : Addr → Prop} (E : Env K Γ σ F H) (s : Step O F H F' H') (le : Same F' H') (h : ∀ a, ¬ O a) : Env K Γ σ F' H' := by
  refine ⟨le, E.len, fun i e q => ?_, E.sep⟩
  obtain ⟨o, ho, r⟩ := E.ent i e q
  refine ⟨o, ho, ?_⟩
  cases e with
  | no => trivial
  | is x => obtain ⟨v, e, r⟩ := r; exact ⟨v, e, Rp.mono s.up r⟩
  | own b xs =>
    obtain ⟨e1, e2, vs, e3, r⟩ := r
    refine ⟨e1, ?_, vs, s.keep _ _ e3 (h b), r.mono s.up⟩
    cases z : F' b with
    | none => rfl
    | some o =>
      rcases s.fresh b e2 (by rw [z]; exact fun z => nomatch z) with z | z
      · rw [e3] at z; cases z
      · exact absurd z (h b)
/-- a call that changes nothing of ours -/
theorem px_call {CX : CXT} {k : Nat} {f : Addr} {fd : FuncData} {ps : List Str} {ds : List Value} {dvs : List V} {dents ents : DE} {m1 : Md} {R : DE → m1.β → DE → Prop} {x : m1.β} {Γc : DE} {es : List Expr} {E : XK}
    (Gf : FnOk X.prog X.w X.K X.mg X.base CX k f fd ps (spM X.K m1 ps.length R)) (hr : Room k X.A) (hm : X.mg nm = some (.ref f)) (hk : PySem.W.keepIn X.K (.ref f) = true) (hb : Binds X.K fd ps ds) (hd : Vals dvs ds) (hdo : DefOk X.K dvs dents) (hx : Passes CX X E)
    (ha : AX X Γ (e :: es) ents Γ1) (hR : R (ents ++ dents) x Γc) (hn : (ents ++ dents).length = ps.length := by rfl) (hi : IsOnly (ents ++ dents) := by rfl) (hg : Gl X nm := by rfl)
    (hdb : (nm == ("__debug__" : Str)) = false := by decide) (he : starEach (e :: es) X.env = (false, eval e X.env) :: starEach es X.env := by rfl) (hpl : (backTo pos (starEach es X.env)).any (·.1) = false := by rfl) :
    PX X m1 Γ (.Call (.Name nm p) (e :: es) [] pos) x Γ1 := by
  have no : ∀ (i : Nat) (a : Addr), ((ents ++ dents)[i]?.bind Ent.adr) = some a → False := fun i a q => by
    cases z : (ents ++ dents)[i]? with
    | none => rw [z] at q; cases q
    | some e =>
      rw [z] at q
      have q : e.adr = some a := q
      rw [hi.at e (List.mem_of_getElem? z)] at q
      cases q
  refine ⟨ha.sub, fun σ F H Q E0 q => wE.of (pe_call Gf hr hg hm hk hb hd hx pA hdb he hpl) ?_⟩
  refine ha.run σ F H _ E0 fun vs F1 H1 E1 s1 r1 => ?_
  have ok := entsOk_app r1 (hdo F1 H1)
  refine ⟨by rw [ok.1, hn], F1, _, x, Γc, hR, entsEnv E1.le ok (fun i j a q _ => (no i a q).elim), fun v F' H' E' s r => ?_⟩
  have on : ∀ a, ¬ Own (ents ++ dents) a := fun a ⟨i, z⟩ => no i a z
  refine q v F' H' (E1.after0 s E'.le on) (s1.sub (s.sub Step.refl (fun p h => h)) fun p z => absurd z (on p)) (m1.pre s1.there r)
/-- the first argument is a name whose list is lent; the callee may change it -/
theorem px_callO {CX : CXT} {k : Nat} {f : Addr} {fd : FuncData} {ps : List Str} {ds : List Value} {dvs : List V} {dents ents : DE} {m1 : Md} {R : DE → m1.β → DE → Prop} {x : m1.β} {Γc : DE} {es : List Expr} {E : XK} {α : Type} [Rp α] {ad : Addr} {xs ys : List α} (i : Nat)
    (Gf : FnOk X.prog X.w X.K X.mg X.base CX k f fd ps (spM X.K m1 ps.length R)) (hr : Room k X.A) (hm : X.mg nm = some (.ref f)) (hk : PySem.W.keepIn X.K (.ref f) = true) (hb : Binds X.K fd ps ds) (hd : Vals dvs ds) (hdo : DefOk X.K dvs dents) (hx : Passes CX X E)
    (ha : AX X Γ (e :: es) (.own ad xs :: ents) Γ1) (h1 : Γ1[i]? = some (.own ad xs)) (hR : R (.own ad xs :: ents ++ dents) x (.own ad ys :: Γc)) (hn : (Ent.own ad xs :: ents ++ dents).length = ps.length := by rfl) (hi : IsOnly (ents ++ dents) := by rfl) (hg : Gl X nm := by rfl)
    (hdb : (nm == ("__debug__" : Str)) = false := by decide) (he : starEach (e :: es) X.env = (false, eval e X.env) :: starEach es X.env := by rfl) (hpl : (backTo pos (starEach es X.env)).any (·.1) = false := by rfl) :
    PX X m1 Γ (.Call (.Name nm p) (e :: es) [] pos) x (Γ1.set i (.own ad ys)) := by
  have no : ∀ (j : Nat) (a : Addr), ((Ent.own ad xs :: ents ++ dents)[j]?.bind Ent.adr) = some a → j = 0 ∧ a = ad := fun j a q => by
    cases j with
    | zero => exact ⟨rfl, (by simpa [Ent.adr] using q.symm)⟩
    | succ j =>
      have q : ((ents ++ dents)[j]?.bind Ent.adr) = some a := by simpa using q
      cases z : (ents ++ dents)[j]? with
      | none => rw [z] at q; cases q
      | some e =>
        rw [z] at q
        have q : e.adr = some a := q
        rw [hi.at e (List.mem_of_getElem? z)] at q
        cases q
  have o1 : Own Γ1 ad := ⟨i, by rw [h1]; rfl⟩
  have sub1 : ∀ a, Own (Γ1.set i (.own ad ys)) a → Own Γ1 a := fun a q => by
    rcases own_set_own q with rfl | q
    · exact o1
    · exact q
  refine ⟨fun a q => ha.sub a (sub1 a q), fun σ F H Q E0 q => wE.of (pe_call Gf hr hg hm hk hb hd hx pA hdb he hpl) ?_⟩
  refine ha.run σ F H _ E0 fun vs F1 H1 E1 s1 r1 => ?_
  have ok := entsOk_app r1 (hdo F1 H1)
  refine ⟨by rw [ok.1]; exact hn, F1, _, x, _, hR, entsEnv E1.le ok (fun j k a q r => by rw [(no j a q).1, (no k a r).1]), fun v F' H' E' s r => ?_⟩
  have on : ∀ a, Own (Ent.own ad xs :: ents ++ dents) a → a = ad := fun a ⟨j, z⟩ => (no j a z).2
  obtain ⟨o', ho', e1', e2', ws, e3', r'⟩ := E'.ent 0 (.own ad ys) rfl
  refine q v F' H' ⟨E'.le, by simpa using E1.len, fun j e q => ?_, fun j k b q q' => ?_⟩ (s1.sub s fun p z => ?_) (m1.pre s1.there r)
  · rcases get_set q with ⟨rfl, rfl, hi⟩ | ⟨n, q'⟩
    · obtain ⟨o, ho, e1, _⟩ := E1.ent j _ h1
      exact ⟨o, ho, e1, e2', ws, e3', r'⟩
    · obtain ⟨o, ho, r⟩ := E1.ent j e q'
      refine ⟨o, ho, ?_⟩
      cases e with
      | no => trivial
      | is x => obtain ⟨v, e, r⟩ := r; exact ⟨v, e, Rp.mono s.up r⟩
      | own b zs =>
        obtain ⟨e1, e2, us, e3, r⟩ := r
        have nb : b ≠ ad := fun z => n (E1.sep j i ad (by rw [q']; exact congrArg some z) (by rw [h1]; rfl))
        have nob : ¬ Own (Ent.own ad xs :: ents ++ dents) b := fun z => nb (on b z)
        refine ⟨e1, ?_, us, s.keep _ _ e3 nob, r.mono s.up⟩
        cases z : F' b with
        | none => rfl
        | some o =>
          rcases s.fresh b e2 (by rw [z]; exact fun z => nomatch z) with z | z
          · rw [e3] at z; cases z
          · exact absurd z nob
  · rcases adr_set q with ⟨a1, z⟩ | ⟨n, z⟩ <;> rcases adr_set q' with ⟨a2, z'⟩ | ⟨n', z'⟩
    · rw [a1, a2]
    · have e : ad = b := Option.some.inj z
      exact absurd (E1.sep k i ad (e ▸ z') (by rw [h1]; rfl)) n'
    · have e : ad = b := Option.some.inj z'
      exact absurd (E1.sep j i ad (e ▸ z) (by rw [h1]; rfl)) n
    · exact E1.sep j k b z z'
  · rw [on p z]; exact ha.sub ad o1
end
end G
namespace G
open PySem PySem.Spec PyProof.Rows L2
open Rp (rp)

/-! ### places in typed lists -/
theorem RpL.get {α : Type} [Rp α] {K : PySem.W.Frag} {F : Hp} : ∀ {vs : List V} {xs : List α} {i : Nat} {x : α}, RpL K F vs xs → xs[i]? = some x → ∃ v, vs[i]? = some v ∧ rp K F v x
  | _, _, _, _, .nil, h => by simp at h
  | _, _, 0, _, .cons r _, h => by simp at h; subst h; exact ⟨_, rfl, r⟩
  | _, _, i + 1, _, .cons _ t, h => by simpa using RpL.get t (by simpa using h)
theorem RpL.take {α : Type} [Rp α] {K : PySem.W.Frag} {F : Hp} : ∀ {vs : List V} {xs : List α} (n : Nat), RpL K F vs xs → RpL K F (vs.take n) (xs.take n)
  | _, _, 0, _ => .nil
  | _, _, _ + 1, .nil => .nil
  | _, _, n + 1, .cons r t => .cons r (RpL.take n t)
theorem RpL.drop {α : Type} [Rp α] {K : PySem.W.Frag} {F : Hp} : ∀ {vs : List V} {xs : List α} (n : Nat), RpL K F vs xs → RpL K F (vs.drop n) (xs.drop n)
  | _, _, 0, r => r
  | _, _, _ + 1, .nil => .nil
  | _, _, n + 1, .cons _ t => RpL.drop n t
theorem RpL.set {α : Type} [Rp α] {K : PySem.W.Frag} {F : Hp} {v : V} {x : α} (r : rp K F v x) : ∀ {vs : List V} {xs : List α} (n : Nat), RpL K F vs xs → RpL K F (vs.set n v) (xs.set n x)
  | _, _, _, .nil => .nil
  | _, _, 0, .cons _ t => .cons r t
  | _, _, n + 1, .cons q t => .cons q (RpL.set r n t)
theorem RpL.snoc {α : Type} [Rp α] {K : PySem.W.Frag} {F : Hp} {v : V} {x : α} {vs : List V} {xs : List α} (h : RpL K F vs xs) (r : rp K F v x) : RpL K F (vs ++ [v]) (xs ++ [x]) := pair_append h (.cons r .nil)
theorem RpL.ints {K : PySem.W.Frag} {F : Hp} : ∀ {vs : List V} {xs : List Int}, RpL K F vs xs → vs = xs.map V.int
  | _, _, .nil => rfl
  | _, _, .cons r t => by rw [List.map_cons, ← RpL.ints t, show _ = V.int _ from r]
theorem RpL.strs {K : PySem.W.Frag} {F : Hp} : ∀ {vs : List V} {xs : List Str}, RpL K F vs xs → vs = xs.map V.str
  | _, _, .nil => rfl
  | _, _, .cons r t => by rw [List.map_cons, ← RpL.strs t, show _ = V.str _ from r]
theorem RpL.bls {K : PySem.W.Frag} {F : Hp} : ∀ {vs : List V} {xs : List Bool}, RpL K F vs xs → vs = xs.map V.bl
  | _, _, .nil => rfl
  | _, _, .cons r t => by rw [List.map_cons, ← RpL.bls t, show _ = V.bl _ from r]
theorem atI_at {α β : Type} {R : α → β → Prop} {vs : List α} {xs : List β} (h : Paired R vs xs) {i : Int} {x : β} (g : ∀ {j : Nat}, xs[j]? = some x → ∃ v, vs[j]? = some v ∧ R v x) (e : atI xs i = some x) : ∃ v, atI vs i = some v ∧ R v x := by
  unfold atI at e ⊢
  rw [h.length]
  cases q : ixN xs.length i with
  | none => rw [q] at e; cases e
  | some j => rw [q] at e; exact g e

section
variable {X : Cx} {m : Md} {Γ Γ1 Γ2 Γ3 : DE} {st : List Stmt} {s : Stmt} {rest body : List Stmt} {D : Ax m} {e a b c tg iter elt : Expr} {es : List Expr} {pos p p2 : Pos} {nm : Str}

/-! ### targets -/
def wG (X : Cx) (tg : Expr) : TG := fun v σ H Q => ∀ pins s u, Inv X pins σ H s → RelV v u → wpAny (model X.prog X.w) X.A (assign tg X.env u) (fun _ s' => ∃ σ' H', Inv X pins σ' H' s' ∧ Q σ' H') X.xe s
theorem pG : PG X tg (wG X tg) := ⟨fun pins s _ _ _ u _ I r h => h pins s u I r⟩
theorem wG.of {t : TG} {v : V} {σ : L2.St} {H : Hp} {Q} (h : PG X tg t) (q : t v σ H Q) : wG X tg v σ H Q := fun pins s u I r => h.run pins s σ H v u Q I r q
structure GX (X : Cx) (tg : Expr) {α : Type} [Rp α] (x : α) (ts : List Nat) (Γ Γ' : DE) : Prop where
  sub : ∀ a, Own Γ' a → Own Γ a
  run : ∀ σ F H v (Q : L2.St → Hp → Prop), Env X.K Γ σ F H → rp X.K F v x → (∀ σ', Env X.K Γ' σ' F H → (σ'.length = σ.length ∧ ∀ i, i ∉ ts → σ'[i]? = σ[i]?) → Q σ' H) → wG X tg v σ H Q
theorem gx_name {α : Type} [Rp α] {x : α} (i : Nat) (hN : X.N.Nodup) (hi : X.N[i]? = some nm := by rfl) (hx : Loc X.env.scope nm := by first | exact Or.inl rfl | exact Or.inr rfl) (hf : X.fn nm = true ∨ X.env.scope.names.lookup nm = some .local := by first | exact .inl rfl | exact .inr rfl) :
    GX X (.Name nm pos) x [i] Γ (Γ.set i (.is x)) :=
  ⟨fun a h => own_set_is h, fun σ F H v Q E r q => wG.of (pg_name hN hi hx hf) (q _ (E.set_is r) ⟨by simp, fun j hj => by
    rw [List.getElem?_set_ne (fun z => hj (by simp [z]))]⟩)⟩
theorem gx_t2 {α β : Type} [Rp α] [Rp β] {x : α × β} {t1 t2 : Expr} {k} {l1 l2 : List Nat} (h1 : GX X t1 x.1 l1 Γ Γ1) (h2 : GX X t2 x.2 l2 Γ1 Γ2) (hc : X.calm = true := by rfl)
    (hp : PGs X [t1, t2] (gCons (wG X t1) (gCons (wG X t2) gNil)) := by exact pgs_cons pG (pgs_cons pG pgs_nil)) (hn : (assignEach [t1, t2] X.env).length = 2 := by rfl) (hst : (assignEach [t1, t2] X.env).findIdx? (·.1) = none := by rfl) :
    GX X (.Tuple [t1, t2] k pos) x (l1 ++ l2) Γ Γ2 := by
  refine ⟨fun a h => h1.sub a (h2.sub a h), fun σ F H v Q E ⟨a, v1, v2, e, t, r1, r2⟩ q => wG.of (pg_tup hc hp hn hst) ⟨a, [v1, v2], e, .inl (.inl (E.le _ _ t)), rfl, v1, [v2], rfl, ?_⟩⟩
  refine h1.run σ F H v1 _ E r1 fun σ1 E1 g1 => ⟨v2, [], rfl, h2.run σ1 F H v2 _ E1 r2 fun σ2 E2 g2 => ⟨rfl, q σ2 E2 ⟨g2.1.trans g1.1, fun i hi => ?_⟩⟩⟩
  rw [g2.2 i (fun z => hi (List.mem_append_right _ z)), g1.2 i (fun z => hi (List.mem_append_left _ z))]
theorem gx_t3 {α β γ : Type} [Rp α] [Rp β] [Rp γ] {x : T3 α β γ} {t1 t2 t3 : Expr} {k} {l1 l2 l3 : List Nat} (h1 : GX X t1 x.a l1 Γ Γ1) (h2 : GX X t2 x.b l2 Γ1 Γ2) (h3 : GX X t3 x.c l3 Γ2 Γ3) (hc : X.calm = true := by rfl)
    (hp : PGs X [t1, t2, t3] (gCons (wG X t1) (gCons (wG X t2) (gCons (wG X t3) gNil))) := by exact pgs_cons pG (pgs_cons pG (pgs_cons pG pgs_nil))) (hn : (assignEach [t1, t2, t3] X.env).length = 3 := by rfl) (hst : (assignEach [t1, t2, t3] X.env).findIdx? (·.1) = none := by rfl) :
    GX X (.Tuple [t1, t2, t3] k pos) x (l1 ++ l2 ++ l3) Γ Γ3 := by
  refine ⟨fun a h => h1.sub a (h2.sub a (h3.sub a h)), fun σ F H v Q E ⟨a, v1, v2, v3, e, t, r1, r2, r3⟩ q => wG.of (pg_tup hc hp hn hst) ⟨a, [v1, v2, v3], e, .inl (.inl (E.le _ _ t)), rfl, v1, [v2, v3], rfl, ?_⟩⟩
  refine h1.run σ F H v1 _ E r1 fun σ1 E1 g1 => ⟨v2, [v3], rfl, h2.run σ1 F H v2 _ E1 r2 fun σ2 E2 g2 => ⟨v3, [], rfl, h3.run σ2 F H v3 _ E2 r3 fun σ3 E3 g3 => ⟨rfl, q σ3 E3 ⟨(g3.1.trans g2.1).trans g1.1, fun i hi => ?_⟩⟩⟩⟩
  rw [g3.2 i (fun z => hi (List.mem_append_right _ z)), g2.2 i (fun z => hi (List.mem_append_left _ (List.mem_append_right _ z))), g1.2 i (fun z => hi (List.mem_append_left _ (List.mem_append_left _ z)))]
/-- target = e, the target a tuple -/
theorem sd_asg {α : Type} [Rp α] {x : α} {ts : List Nat} (h : PX X (sh α) Γ e x Γ1) (g : GX X tg x ts Γ1 Γ2) (k : SD X m Γ2 rest D) (hs : swapsWithSole [tg] e pos.line X.env = pure false := by rfl) (hw : swappedStores [tg] e X.env = pure none := by rfl)
    (h1 : (assignEach [tg] X.env).map (·.2) = [assign tg X.env] := by rfl) : SD X m Γ (.Assign [tg] e pos :: rest) D :=
  sd_c1 (fun σ F H D' E L => wS1.of (ps_asg pE pG hs hw h1) (h.run σ F H _ E fun v F' H' E' s r => g.run σ F' H' v _ E' r fun σ' E2 _ =>
    L.nx Γ2 σ' F' H' rfl E2 ⟨s, fun a q => .inl (h.sub a (g.sub a q))⟩)) k

/-! ### what is walked -/
structure Walks (K : PySem.W.Frag) (J : It) {α : Type} [Rp α] (F : Hp) (xs : List α) : Prop where
  go : ∀ i F' H, Same F F' → Same F' H → i < xs.length → J.go i H
  yld : ∀ i F' H v H' x, Same F F' → Same F' H → xs[i]? = some x → J.yld i H v H' → ∃ F2, Step (fun _ => False) F' H F2 H' ∧ Same F2 H' ∧ rp K F2 v x
  stop : ∀ i F' H, Same F F' → Same F' H → xs.length ≤ i → J.stop i H
structure IX (X : Cx) (Γ : DE) (tg e : Expr) {α : Type} [Rp α] (xs : List α) (Γ' : DE) : Prop where
  sub : ∀ a, Own Γ' a → Own Γ a
  run : ∀ σ F H (R : It → Hp → Prop), Env X.K Γ σ F H → (∀ J F' H', Env X.K Γ' σ F' H' → Step (Own Γ) F H F' H' → Walks X.K J F' xs → R J H') → wI X tg e σ H R
theorem Step.stay {O : Addr → Prop} {F H : Hp} : Step O F H F H := Step.refl
theorem walks_list {K : PySem.W.Frag} {α : Type} [Rp α] {F : Hp} {a : Addr} {vs : List V} {xs : List α} (h : SqL K F a vs) (r : RpL K F vs xs) (inj : ∀ (H : Hp) ys, Same F H → SqL K H a ys → ys = vs) : Walks K (Itl K a) F xs := by
  refine ⟨fun i F' H h1 h2 hi => ?_, fun i F' H v H' x h1 h2 hx ⟨e1, e2⟩ => ?_, fun i F' H h1 h2 hi => ⟨vs, (h1.trans h2).seq h, by rw [r.length]; exact hi⟩⟩
  · obtain ⟨v, hv, _⟩ := r.get (x := xs[i]) (List.getElem?_eq_getElem hi)
    exact ⟨vs, v, (h1.trans h2).seq h, hv⟩
  · subst e1
    obtain ⟨v', hv, q⟩ := r.get hx
    have := (e2 vs ((h1.trans h2).seq h)).symm.trans hv
    cases this
    exact ⟨F', Step.refl, h2, Rp.mono h1 q⟩
theorem it_list {α : Type} [Rp α] {xs : List α} (h : PX X (sh (List α)) Γ e xs Γ1) : IX X Γ tg e xs Γ1 :=
  ⟨h.sub, fun σ F H R E q => wI.of (pi_list pE) (h.run σ F H _ E fun v F' H' E' s ⟨a, vs, ev, t, r⟩ => ⟨a, ev, ⟨vs, .inl (.inl (E'.le _ _ t))⟩, q _ F' H' E' s (by
    refine ⟨fun i F2 H2 h1 h2 hi => ?_, fun i F2 H2 v H3 x h1 h2 hx ⟨e1, e2⟩ => ?_, fun i F2 H2 h1 h2 hi => ⟨vs, .inl (.inl (h2 _ _ (h1 _ _ t))), by rw [r.length]; exact hi⟩⟩
    · obtain ⟨v, hv, _⟩ := r.get (x := xs[i]) (List.getElem?_eq_getElem hi)
      exact ⟨vs, v, .inl (.inl (h2 _ _ (h1 _ _ t))), hv⟩
    · subst e1
      obtain ⟨v', hv, q⟩ := r.get hx
      have := (e2 vs (.inl (.inl (h2 _ _ (h1 _ _ t))))).symm.trans hv
      cases this
      exact ⟨F2, Step.refl, h2, Rp.mono h1 q⟩)⟩)⟩
theorem it_scr {α : Type} [Rp α] {xs : Scr α} (h : PX X (sh (Scr α)) Γ e xs Γ1) : IX X Γ tg e xs.l Γ1 :=
  ⟨h.sub, fun σ F H R E q => wI.of (pi_list pE) (h.run σ F H _ E fun v F' H' E' s ⟨a, vs, ev, t, r⟩ => ⟨a, ev, ⟨vs, E'.le.seq t⟩, q _ F' H' E' s (by
    refine ⟨fun i F2 H2 h1 h2 hi => ?_, fun i F2 H2 v H3 x h1 h2 hx ⟨e1, e2⟩ => ?_, fun i F2 H2 h1 h2 hi => ⟨vs, (h1.trans h2).seq t, by rw [r.length]; exact hi⟩⟩
    · obtain ⟨v, hv, _⟩ := r.get (x := xs.l[i]) (List.getElem?_eq_getElem hi)
      exact ⟨vs, v, (h1.trans h2).seq t, hv⟩
    · subst e1
      obtain ⟨v', hv, q⟩ := r.get hx
      have := (e2 vs ((h1.trans h2).seq t)).symm.trans hv
      cases this
      exact ⟨F2, Step.refl, h2, Rp.mono h1 q⟩)⟩)⟩
theorem it_tup {α : Type} [Rp α] {xs : Tup α} (h : PX X (sh (Tup α)) Γ e xs Γ1) : IX X Γ tg e xs.l Γ1 :=
  ⟨h.sub, fun σ F H R E q => wI.of (pi_tup pE) (h.run σ F H _ E fun v F' H' E' s ⟨a, vs, ev, t, r⟩ => ⟨a, ev, ⟨vs, .inl (.inl (E'.le _ _ t))⟩, q _ F' H' E' s (by
    refine ⟨fun i F2 H2 h1 h2 hi => ?_, fun i F2 H2 v H3 x h1 h2 hx ⟨e1, e2⟩ => ?_, fun i F2 H2 h1 h2 hi => ⟨vs, .inl (.inl (h2 _ _ (h1 _ _ t))), by rw [r.length]; exact hi⟩⟩
    · obtain ⟨v, hv, _⟩ := r.get (x := xs.l[i]) (List.getElem?_eq_getElem hi)
      exact ⟨vs, v, .inl (.inl (h2 _ _ (h1 _ _ t))), hv⟩
    · subst e1
      obtain ⟨v', hv, q⟩ := r.get hx
      have := (e2 vs (.inl (.inl (h2 _ _ (h1 _ _ t))))).symm.trans hv
      cases this
      exact ⟨F2, Step.refl, h2, Rp.mono h1 q⟩)⟩)⟩
/-- lo, lo + 1, .. (n of them) -/
def rng (lo : Int) (n : Nat) : List Int := (List.range n).map fun (i : Nat) => lo + (i : Int)
theorem rng_len {lo : Int} {n : Nat} : (rng lo n).length = n := by simp [rng]
theorem rng_get {lo : Int} {n i : Nat} {x : Int} (h : (rng lo n)[i]? = some x) : i < n ∧ x = lo + i := by
  have hi : i < n := by rw [← rng_len (lo := lo) (n := n)]; exact (List.getElem?_eq_some_iff.mp h).1
  unfold rng at h
  rw [List.getElem?_map, List.getElem?_range hi] at h
  exact ⟨hi, by simpa using h.symm⟩
theorem rng_mem {lo : Int} {n : Nat} {x : Int} (h : x ∈ rng lo n) : lo ≤ x ∧ x < lo + n := by
  unfold rng at h
  obtain ⟨i, hi, rfl⟩ := List.mem_map.mp h
  have := List.mem_range.mp hi
  omega
theorem walks_rng {K : PySem.W.Frag} {F : Hp} {lo : Int} {n : Nat} : Walks K (Itr lo n) F (rng lo n) := by
  refine ⟨fun i F' H h1 h2 hi => by rw [rng_len] at hi; exact hi, fun i F' H v H' x h1 h2 hx ⟨e1, e2⟩ => ?_, fun i F' H h1 h2 hi => by rw [rng_len] at hi; exact hi⟩
  subst e1 e2
  exact ⟨F', Step.refl, h2, by rw [(rng_get hx).2]; rfl⟩
theorem it_range1 {n : Int} (hm : X.mg "range" = none) (h : PX X (sh Int) Γ e n Γ1) (h1 : -(2 ^ 62) ≤ n) (h2 : n < 2 ^ 62) (hg : Gl X "range" := by rfl) (hs : starEach [e] X.env = [(false, eval e X.env)] := by rfl) (hp : PA X [e] (tCons (wE X e) tNil) := by exact pa_cons pE pa_nil) :
    IX X Γ tg (.Call (.Name "range" p) [e] [] pos) (rng 0 n.toNat) Γ1 :=
  ⟨h.sub, fun σ F H R E q => wI.of (pi_range1 hg hm hp hs) (h.run σ F H _ E fun v F' H' E' s r => ⟨n, by rw [show v = V.int n from r], h1, h2, q _ F' H' E' s walks_rng⟩)⟩
theorem it_range2 {n k : Int} (hm : X.mg "range" = none) (h : PX X (sh Int) Γ a n Γ1) (h' : PX X (sh Int) Γ1 b k Γ2) (h1 : -(2 ^ 62) ≤ n ∧ n < 2 ^ 62 ∧ -(2 ^ 62) ≤ k ∧ k < 2 ^ 62) (hg : Gl X "range" := by rfl) (hs : starEach [a, b] X.env = [(false, eval a X.env), (false, eval b X.env)] := by rfl) (hs2 : starEach [b] X.env = [(false, eval b X.env)] := by rfl) (hp : PA X [a, b] (tCons (wE X a) (tCons (wE X b) tNil)) := by exact pa_cons pE (pa_cons pE pa_nil)) :
    IX X Γ tg (.Call (.Name "range" p) [a, b] [] pos) (rng n (k - n).toNat) Γ2 :=
  ⟨fun p q => h.sub p (h'.sub p q), fun σ F H R E q => wI.of (pi_range2 hg hm hp hs hs2) (h.run σ F H _ E fun v F' H' E' s r => h'.run σ F' H' _ E' fun w F2 H2 E2 s2 r2 => ⟨n, k, by rw [show v = V.int n from r, show w = V.int k from r2], h1, q _ F2 H2 E2 (s.sub s2 h.sub) walks_rng⟩)⟩

theorem IX.wk {α : Type} [Rp α] {xs : List α} (h : IX X Γ tg e xs Γ1) (w : Wk Γ1 Γ2) : IX X Γ tg e xs Γ2 :=
  ⟨fun a q => h.sub a (w.own a q), fun σ F H R E q => h.run σ F H R E fun J F' H' E' s W => q J F' H' (E'.wk w) s W⟩
/-! ### for -/
theorem sd_for {α : Type} [Rp α] {xs : List α} {N : DE → Prop} {ts : List Nat} (hI : IX X Γ tg iter xs Γ1) (I : Nat → DE → Prop) (h0 : I 0 Γ1)
    (hs : ∀ i x Γ', xs[i]? = some x → I i Γ' → ∃ Γ2, GX X tg x ts Γ' Γ2 ∧ SD X m Γ2 body { nx := fun Γ'' => ∃ Γ3, Wk Γ'' Γ3 ∧ I (i + 1) Γ3, rt := D.rt, bk := N, ct := fun Γ'' => ∃ Γ3, Wk Γ'' Γ3 ∧ I (i + 1) Γ3 })
    (hd : ∀ Γ', I xs.length Γ' → N Γ') (k : ∀ Γ', N Γ' → SD X m Γ' rest D) (hc : X.calm = true := by rfl) (hp : PassesOwn (model X.prog X.w) X.A X.env X.xe := by exact PassesOwn.never) (hf : ∀ x, foldedSetIterable iter X.env x = pure x := by intro _; rfl) :
    SD X m Γ (.For tg iter body [] pos :: rest) D := by
  refine sd_cons (N := N) ?_ k
  intro σ F H D' E L
  refine wS1.of (ps_for hp hc pI pG pS hf) (hI.run σ F H _ E fun J F1 H1 E1 s1 W => ?_)
  refine ⟨fun i mm σ' H' => mm = xs.length - i ∧ i ≤ xs.length ∧ ∃ Γ' F', I i Γ' ∧ Env X.K Γ' σ' F' H' ∧ Stp Γ F H Γ' F' H' ∧ Same F1 F', ⟨xs.length, by simp, Nat.zero_le _, Γ1, F1, h0, E1, ⟨s1, fun a q => .inl (hI.sub a q)⟩, Same.refl _⟩, ?_⟩
  rintro i mm σ' H' ⟨rfl, hi, Γ', F', hi', E', t, up⟩
  by_cases hlt : i < xs.length
  · refine .inr ⟨W.go i F' H' up E'.le hlt, fun σ2 H2 => ∃ Γ3 F3, I (i + 1) Γ3 ∧ Env X.K Γ3 σ2 F3 H2 ∧ Stp Γ F H Γ3 F3 H2 ∧ Same F1 F3, fun σ2 H2 ⟨Γ3, F3, h3, E3, t3, u3⟩ => ⟨xs.length - (i + 1), by omega, rfl, hlt, Γ3, F3, h3, E3, t3, u3⟩, fun v H2 y => ?_⟩
    obtain ⟨F2, s2, le2, r2⟩ := W.yld i F' H' v H2 xs[i] up E'.le (List.getElem?_eq_getElem hlt) y
    have E2 : Env X.K Γ' σ' F2 H2 := E'.after0 s2 le2 fun _ z => z
    have t2 : Stp Γ' F' H' Γ' F2 H2 := ⟨Step.refl.trans s2 fun _ z => z.elim, fun a q => .inl q⟩
    obtain ⟨Γ2, g, B⟩ := hs i xs[i] Γ' (List.getElem?_eq_getElem hlt) hi'
    refine g.run σ' F2 H2 v _ E2 r2 fun σ3 E3 _ => B σ3 F2 H2 _ E3 ?_
    have t3 : Stp Γ F H Γ2 F2 H2 := t.trans (t2.trans ⟨Step.refl, fun a q => .inl (g.sub a q)⟩)
    refine ⟨fun Γ4 σ4 F4 H4 ⟨Γ5, w, h5⟩ E4 t4 => ?_, fun x Γ4 σ4 F4 H4 v h E4 t4 r => L.rt x Γ4 σ4 F4 H4 v h E4 (t3.trans t4) (m.pre t3.st.there r), fun Γ4 σ4 F4 H4 h E4 t4 => L.nx Γ4 σ4 F4 H4 h E4 (t3.trans t4), fun Γ4 σ4 F4 H4 ⟨Γ5, w, h5⟩ E4 t4 => ?_⟩
    · exact ⟨Γ5, F4, h5, E4.wk w, (t3.trans t4).wk w, (up.trans s2.up).trans t4.st.up⟩
    · exact ⟨Γ5, F4, h5, E4.wk w, (t3.trans t4).wk w, (up.trans s2.up).trans t4.st.up⟩
  · have e : i = xs.length := by omega
    subst e
    exact .inl ⟨W.stop _ F' H' up E'.le (Nat.le_refl _), L.nx Γ' σ' F' H' (hd Γ' hi') E' t⟩
/-- a for that folds a state, with what holds of it -/
theorem sd_foldP {α S : Type} [Rp α] {xs : List α} {ts : List Nat} (hI : IX X Γ tg iter xs Γ1) (Γs : S → DE) (f : S → α → S) (s0 : S) (Pp : S → Prop) (h0 : Wk Γ1 (Γs s0)) (p0 : Pp s0)
    (hs : ∀ s x, x ∈ xs → Pp s → ∃ Γ2, GX X tg x ts (Γs s) Γ2 ∧ Pp (f s x) ∧ SD X m Γ2 body { nx := fun Γ'' => Wk Γ'' (Γs (f s x)), rt := D.rt, bk := fun _ => False, ct := fun Γ'' => Wk Γ'' (Γs (f s x)) })
    (k : Pp (xs.foldl f s0) → SD X m (Γs (xs.foldl f s0)) rest D) (hc : X.calm = true := by rfl) (hp : PassesOwn (model X.prog X.w) X.A X.env X.xe := by exact PassesOwn.never) (hf : ∀ x, foldedSetIterable iter X.env x = pure x := by intro _; rfl) :
    SD X m Γ (.For tg iter body [] pos :: rest) D := by
  refine sd_for (N := fun Γ' => Γ' = Γs (xs.foldl f s0) ∧ Pp (xs.foldl f s0)) (ts := ts) (hI.wk h0) (fun i Γ' => Γ' = Γs ((xs.take i).foldl f s0) ∧ Pp ((xs.take i).foldl f s0)) ⟨rfl, p0⟩ (fun i x Γ' hx ⟨e, pe⟩ => ?_) (fun Γ' ⟨e, pe⟩ => ⟨by rw [e, List.take_length], by rw [← List.take_length (l := xs)]; exact pe⟩) (fun Γ' ⟨e, pe⟩ => e ▸ k pe) hc hp hf
  subst e
  have hm := List.mem_of_getElem? hx
  have e1 : (xs.take (i + 1)).foldl f s0 = f ((xs.take i).foldl f s0) x := by rw [List.take_add_one, hx, List.foldl_append]; rfl
  obtain ⟨Γ2, g, p2, B⟩ := hs ((xs.take i).foldl f s0) x hm pe
  exact ⟨Γ2, g, sd_mono B (fun Γ' w => ⟨_, w, by rw [e1], by rw [e1]; exact p2⟩) (fun _ _ z => z) (fun _ z => z.elim) fun Γ' w => ⟨_, w, by rw [e1], by rw [e1]; exact p2⟩⟩
/-- a for that folds a state -/
theorem sd_fold {α S : Type} [Rp α] {xs : List α} {ts : List Nat} (hI : IX X Γ tg iter xs Γ1) (Γs : S → DE) (f : S → α → S) (s0 : S) (h0 : Wk Γ1 (Γs s0))
    (hs : ∀ s x, x ∈ xs → ∃ Γ2, GX X tg x ts (Γs s) Γ2 ∧ SD X m Γ2 body { nx := fun Γ'' => Wk Γ'' (Γs (f s x)), rt := D.rt, bk := fun _ => False, ct := fun Γ'' => Wk Γ'' (Γs (f s x)) })
    (k : SD X m (Γs (xs.foldl f s0)) rest D) (hc : X.calm = true := by rfl) (hp : PassesOwn (model X.prog X.w) X.A X.env X.xe := by exact PassesOwn.never) (hf : ∀ x, foldedSetIterable iter X.env x = pure x := by intro _; rfl) :
    SD X m Γ (.For tg iter body [] pos :: rest) D := by
  refine sd_for (N := fun Γ' => Γ' = Γs (xs.foldl f s0)) (ts := ts) (hI.wk h0) (fun i Γ' => Γ' = Γs ((xs.take i).foldl f s0)) rfl (fun i x Γ' hx e => ?_) (fun Γ' e => by rw [e, List.take_length]) (fun Γ' e => e ▸ k) hc hp hf
  subst e
  have hm := List.mem_of_getElem? hx
  have e1 : (xs.take (i + 1)).foldl f s0 = f ((xs.take i).foldl f s0) x := by rw [List.take_add_one, hx, List.foldl_append]; rfl
  obtain ⟨Γ2, g, B⟩ := hs ((xs.take i).foldl f s0) x hm
  exact ⟨Γ2, g, sd_mono B (fun Γ' w => ⟨_, w, by rw [e1]⟩) (fun _ _ z => z) (fun _ z => z.elim) fun Γ' w => ⟨_, w, by rw [e1]⟩⟩
end
end G
namespace G
open PySem PySem.Spec PyProof.Rows L2
open Rp (rp)
section
variable {X : Cx} {m : Md} {Γ Γ1 Γ2 Γ3 : DE} {st : List Stmt} {s : Stmt} {rest body : List Stmt} {D : Ax m} {e a b c tg iter elt : Expr} {es : List Expr} {pos p p2 : Pos} {nm : Str}

/-! ### while -/
theorem sd_while {S : Type} {N : DE → Prop} (Γs : S → DE) (P : S → Prop) (μ : S → Nat) (bt : S → Bool) (s0 : S) (p0 : P s0) (h0 : Wk Γ (Γs s0)) (hc : ∀ s, P s → TX X (Γs s) c (bt s) (Γs s))
    (hs : ∀ s, P s → bt s = true → SD X m (Γs s) body { nx := fun Γ' => ∃ s', P s' ∧ μ s' < μ s ∧ Wk Γ' (Γs s'), rt := D.rt, bk := N, ct := fun Γ' => ∃ s', P s' ∧ μ s' < μ s ∧ Wk Γ' (Γs s') })
    (hd : ∀ s, P s → bt s = false → N (Γs s)) (k : ∀ Γ', N Γ' → SD X m Γ' rest D) (hp : PassesOwn (model X.prog X.w) X.A X.env X.xe := by exact PassesOwn.never) : SD X m Γ (.While c body [] pos :: rest) D := by
  refine sd_cons (N := N) ?_ k
  intro σ F H D' E L
  refine wS1.of (ps_while hp pT pS) ⟨fun mm σ' H' => ∃ s F', mm = μ s ∧ P s ∧ Env X.K (Γs s) σ' F' H' ∧ Stp Γ F H (Γs s) F' H', ⟨μ s0, s0, F, rfl, p0, E.wk h0, Stp.refl.wk h0⟩, ?_⟩
  rintro mm σ' H' ⟨s, F', rfl, ps, E', t⟩
  refine (hc s ps).run σ' F' H' _ E' fun F2 H2 E2 s2 => ?_
  have t2 : Stp Γ F H (Γs s) F2 H2 := t.trans ⟨s2, fun a q => .inl q⟩
  cases hb : bt s with
  | true =>
    rw [if_pos rfl]
    refine ⟨fun σ3 H3 => ∃ s' F3, P s' ∧ μ s' < μ s ∧ Env X.K (Γs s') σ3 F3 H3 ∧ Stp Γ F H (Γs s') F3 H3, fun σ3 H3 ⟨s', F3, p', l, E3, t3⟩ => ⟨μ s', l, s', F3, rfl, p', E3, t3⟩, hs s ps hb σ' F2 H2 _ E2 ?_⟩
    refine ⟨fun Γ4 σ4 F4 H4 ⟨s', p', l, w⟩ E4 t4 => ⟨s', F4, p', l, E4.wk w, (t2.trans t4).wk w⟩, fun x Γ4 σ4 F4 H4 v h E4 t4 r => L.rt x Γ4 σ4 F4 H4 v h E4 (t2.trans t4) (m.pre t2.st.there r), fun Γ4 σ4 F4 H4 h E4 t4 => L.nx Γ4 σ4 F4 H4 h E4 (t2.trans t4), fun Γ4 σ4 F4 H4 ⟨s', p', l, w⟩ E4 t4 => ⟨s', F4, p', l, E4.wk w, (t2.trans t4).wk w⟩⟩
  | false =>
    rw [if_neg Bool.false_ne_true]
    exact L.nx _ σ' F2 H2 (hd s ps hb) E2 t2

/-! ### lists and tuples written -/
structure LX (X : Cx) (Γ : DE) (es : List Expr) {α : Type} [Rp α] (xs : List α) (Γ' : DE) : Prop where
  sub : ∀ a, Own Γ' a → Own Γ a
  run : ∀ σ F H (Q : List V → Hp → Prop), Env X.K Γ σ F H → (∀ vs F' H', Env X.K Γ' σ F' H' → Step (Own Γ) F H F' H' → RpL X.K F' vs xs → Q vs H') → wA X es σ H Q
theorem lx_nil {α : Type} [Rp α] : LX X Γ [] ([] : List α) Γ := ⟨sub_refl, fun σ F H Q E q => wA.of pa_nil (q [] F H E Step.refl .nil)⟩
theorem lx_cons {α : Type} [Rp α] {x : α} {xs : List α} (h : PX X (sh α) Γ e x Γ1) (t : LX X Γ1 es xs Γ2) (hs : starEach (e :: es) X.env = (false, eval e X.env) :: starEach es X.env := by rfl) : LX X Γ (e :: es) (x :: xs) Γ2 :=
  ⟨fun p q => h.sub p (t.sub p q), fun σ F H Q E q => wA.of (pa_cons pE pA hs) (h.run σ F H _ E fun v F1 H1 E1 s1 r1 => t.run σ F1 H1 _ E1 fun vs F2 H2 E2 s2 r2 => q (v :: vs) F2 H2 E2 (s1.sub s2 h.sub) (.cons (Rp.mono s2.up r1) r2))⟩
theorem px_lst {α : Type} [Rp α] {xs : List α} (h : LX X Γ es xs Γ1) (hl : xs.length ≤ 1000 := by first | decide | simp) : PX X (nw α) Γ (.List es pos) xs Γ1 :=
  ⟨h.sub, fun σ F H Q E q => wE.of (pe_lst pA) (h.run σ F H _ E fun vs F' H' E' s r => ⟨by rw [r.length]; exact Nat.le_trans hl (by decide), fun p hp => q _ F' _ (E'.new hp) (s.sub (Step.new hp) fun a q => q) ⟨p, vs, rfl, s.there p hp, E'.free hp, upd_same, r⟩⟩)⟩
/-- a tuple laid and frozen -/
theorem tup_new {K : PySem.W.Frag} {σ : L2.St} {F H F0 H0 : Hp} {p : Addr} {vs : List V} {Γ0 : DE} (E : Env K Γ σ F H) (s : Step (Own Γ0) F0 H0 F H) (hs : ∀ a, Own Γ a → Own Γ0 a) (hp : H p = none) :
    Env K Γ σ (upd F p (.tup vs)) (upd H p (.tup vs)) ∧ Step (Own Γ0) F0 H0 (upd F p (.tup vs)) (upd H p (.tup vs)) := by
  have no : ¬ Own Γ p := fun z => Own.some z E hp
  have hF := E.free hp
  refine ⟨(E.new hp).freeze upd_same hF no, s.sub (O1 := Own Γ) ?_ hs⟩
  refine ⟨same_upd hF, fun b x e _ => same_upd hp b x e, fun b e => ?_, fun b h1 h2 => ?_⟩
  · by_cases z : b = p
    · rw [z, upd_same] at e; cases e
    · rw [upd_ne z] at e; exact e
  · by_cases z : b = p
    · subst z; exact .inl hp
    · rw [upd_ne z] at h2; exact absurd h1 h2
theorem px_t2 {α β : Type} [Rp α] [Rp β] {x : α} {y : β} {k} (h1 : PX X (sh α) Γ a x Γ1) (h2 : PX X (sh β) Γ1 b y Γ2) (hp : PA X [a, b] (tCons (wE X a) (tCons (wE X b) tNil)) := by exact pa_cons pE (pa_cons pE pa_nil)) :
    PX X (sh (α × β)) Γ (.Tuple [a, b] k pos) (x, y) Γ2 :=
  ⟨fun p q => h1.sub p (h2.sub p q), fun σ F H Q E q => wE.of (pe_tup hp) (h1.run σ F H _ E fun v F1 H1 E1 s1 r1 => h2.run σ F1 H1 _ E1 fun w F2 H2 E2 s2 r2 => ⟨by show 2 ≤ sizeLine; decide, fun p hp => by
    obtain ⟨E3, s3⟩ := tup_new (vs := [v, w]) E2 (s1.sub s2 h1.sub) (fun a q => h1.sub a (h2.sub a q)) hp
    have up := same_upd (o := .tup [v, w]) (E2.free hp)
    exact q _ _ _ E3 s3 ⟨p, v, w, rfl, upd_same, Rp.mono (s2.up.trans up) r1, Rp.mono up r2⟩⟩)⟩
theorem px_t3 {α β γ : Type} [Rp α] [Rp β] [Rp γ] {x : α} {y : β} {z : γ} {k} (h1 : PX X (sh α) Γ a x Γ1) (h2 : PX X (sh β) Γ1 b y Γ2) (h3 : PX X (sh γ) Γ2 c z Γ3) (hp : PA X [a, b, c] (tCons (wE X a) (tCons (wE X b) (tCons (wE X c) tNil))) := by exact pa_cons pE (pa_cons pE (pa_cons pE pa_nil))) :
    PX X (sh (T3 α β γ)) Γ (.Tuple [a, b, c] k pos) ⟨x, y, z⟩ Γ3 :=
  ⟨fun p q => h1.sub p (h2.sub p (h3.sub p q)), fun σ F H Q E q => wE.of (pe_tup hp) (h1.run σ F H _ E fun v F1 H1 E1 s1 r1 => h2.run σ F1 H1 _ E1 fun w F2 H2 E2 s2 r2 => h3.run σ F2 H2 _ E2 fun u F3 H3 E3 s3 r3 => ⟨by show 3 ≤ sizeLine; decide, fun p hp => by
    obtain ⟨E4, s4⟩ := tup_new (vs := [v, w, u]) E3 ((s1.sub s2 h1.sub).sub s3 fun a q => h1.sub a (h2.sub a q)) (fun a q => h1.sub a (h2.sub a (h3.sub a q))) hp
    have up := same_upd (o := .tup [v, w, u]) (E3.free hp)
    exact q _ _ _ E4 s4 ⟨p, v, w, u, rfl, upd_same, Rp.mono ((s2.up.trans s3.up).trans up) r1, Rp.mono (s3.up.trans up) r2, Rp.mono up r3⟩⟩)⟩
/-- a tuple of things of one kind -/
theorem px_tup {α : Type} [Rp α] {xs : List α} {k} (h : LX X Γ es xs Γ1) (hl : xs.length ≤ 1000 := by first | decide | simp) : PX X (sh (Tup α)) Γ (.Tuple es k pos) ⟨xs⟩ Γ1 :=
  ⟨h.sub, fun σ F H Q E q => wE.of (pe_tup pA) (h.run σ F H _ E fun vs F' H' E' s r => ⟨by rw [r.length]; exact Nat.le_trans hl (by decide), fun p hp => by
    obtain ⟨E4, s4⟩ := tup_new (vs := vs) E' s h.sub hp
    exact q _ _ _ E4 s4 ⟨p, vs, rfl, upd_same, r.mono (same_upd (E'.free hp))⟩⟩)⟩

/-! ### places -/
theorem atI_int {α : Type} {xs : List α} {k : Int} {d : α} (h0 : 0 ≤ k) (h : k < xs.length) : atI xs k = some (xs.getD k.toNat d) := by
  obtain ⟨j, rfl⟩ : ∃ j : Nat, k = (j : Int) := ⟨k.toNat, by omega⟩
  refine atI_nat ?_
  rw [Int.toNat_natCast, List.getD_eq_getElem?_getD, List.getElem?_eq_getElem (by omega)]
  rfl
theorem atI_get_int {α : Type} {xs : List α} {k : Int} (h0 : 0 ≤ k) (h : k < xs.length) : atI xs k = some (xs[k.toNat]'(by omega)) := by
  obtain ⟨j, rfl⟩ : ∃ j : Nat, k = (j : Int) := ⟨k.toNat, by omega⟩
  exact atI_nat (List.getElem?_eq_getElem (by omega))
theorem px_ix {α : Type} [Rp α] {xs : List α} {i : Int} {y : α} (ha : PX X (sh (List α)) Γ a xs Γ1) (hb : PX X (sh Int) Γ1 b i Γ2) (h : atI xs i = some y) (hp : PlainIx b := by exact fun _ _ => rfl) : PX X (sh α) Γ (.Subscript a b pos) y Γ2 :=
  px_sc ha hb (pe_ix ix_list pE pE hp) fun F0 H0 F H v w Q le ⟨l, vs, ev, t, r⟩ hw q => by
    obtain ⟨u, hu, ru⟩ := atI_at r (fun {j} e => r.get e) h
    exact ⟨l, vs, i, u, ev, hw, .inl (.inl (le _ _ t)), hu, q u ru⟩
theorem px_ixS {α : Type} [Rp α] {xs : Scr α} {i : Int} {y : α} (ha : PX X (sh (Scr α)) Γ a xs Γ1) (hb : PX X (sh Int) Γ1 b i Γ2) (h : atI xs.l i = some y) (hp : PlainIx b := by exact fun _ _ => rfl) : PX X (sh α) Γ (.Subscript a b pos) y Γ2 :=
  px_sc ha hb (pe_ix ix_list pE pE hp) fun F0 H0 F H v w Q le ⟨l, vs, ev, t, r⟩ hw q => by
    obtain ⟨u, hu, ru⟩ := atI_at r (fun {j} e => r.get e) h
    exact ⟨l, vs, i, u, ev, hw, le.seq t, hu, q u ru⟩
theorem px_ixT {α : Type} [Rp α] {xs : Tup α} {i : Int} {y : α} (ha : PX X (sh (Tup α)) Γ a xs Γ1) (hb : PX X (sh Int) Γ1 b i Γ2) (h : atI xs.l i = some y) (hp : PlainIx b := by exact fun _ _ => rfl) : PX X (sh α) Γ (.Subscript a b pos) y Γ2 :=
  px_sc ha hb (pe_ix ix_tup pE pE hp) fun F0 H0 F H v w Q le ⟨l, vs, ev, t, r⟩ hw q => by
    obtain ⟨u, hu, ru⟩ := atI_at r (fun {j} e => r.get e) h
    exact ⟨l, vs, i, u, ev, hw, .inl (.inl (le _ _ t)), hu, q u ru⟩
theorem px_fst {α β : Type} [Rp α] [Rp β] {x : α × β} (ha : PX X (sh (α × β)) Γ a x Γ1) (hb : PX X (sh Int) Γ1 b 0 Γ2) (hp : PlainIx b := by exact fun _ _ => rfl) : PX X (sh α) Γ (.Subscript a b pos) x.1 Γ2 :=
  px_sc ha hb (pe_ix ix_tup pE pE hp) fun F0 H0 F H v w Q le ⟨l, v1, v2, ev, t, r1, r2⟩ hw q => ⟨l, [v1, v2], 0, v1, ev, hw, .inl (.inl (le _ _ t)), rfl, q v1 r1⟩
theorem px_snd {α β : Type} [Rp α] [Rp β] {x : α × β} (ha : PX X (sh (α × β)) Γ a x Γ1) (hb : PX X (sh Int) Γ1 b 1 Γ2) (hp : PlainIx b := by exact fun _ _ => rfl) : PX X (sh β) Γ (.Subscript a b pos) x.2 Γ2 :=
  px_sc ha hb (pe_ix ix_tup pE pE hp) fun F0 H0 F H v w Q le ⟨l, v1, v2, ev, t, r1, r2⟩ hw q => ⟨l, [v1, v2], 1, v2, ev, hw, .inl (.inl (le _ _ t)), rfl, q v2 r2⟩
/-- a place of a list that slot i owns -/
theorem px_ixO {α : Type} [Rp α] {xs : List α} {ad : Addr} {k : Int} {y : α} (i : Nat) (hb : PX X (sh Int) Γ b k Γ1) (h1 : Γ1[i]? = some (.own ad xs)) (h0 : (Γ[i]?.bind Ent.adr) = some ad) (h : atI xs k = some y) (hN : X.N[i]? = some nm := by rfl) (hv : Vis X.env.scope nm := by first | exact Or.inl rfl | exact Or.inr (Or.inl rfl) | exact Or.inr (Or.inr rfl))
    (hp : PlainIx b := by exact fun _ _ => rfl) (hd : (nm == ("__debug__" : Str)) = false := by decide) (hcd : (nm == ("__classdict__" : Str)) = false := by decide) : PX X (sh α) Γ (.Subscript (.Name nm p) b pos) y Γ1 := by
  refine ⟨hb.sub, fun σ F H Q E q => wE.of (pe_ix ix_list (pe_var hN hv hd hcd) pE hp) ?_⟩
  cases q0 : Γ[i]? with
  | none => rw [q0] at h0; cases h0
  | some e0 =>
    rw [q0] at h0
    have h0 : e0.adr = some ad := h0
    obtain ⟨o, ho, r⟩ := E.ent i e0 q0
    cases e0 with
    | no => cases h0
    | is x => cases h0
    | own b' ys =>
      cases h0
      obtain ⟨rfl, _⟩ := r
      refine ⟨_, ho, hb.run σ F H _ E fun w F1 H1 E1 s1 rw => ?_⟩
      obtain ⟨o2, ho2, rfl, hF, vs, hH, r⟩ := E1.ent i _ h1
      obtain ⟨u, hu, ru⟩ := atI_at r (fun {j} e => r.get e) h
      exact ⟨_, vs, k, u, rfl, rw, .inl (.inl hH), hu, q u F1 H1 E1 s1 ru⟩
/-- xs[lo:hi] with bounds from 0 on -/
def cutL {α : Type} (xs : List α) (lo hi : Option Int) : List α := (xs.drop (HT.sIx xs.length 0 lo)).take (HT.sIx xs.length xs.length hi - HT.sIx xs.length 0 lo)
theorem cutL_from {α : Type} {xs : List α} {k : Nat} : cutL xs (some (k : Int)) none = xs.drop k := by
  unfold cutL
  rw [HT.sIx_nat, HT.sIx_none]
  by_cases h : k ≤ xs.length
  · rw [Nat.min_eq_left h, List.take_of_length_le (by simp)]
  · rw [Nat.min_eq_right (by omega), List.drop_of_length_le (Nat.le_refl _), List.drop_of_length_le (by omega)]; simp
theorem cutL_to {α : Type} {xs : List α} {k : Nat} : cutL xs none (some (k : Int)) = xs.take k := by
  unfold cutL
  rw [HT.sIx_nat, HT.sIx_none, List.drop_zero, Nat.sub_zero]
  by_cases h : k ≤ xs.length
  · rw [Nat.min_eq_left h]
  · rw [Nat.min_eq_right (by omega), List.take_of_length_le (Nat.le_refl _), List.take_of_length_le (by omega)]
theorem cutL_mid {α : Type} {xs : List α} {j k : Nat} : cutL xs (some (j : Int)) (some (k : Int)) = (xs.take k).drop j := by
  unfold cutL
  rw [HT.sIx_nat, HT.sIx_nat, List.drop_take]
  by_cases h : j ≤ xs.length
  · rw [Nat.min_eq_left h]
    by_cases h2 : k ≤ xs.length
    · rw [Nat.min_eq_left h2]
    · rw [Nat.min_eq_right (by omega), List.take_of_length_le (by simp), List.take_of_length_le (by simp; omega)]
  · rw [Nat.min_eq_right (Nat.le_of_lt (Nat.lt_of_not_le h)), List.drop_of_length_le (Nat.le_refl _), List.drop_of_length_le (by omega)]; simp
theorem RpL.cut {α : Type} [Rp α] {K : PySem.W.Frag} {F : Hp} {vs : List V} {xs : List α} {lo hi : Option Int} (r : RpL K F vs xs) : RpL K F (cutV vs lo hi) (cutL xs lo hi) := by
  unfold cutV cutL
  rw [r.length]
  exact (r.drop _).take _
/-- a slice's part -/
structure OX (X : Cx) (Γ : DE) (e : Option Expr) (o : Option Int) (Γ' : DE) : Prop where
  sub : ∀ a, Own Γ' a → Own Γ a
  ex : ∃ t : TO, PO X e t ∧ ∀ σ F H (Q : Option Int → Hp → Prop), Env X.K Γ σ F H → (∀ F' H', Env X.K Γ' σ F' H' → Step (Own Γ) F H F' H' → Q o H') → t σ H Q
theorem ox_none : OX X Γ none none Γ := ⟨sub_refl, _, po_none, fun σ F H Q E q => q F H E Step.refl⟩
theorem ox_some {i : Int} (h : PX X (sh Int) Γ e i Γ1) : OX X Γ (some e) (some i) Γ1 := ⟨h.sub, _, po_some pE, fun σ F H Q E q => h.run σ F H _ E fun v F' H' E' s r => ⟨i, r, q F' H' E' s⟩⟩
theorem px_slice {α : Type} [Rp α] {xs : List α} {lo hi : Option Expr} {i j : Option Int} (h : PX X (sh (List α)) Γ e xs Γ1) (hl : OX X Γ1 lo i Γ2) (hh : OX X Γ2 hi j Γ3) : PX X (nw α) Γ (.Subscript e (.Slice lo hi none p2) pos) (cutL xs i j) Γ3 := by
  obtain ⟨t1, p1, g1⟩ := hl.ex
  obtain ⟨t2, p2, g2⟩ := hh.ex
  refine ⟨fun a q => h.sub a (hl.sub a (hh.sub a q)), fun σ F H Q E q => wE.of (pe_slice sl_list pE p1 p2) (h.run σ F H _ E fun v F1 H1 E1 s1 ⟨l, vs, ev, t, r⟩ => g1 σ F1 H1 _ E1 fun F2 H2 E2 s2 => g2 σ F2 H2 _ E2 fun F3 H3 E3 s3 => ?_)⟩
  have t3 := s3.up _ _ (s2.up _ _ t)
  have s4 := (s1.sub s2 h.sub).sub s3 fun a q => h.sub a (hl.sub a q)
  exact ⟨l, vs, ev, .inl (.inl (E3.le _ _ t3)), fun p hp => q _ F3 _ (E3.new hp) (s4.sub (Step.new hp) (O1 := Own Γ) fun a q => q) ⟨p, _, rfl, s4.there p hp, E3.free hp, upd_same, (r.mono (s2.up.trans s3.up)).cut⟩⟩

/-! ### changing a list of one's own -/
theorem Env.put {K : PySem.W.Frag} {σ : L2.St} {F H : Hp} {i : Nat} {ad : Addr} {vs : List V} {α β : Type} [Rp α] [Rp β] {xs : List α} {ys : List β} (E : Env K Γ σ F H) (h : Γ[i]? = some (.own ad xs)) (r : RpL K F vs ys) :
    Env K (Γ.set i (.own ad ys)) σ F (upd H ad (.lst vs)) ∧ Stp Γ F H (Γ.set i (.own ad ys)) F (upd H ad (.lst vs)) := by
  obtain ⟨o, ho, rfl, hF, ws, hH, _⟩ := E.ent i _ h
  have oa : Own Γ ad := ⟨i, by rw [h]; rfl⟩
  refine ⟨⟨fun b x e => ?_, by simpa using E.len, fun j e q => ?_, fun j k b q q' => ?_⟩, ⟨⟨Same.refl _, fun b x e no => ?_, fun b e => ?_, fun b h1 h2 => absurd h1 h2⟩, fun b q => ?_⟩⟩
  · rw [upd_ne (ne_of_none e hF)]; exact E.le _ _ e
  · rcases get_set q with ⟨rfl, rfl, hi⟩ | ⟨n, q'⟩
    · exact ⟨_, ho, rfl, hF, vs, upd_same, r⟩
    · obtain ⟨o, ho, r'⟩ := E.ent j e q'
      refine ⟨o, ho, ?_⟩
      cases e with
      | no => trivial
      | is x => exact r'
      | own b zs =>
        obtain ⟨e1, e2, us, e3, r3⟩ := r'
        have nb : b ≠ ad := fun z => n (E.sep j i ad (by rw [q']; exact congrArg some z) (by rw [h]; rfl))
        exact ⟨e1, e2, us, by rw [upd_ne nb]; exact e3, r3⟩
  · rcases adr_set q with ⟨a1, z⟩ | ⟨n, z⟩ <;> rcases adr_set q' with ⟨a2, z'⟩ | ⟨n', z'⟩
    · rw [a1, a2]
    · have e : ad = b := Option.some.inj z
      exact absurd (E.sep k i ad (e ▸ z') (by rw [h]; rfl)) n'
    · have e : ad = b := Option.some.inj z'
      exact absurd (E.sep j i ad (e ▸ z) (by rw [h]; rfl)) n
    · exact E.sep j k b z z'
  · rw [upd_ne (fun z : b = ad => no (by rw [z]; exact oa))]; exact e
  · by_cases z : b = ad
    · rw [z, upd_same] at e; cases e
    · rw [upd_ne z] at e; exact e
  · rcases own_set_own q with rfl | q
    · exact .inl oa
    · exact .inl q
/-- what an owned slot holds ahead of an expression is the same address behind it -/
theorem own_at {K : PySem.W.Frag} {σ : L2.St} {F H : Hp} {i : Nat} {ad : Addr} (E : Env K Γ σ F H) (h0 : (Γ[i]?.bind Ent.adr) = some ad) : σ[i]? = some (some (.ref ad)) ∧ ∃ vs, H ad = some (.lst vs) := by
  cases q0 : Γ[i]? with
  | none => rw [q0] at h0; cases h0
  | some e0 =>
    rw [q0] at h0
    have h0 : e0.adr = some ad := h0
    obtain ⟨o, ho, r⟩ := E.ent i e0 q0
    cases e0 with
    | no => cases h0
    | is x => cases h0
    | own b ys =>
      cases h0
      obtain ⟨rfl, _, vs, h, _⟩ := r
      exact ⟨ho, vs, h⟩
theorem sd_append {α : Type} [Rp α] {xs : List α} {y : α} {ad : Addr} {apos cpos : Pos} (i : Nat) (he : PX X (sh α) Γ e y Γ1) (h1 : Γ1[i]? = some (.own ad xs)) (hz : xs.length < sizeLine) (k : SD X m (Γ1.set i (.own ad (xs ++ [y]))) rest D) (h0 : (Γ[i]?.bind Ent.adr) = some ad := by rfl) (hN : X.N[i]? = some nm := by rfl)
    (hv : Vis X.env.scope nm := by first | exact Or.inl rfl | exact Or.inr (Or.inl rfl) | exact Or.inr (Or.inr rfl)) (hd : (nm == ("__debug__" : Str)) = false := by decide) (hcd : (nm == ("__classdict__" : Str)) = false := by decide)
    (hp : ∀ {to : TE} {t : TA}, PE X (.Name nm p) to → PA X [e] t → PE X (.Call (.Attribute (.Name nm p) "append" apos) [e] [] cpos) (tBM X.K "list" rAppend to t) := by intro to t h1 h2; exact pe_bm PySem.F.plainAttrs_list PySem.F.slot_list_append PySem.F.type_list_append mt_append h1 h2)
    (ha : PA X [e] (tCons (wE X e) tNil) := by exact pa_cons pE pa_nil) (hs : swapsWith (.Call (.Attribute (.Name nm p) "append" apos) [e] [] cpos) none pos.line X.env = pure false := by rfl) :
    SD X m Γ (.Expr (.Call (.Attribute (.Name nm p) "append" apos) [e] [] cpos) pos :: rest) D :=
  sd_c1 (fun σ F H D' E L => by
    obtain ⟨ho, vs0, hv0⟩ := own_at E h0
    refine wS1.of (ps_expr (hp (pe_var hN hv hd hcd) ha) hs) ⟨_, ho, .inl ⟨rfl, vs0, .inl (.inl hv0)⟩, he.run σ F H _ E fun v F1 H1 E1 s1 r1 => ?_⟩
    obtain ⟨o, _, rfl, hF, vs, hH, r⟩ := E1.ent i _ h1
    obtain ⟨E2, t2⟩ := E1.put (β := α) h1 (r.snoc r1)
    exact ⟨ad, vs, v, rfl, rfl, hH, by rw [r.length]; exact hz, L.nx _ σ F1 _ rfl E2 ((he.stp s1).trans t2)⟩) k
theorem sd_extend {α : Type} [Rp α] {xs ys : List α} {ad : Addr} {apos cpos : Pos} (i : Nat) (he : PX X (sh (List α)) Γ e ys Γ1) (h1 : Γ1[i]? = some (.own ad xs)) (hz : xs.length + ys.length ≤ sizeLine) (k : SD X m (Γ1.set i (.own ad (xs ++ ys))) rest D) (h0 : (Γ[i]?.bind Ent.adr) = some ad := by rfl) (hN : X.N[i]? = some nm := by rfl)
    (hv : Vis X.env.scope nm := by first | exact Or.inl rfl | exact Or.inr (Or.inl rfl) | exact Or.inr (Or.inr rfl)) (hd : (nm == ("__debug__" : Str)) = false := by decide) (hcd : (nm == ("__classdict__" : Str)) = false := by decide)
    (hp : ∀ {to : TE} {t : TA}, PE X (.Name nm p) to → PA X [e] t → PE X (.Call (.Attribute (.Name nm p) "extend" apos) [e] [] cpos) (tBM X.K "list" rExtend to t) := by intro to t h1 h2; exact pe_bm PySem.F.plainAttrs_list PySem.F.slot_list_extend PySem.F.type_list_extend mt_extend h1 h2)
    (ha : PA X [e] (tCons (wE X e) tNil) := by exact pa_cons pE pa_nil) (hs : swapsWith (.Call (.Attribute (.Name nm p) "extend" apos) [e] [] cpos) none pos.line X.env = pure false := by rfl) :
    SD X m Γ (.Expr (.Call (.Attribute (.Name nm p) "extend" apos) [e] [] cpos) pos :: rest) D :=
  sd_c1 (fun σ F H D' E L => by
    obtain ⟨ho, vs0, hv0⟩ := own_at E h0
    refine wS1.of (ps_expr (hp (pe_var hN hv hd hcd) ha) hs) ⟨_, ho, .inl ⟨rfl, vs0, .inl (.inl hv0)⟩, he.run σ F H _ E fun v F1 H1 E1 s1 ⟨l, us, ev, t, ru⟩ => ?_⟩
    subst ev
    obtain ⟨o, _, rfl, hF, vs, hH, r⟩ := E1.ent i _ h1
    obtain ⟨E2, t2⟩ := E1.put (β := α) h1 (pair_append r ru)
    exact ⟨ad, l, vs, us, rfl, rfl, hH, E1.le _ _ t, by rw [r.length, ru.length]; exact hz, L.nx _ σ F1 _ rfl E2 ((he.stp s1).trans t2)⟩) k
/-- xs[j] = e -/
theorem sd_setix {α : Type} [Rp α] {xs : List α} {y : α} {ad : Addr} {i1 : Int} {j : Nat} {ix : Expr} {spos : Pos} (i : Nat) (he : PX X (sh α) Γ e y Γ1) (hi : PX X (sh Int) Γ1 ix i1 Γ1) (h1 : Γ1[i]? = some (.own ad xs)) (hj : ixN xs.length i1 = some j) (k : SD X m (Γ1.set i (.own ad (xs.set j y))) rest D) (hN : X.N[i]? = some nm := by rfl)
    (hv : Vis X.env.scope nm := by first | exact Or.inl rfl | exact Or.inr (Or.inl rfl) | exact Or.inr (Or.inr rfl)) (hd : (nm == ("__debug__" : Str)) = false := by decide) (hcd : (nm == ("__classdict__" : Str)) = false := by decide)
    (hg : ∀ {to ti : TE}, PE X (.Name nm p) to → PE X ix ti → PG X (.Subscript (.Name nm p) ix spos) (gSub to ti rSetL) := by intro to ti h1 h2; exact pg_sub h1 h2 set_list)
    (hs : swapsWithSole [.Subscript (.Name nm p) ix spos] e pos.line X.env = pure false := by rfl) (hw : swappedStores [.Subscript (.Name nm p) ix spos] e X.env = pure none := by rfl)
    (h2 : (assignEach [.Subscript (.Name nm p) ix spos] X.env).map (·.2) = [assign (.Subscript (.Name nm p) ix spos) X.env] := by rfl) :
    SD X m Γ (.Assign [.Subscript (.Name nm p) ix spos] e pos :: rest) D :=
  sd_c1 (fun σ F H D' E L => by
    refine wS1.of (ps_asg pE (hg (pe_var hN hv hd hcd) pE) hs hw h2) (he.run σ F H _ E fun v F1 H1 E1 s1 r1 => ?_)
    obtain ⟨ho, vs0, hv0⟩ := own_at E1 (by rw [h1]; rfl)
    refine ⟨_, ho, hi.run σ F1 H1 _ E1 fun w F2 H2 E2 s2 r2 => ?_⟩
    obtain ⟨o, _, rfl, hF, vs, hH, r⟩ := E2.ent i _ h1
    obtain ⟨E3, t3⟩ := E2.put (β := α) h1 (RpL.set (Rp.mono s2.up r1) j r)
    exact ⟨ad, vs, i1, j, rfl, r2, hH, by rw [r.length]; exact hj, L.nx _ σ F2 _ rfl E3 (((he.stp s1).trans (hi.stp s2)).trans t3)⟩) k

/-! ### built-in functions -/
theorem px_b1 {m1 m2 : Md} {id : String} {x : m1.β} {y : m2.β} {r : List V → Hp → VK → Prop} (hc : CallR X (.builtin id) r) (h : PX X m1 Γ e x Γ1) (hm : X.mg nm = none) (hb : bootBuiltins nm = some (.builtin id))
    (hr : ∀ F0 H0 F H v (Q : VK), Same F H → m1.ok X.K F0 H0 F H v x → (∀ u, m2.ok X.K F H F H u y → Q u H) → r [v] H Q) (hg : Gl X nm := by rfl)
    (hp : X.mg nm = none → bootBuiltins nm = some (.builtin id) → ∀ {r : List V → Hp → VK → Prop} {t : TA}, CallR X (.builtin id) r → PA X [e] t → PE X (.Call (.Name nm p) [e] [] pos) (tCB r t) := by intro hm hb r t h1 h2; exact pe_callB h1 (by rfl) hm hb h2) (ha : PA X [e] (tCons (wE X e) tNil) := by exact pa_cons pE pa_nil) : PX X m2 Γ (.Call (.Name nm p) [e] [] pos) y Γ1 :=
  ⟨h.sub, fun σ F H Q E q => wE.of (hp hm hb hc ha) (h.run σ F H _ E fun v F' H' E' s rv => hr F H F' H' v Q E'.le rv fun u ru => q u F' H' E' s (m2.pre s.there ru))⟩
theorem px_len {α : Type} [Rp α] {xs : List α} (hm : X.mg "len" = none) (h : PX X (br α) Γ e xs Γ1) (hg : Gl X "len" := by rfl)
    (hp : X.mg "len" = none → ∀ {r : List V → Hp → VK → Prop} {t : TA}, CallR X (.builtin "len") r → PA X [e] t → PE X (.Call (.Name "len" p) [e] [] pos) (tCB r t) := by intro hm r t h1 h2; exact pe_callB h1 (by rfl) hm PySem.boot_len h2) (ha : PA X [e] (tCons (wE X e) tNil) := by exact pa_cons pE pa_nil) :
    PX X (sh Int) Γ (.Call (.Name "len" p) [e] [] pos) (xs.length : Int) Γ1 :=
  ⟨h.sub, fun σ F H Q E q => wE.of (hp hm call_len_seq ha) (h.run σ F H _ E fun v F' H' E' s ⟨l, vs, ev, t, r⟩ => ⟨l, vs, by rw [ev], .inl t, q _ F' H' E' s (by rw [r.length]; rfl)⟩)⟩
theorem px_lenS {α : Type} [Rp α] {xs : Scr α} (hm : X.mg "len" = none) (h : PX X (sh (Scr α)) Γ e xs Γ1) (hg : Gl X "len" := by rfl)
    (hp : X.mg "len" = none → ∀ {r : List V → Hp → VK → Prop} {t : TA}, CallR X (.builtin "len") r → PA X [e] t → PE X (.Call (.Name "len" p) [e] [] pos) (tCB r t) := by intro hm r t h1 h2; exact pe_callB h1 (by rfl) hm PySem.boot_len h2) (ha : PA X [e] (tCons (wE X e) tNil) := by exact pa_cons pE pa_nil) :
    PX X (sh Int) Γ (.Call (.Name "len" p) [e] [] pos) (xs.l.length : Int) Γ1 :=
  ⟨h.sub, fun σ F H Q E q => wE.of (hp hm call_len_seq ha) (h.run σ F H _ E fun v F' H' E' s ⟨l, vs, ev, t, r⟩ => ⟨l, vs, by rw [ev], .inl (E'.le.seq t), q _ F' H' E' s (by rw [r.length]; rfl)⟩)⟩
theorem px_lenT {α : Type} [Rp α] {xs : Tup α} (hm : X.mg "len" = none) (h : PX X (sh (Tup α)) Γ e xs Γ1) (hg : Gl X "len" := by rfl)
    (hp : X.mg "len" = none → ∀ {r : List V → Hp → VK → Prop} {t : TA}, CallR X (.builtin "len") r → PA X [e] t → PE X (.Call (.Name "len" p) [e] [] pos) (tCB r t) := by intro hm r t h1 h2; exact pe_callB h1 (by rfl) hm PySem.boot_len h2) (ha : PA X [e] (tCons (wE X e) tNil) := by exact pa_cons pE pa_nil) :
    PX X (sh Int) Γ (.Call (.Name "len" p) [e] [] pos) (xs.l.length : Int) Γ1 :=
  ⟨h.sub, fun σ F H Q E q => wE.of (hp hm call_len_seq ha) (h.run σ F H _ E fun v F' H' E' s ⟨l, vs, ev, t, r⟩ => ⟨l, vs, by rw [ev], .inr (.inl (.inl (E'.le _ _ t))), q _ F' H' E' s (by rw [r.length]; rfl)⟩)⟩
theorem px_max2 {x y : Int} (hm : X.mg "max" = none) (h1 : PX X (sh Int) Γ a x Γ1) (h2 : PX X (sh Int) Γ1 b y Γ2) (hc : X.calm = true := by rfl)
    (hp : X.mg "max" = none → ∀ {r : List V → Hp → VK → Prop} {t : TA}, CallR X (.builtin "max") r → PA X [a, b] t → PE X (.Call (.Name "max" p) [a, b] [] pos) (tCB r t) := by intro hm r t h1 h2; exact pe_callB h1 (by rfl) hm (by decide +kernel) h2) (ha : PA X [a, b] (tCons (wE X a) (tCons (wE X b) tNil)) := by exact pa_cons pE (pa_cons pE pa_nil)) :
    PX X (sh Int) Γ (.Call (.Name "max" p) [a, b] [] pos) (max x y) Γ2 :=
  ⟨fun p q => h1.sub p (h2.sub p q), fun σ F H Q E q => wE.of (hp hm (call_max2 hc) ha) (h1.run σ F H _ E fun v F1 H1 E1 s1 r1 => h2.run σ F1 H1 _ E1 fun w F2 H2 E2 s2 r2 => ⟨x, y, by rw [show v = V.int x from r1, show w = V.int y from r2], q _ F2 H2 E2 (s1.sub s2 h1.sub) (by show V.int _ = V.int _; congr 1; split <;> omega)⟩)⟩
theorem px_min2 {x y : Int} (hm : X.mg "min" = none) (h1 : PX X (sh Int) Γ a x Γ1) (h2 : PX X (sh Int) Γ1 b y Γ2) (hc : X.calm = true := by rfl)
    (hp : X.mg "min" = none → ∀ {r : List V → Hp → VK → Prop} {t : TA}, CallR X (.builtin "min") r → PA X [a, b] t → PE X (.Call (.Name "min" p) [a, b] [] pos) (tCB r t) := by intro hm r t h1 h2; exact pe_callB h1 (by rfl) hm (by decide +kernel) h2) (ha : PA X [a, b] (tCons (wE X a) (tCons (wE X b) tNil)) := by exact pa_cons pE (pa_cons pE pa_nil)) :
    PX X (sh Int) Γ (.Call (.Name "min" p) [a, b] [] pos) (min x y) Γ2 :=
  ⟨fun p q => h1.sub p (h2.sub p q), fun σ F H Q E q => wE.of (hp hm (call_min2 hc) ha) (h1.run σ F H _ E fun v F1 H1 E1 s1 r1 => h2.run σ F1 H1 _ E1 fun w F2 H2 E2 s2 r2 => ⟨x, y, by rw [show v = V.int x from r1, show w = V.int y from r2], q _ F2 H2 E2 (s1.sub s2 h1.sub) (by show V.int _ = V.int _; congr 1; split <;> omega)⟩)⟩
theorem px_intB {z : Bool} (hm : X.mg "int" = none) (h : PX X (sh Bool) Γ e z Γ1)
    (hp : X.mg "int" = none → ∀ {r : List V → Hp → VK → Prop} {t : TA}, CallR X (.type "int") r → PA X [e] t → PE X (.Call (.Name "int" p) [e] [] pos) (tCB r t) := by intro hm r t h1 h2; exact pe_callTy h1 (by rfl) hm (by decide +kernel) h2) (ha : PA X [e] (tCons (wE X e) tNil) := by exact pa_cons pE pa_nil) :
    PX X (sh Int) Γ (.Call (.Name "int" p) [e] [] pos) (if z then 1 else 0) Γ1 :=
  ⟨h.sub, fun σ F H Q E q => wE.of (hp hm call_int1 ha) (h.run σ F H _ E fun v F' H' E' s r => .inr ⟨z, by rw [show v = V.bl z from r], q _ F' H' E' s rfl⟩)⟩
/-- isinstance by what the value is -/
theorem px_isi {m1 : Md} {x : m1.β} {c2 : V} {t u : Value} {z : Bool} (hm : X.mg "isinstance" = none) (h : PX X m1 Γ a x Γ1) (hb : PX X (sh V) Γ1 b c2 Γ2) (k : ClsV c2 u) (hk : PySem.W.kitOne X.K t u = some z) (ty : ∀ F0 H0 F H v F2 H2, m1.ok X.K F0 H0 F H v x → Step (Own Γ1) F H F2 H2 → Same F2 H2 → TyX X.K H2 v t)
    (hp : X.mg "isinstance" = none → ∀ {r : List V → Hp → VK → Prop} {t : TA}, CallR X (.builtin "isinstance") r → PA X [a, b] t → PE X (.Call (.Name "isinstance" p) [a, b] [] pos) (tCB r t) := by intro hm r t h1 h2; exact pe_callB h1 (by rfl) hm (by decide +kernel) h2) (ha : PA X [a, b] (tCons (wE X a) (tCons (wE X b) tNil)) := by exact pa_cons pE (pa_cons pE pa_nil)) :
    PX X (sh Bool) Γ (.Call (.Name "isinstance" p) [a, b] [] pos) z Γ2 :=
  ⟨fun p q => h.sub p (hb.sub p q), fun σ F H Q E q => wE.of (hp hm call_isi ha) (h.run σ F H _ E fun v F1 H1 E1 s1 r1 => hb.run σ F1 H1 _ E1 fun w F2 H2 E2 s2 r2 => ⟨v, w, t, u, z, rfl, by rw [show w = c2 from r2]; exact k, ty F H F1 H1 v F2 H2 r1 s2 E2.le, hk, q _ F2 H2 E2 (s1.sub s2 h.sub) rfl⟩)⟩
/-- a built-in type's name -/
theorem px_ty {T : String} (hm : X.mg nm = none) (hb : bootBuiltins nm = some (.type T)) (hg : Gl X nm := by rfl) (hn : nm ≠ "__name__" := by decide) (hd : (nm == ("__debug__" : Str)) = false := by decide) : PX X (sh V) Γ (.Name nm pos) (V.ty T) Γ :=
  px_of fun _ _ _ _ _ q => wE.of (pe_bltn hg hm hb (v := .ty T) rfl hn hd) (q _ rfl)
end
end G
namespace G
open PySem PySem.Spec PyProof.Rows L2
open Rp (rp)
/-! ### list comprehensions -/
/-- the block's own slots forgotten -/
def wipeD (Γ : DE) : List Nat → DE
  | [] => Γ
  | v :: vs => (wipeD Γ vs).set v .no
theorem wipeD_len (Γ : DE) : ∀ vs, (wipeD Γ vs).length = Γ.length
  | [] => rfl
  | v :: vs => by unfold wipeD; rw [List.length_set, wipeD_len Γ vs]
theorem wipeD_get {Γ : DE} : ∀ {vs : List Nat} {i : Nat} {e : Ent}, (wipeD Γ vs)[i]? = some e → (i ∈ vs ∧ e = .no) ∨ (i ∉ vs ∧ Γ[i]? = some e)
  | [], i, e, h => .inr ⟨by simp, h⟩
  | v :: vs, i, e, h => by
    unfold wipeD at h
    by_cases z : v = i
    · subst z
      have hl : v < (wipeD Γ vs).length := by
        have := (List.getElem?_eq_some_iff.mp h).1
        simpa using this
      rw [List.getElem?_set_self hl] at h
      exact .inl ⟨by simp, (Option.some.inj h).symm⟩
    · rw [List.getElem?_set_ne z] at h
      rcases wipeD_get h with ⟨h1, h2⟩ | ⟨h1, h2⟩
      · exact .inl ⟨List.mem_cons_of_mem _ h1, h2⟩
      · exact .inr ⟨by simp only [List.mem_cons, not_or]; exact ⟨fun q => z q.symm, h1⟩, h2⟩
theorem wipe_at {σ : L2.St} : ∀ {vs : List Nat} {i : Nat}, i < σ.length → (wipe σ vs)[i]? = if i ∈ vs then some none else σ[i]?
  | [], i, h => by simp [wipe]
  | v :: vs, i, h => by
    unfold wipe
    by_cases z : v = i
    · subst z
      rw [List.getElem?_set_self (by rw [wipe_length]; exact h), if_pos (by simp)]
    · rw [List.getElem?_set_ne z, wipe_at h]
      by_cases q : i ∈ vs
      · rw [if_pos q, if_pos (by simp [q])]
      · rw [if_neg q, if_neg (by simp [q]; exact fun e => z e.symm)]
theorem Env.wiped {K : PySem.W.Frag} {Γ : DE} {σ : L2.St} {F H : Hp} (E : Env K Γ σ F H) (vs : List Nat) : Env K (wipeD Γ vs) (wipe σ vs) F H := by
  have ad : ∀ (i : Nat) (a : Addr), ((wipeD Γ vs)[i]?.bind Ent.adr) = some a → (Γ[i]?.bind Ent.adr) = some a := fun i a q => by
    cases z : (wipeD Γ vs)[i]? with
    | none => rw [z] at q; cases q
    | some e =>
      rw [z] at q
      rcases wipeD_get z with ⟨_, rfl⟩ | ⟨_, z'⟩
      · cases q
      · rw [z']; exact q
  refine ⟨E.le, by rw [wipe_length, wipeD_len]; exact E.len, fun i e q => ?_, fun i j a q r => E.sep i j a (ad i a q) (ad j a r)⟩
  have hi : i < σ.length := by rw [E.len, ← wipeD_len Γ vs]; exact (List.getElem?_eq_some_iff.mp q).1
  rw [wipe_at hi]
  rcases wipeD_get q with ⟨h1, rfl⟩ | ⟨h1, h2⟩
  · exact ⟨none, by rw [if_pos h1], trivial⟩
  · obtain ⟨o, ho, r⟩ := E.ent i e h2
    exact ⟨o, by rw [if_neg h1]; exact ho, r⟩
theorem own_wiped {Γ : DE} {vs : List Nat} {a : Addr} (h : Own (wipeD Γ vs) a) : Own Γ a := by
  obtain ⟨i, q⟩ := h
  cases z : (wipeD Γ vs)[i]? with
  | none => rw [z] at q; cases q
  | some e =>
    rw [z] at q
    rcases wipeD_get z with ⟨_, rfl⟩ | ⟨_, z'⟩
    · cases q
    · exact ⟨i, by rw [z']; exact q⟩
theorem wipe_eq {σ σ' : L2.St} {vs : List Nat} (hl : σ'.length = σ.length) (h : ∀ i, i ∉ vs → σ'[i]? = (wipe σ vs)[i]?) : wipe σ' vs = wipe σ vs := by
  apply List.ext_getElem?
  intro i
  by_cases hi : i < σ.length
  · rw [wipe_at (by omega), wipe_at hi]
    by_cases q : i ∈ vs
    · rw [if_pos q, if_pos q]
    · rw [if_neg q, if_neg q, h i q, wipe_at hi, if_neg q]
  · rw [List.getElem?_eq_none (by rw [wipe_length]; omega), List.getElem?_eq_none (by rw [wipe_length]; omega)]
/-- the def's slots as the block leaves them: the block's own slots as they were -/
def patch (Γ Γ' : DE) : List Nat → DE
  | [] => Γ'
  | v :: vs => (patch Γ Γ' vs).set v (Γ[v]?.getD .no)
theorem patch_len (Γ Γ' : DE) : ∀ vs, (patch Γ Γ' vs).length = Γ'.length
  | [] => rfl
  | v :: vs => by unfold patch; rw [List.length_set, patch_len Γ Γ' vs]
theorem patch_get {Γ Γ' : DE} (hl : Γ'.length = Γ.length) : ∀ {vs : List Nat} {i : Nat} {e : Ent}, (patch Γ Γ' vs)[i]? = some e → (i ∈ vs ∧ Γ[i]? = some e) ∨ (i ∉ vs ∧ Γ'[i]? = some e)
  | [], i, e, h => .inr ⟨by simp, h⟩
  | v :: vs, i, e, h => by
    unfold patch at h
    by_cases z : v = i
    · subst z
      have hv : v < (patch Γ Γ' vs).length := by
        have := (List.getElem?_eq_some_iff.mp h).1
        simpa using this
      rw [List.getElem?_set_self hv] at h
      have hv2 : v < Γ.length := by rw [← hl, ← patch_len Γ Γ' vs]; exact hv
      rw [List.getElem?_eq_getElem hv2] at h ⊢
      exact .inl ⟨by simp, h⟩
    · rw [List.getElem?_set_ne z] at h
      rcases patch_get hl h with ⟨h1, h2⟩ | ⟨h1, h2⟩
      · exact .inl ⟨List.mem_cons_of_mem _ h1, h2⟩
      · exact .inr ⟨by simp only [List.mem_cons, not_or]; exact ⟨fun q => z q.symm, h1⟩, h2⟩
/-- back from the block -/
theorem Env.back {K : PySem.W.Frag} {Γ Γ' : DE} {σ σ' : L2.St} {F H F' H' : Hp} {vs : List Nat} (E : Env K Γ σ F H) (E' : Env K Γ' σ' F' H') (up : Same F F') (hs : wipe σ' vs = wipe σ vs) (hl : σ'.length = σ.length) (hv : ∀ i ∈ vs, (Γ[i]?.bind Ent.adr) = none) : Env K (patch Γ Γ' vs) σ F' H' := by
  have hΓ : Γ'.length = Γ.length := by rw [← E.len, ← E'.len]; exact hl
  have ad : ∀ (i : Nat) (a : Addr), ((patch Γ Γ' vs)[i]?.bind Ent.adr) = some a → (Γ'[i]?.bind Ent.adr) = some a := fun i a q => by
    cases z : (patch Γ Γ' vs)[i]? with
    | none => rw [z] at q; cases q
    | some e =>
      rw [z] at q
      rcases patch_get hΓ z with ⟨h1, h2⟩ | ⟨_, z'⟩
      · have := hv i h1
        rw [h2] at this
        have q : e.adr = some a := q
        rw [show e.adr = none from this] at q
        cases q
      · rw [z']; exact q
  refine ⟨E'.le, by rw [patch_len, ← E'.len]; exact hl.symm, fun i e q => ?_, fun i j a q r => E'.sep i j a (ad i a q) (ad j a r)⟩
  have hi : i < σ.length := by
    have := (List.getElem?_eq_some_iff.mp q).1
    rw [patch_len, ← E'.len, hl] at this
    exact this
  rcases patch_get hΓ q with ⟨h1, h2⟩ | ⟨h1, h2⟩
  · obtain ⟨o, ho, r⟩ := E.ent i e h2
    refine ⟨o, ho, ?_⟩
    cases e with
    | no => trivial
    | is x => obtain ⟨v, e, r⟩ := r; exact ⟨v, e, Rp.mono up r⟩
    | own b xs =>
      have := hv i h1
      rw [h2] at this
      cases this
  · obtain ⟨o, ho, r⟩ := E'.ent i e h2
    have z := congrArg (fun l : L2.St => l[i]?) hs
    have z : (wipe σ' vs)[i]? = (wipe σ vs)[i]? := z
    rw [wipe_at (by omega), wipe_at hi, if_neg h1, if_neg h1] at z
    exact ⟨o, by rw [← z]; exact ho, r⟩
theorem own_patch {Γ Γ' : DE} {vs : List Nat} {a : Addr} (hl : Γ'.length = Γ.length) (hv : ∀ i ∈ vs, (Γ[i]?.bind Ent.adr) = none) (h : Own (patch Γ Γ' vs) a) : Own Γ' a := by
  obtain ⟨i, q⟩ := h
  cases z : (patch Γ Γ' vs)[i]? with
  | none => rw [z] at q; cases q
  | some e =>
    rw [z] at q
    rcases patch_get hl z with ⟨h1, h2⟩ | ⟨_, z'⟩
    · have := hv i h1
      rw [h2] at this
      have q : e.adr = some a := q
      rw [show e.adr = none from this] at q
      cases q
    · exact ⟨i, by rw [z']; exact q⟩
section
variable {X : Cx} {m : Md} {Γ Γ1 Γ2 Γ3 : DE} {e a b c tg iter elt : Expr} {ifs : List Expr} {pos p p2 : Pos} {nm : Str} {scope : Scope}
/-- the context of the comprehension's block -/
abbrev bk (X : Cx) (scope : Scope) (s : Shared) (H : Hp) (C : Addr) (cl : List (Str × Addr)) (fp : List Addr) : Cx := X.blk s H scope (compEnvC scope cl C X.env) fp
def teB (X : Cx) (scope : Scope) (e : Expr) : TE := fun σ H Q => ∀ s H0 C cl fp, wE (bk X scope s H0 C cl fp) e σ H Q
def tgB (X : Cx) (scope : Scope) (e : Expr) : TG := fun v σ H Q => ∀ s H0 C cl fp, wG (bk X scope s H0 C cl fp) e v σ H Q
def ttB (X : Cx) (scope : Scope) (c : Expr) : TT := fun σ H Q => ∀ s H0 C cl fp, wT (bk X scope s H0 C cl fp) c σ H Q
structure TtX (K : PySem.W.Frag) (tt : TT) (Γ : DE) (z : Bool) (Γ' : DE) : Prop where
  sub : ∀ a, Own Γ' a → Own Γ a
  run : ∀ σ F H (Q : Bool → Hp → Prop), Env K Γ σ F H → (∀ F' H', Env K Γ' σ F' H' → Step (Own Γ) F H F' H' → Q z H') → tt σ H Q
theorem ttx_yes {K : PySem.W.Frag} : TtX K tYes Γ true Γ := ⟨sub_refl, fun σ F H Q E q => q F H E Step.refl⟩
theorem ttx_one {z : Bool} (h : ∀ s H0 C cl fp, TX (bk X scope s H0 C cl fp) Γ c z Γ1) (hs : ∀ a, Own Γ1 a → Own Γ a) : TtX X.K (ttB X scope c) Γ z Γ1 :=
  ⟨hs, fun σ F H Q E q s H0 C cl fp => (h s H0 C cl fp).run σ F H Q E q⟩
theorem Env.other {K : PySem.W.Frag} {σ : L2.St} {F H : Hp} {d : Addr} {o : HO} (E : Env K Γ σ F H) (hF : F d = none) (hn : ¬ Own Γ d) : Env K Γ σ F (upd H d o) := by
  refine ⟨fun b x e => by rw [upd_ne (ne_of_none e hF)]; exact E.le _ _ e, E.len, fun i e q => ?_, E.sep⟩
  obtain ⟨w, ho, r⟩ := E.ent i e q
  refine ⟨w, ho, ?_⟩
  cases e with
  | no => trivial
  | is x => exact r
  | own b xs =>
    obtain ⟨e1, e2, vs, e3, r⟩ := r
    have nb : b ≠ d := fun z => hn ⟨i, by rw [q]; exact congrArg some z⟩
    exact ⟨e1, e2, vs, by rw [upd_ne nb]; exact e3, r⟩
theorem px_lcG {α β : Type} [Rp α] [Rp β] {xs : List α} {ys : List β} {tt : TT} (own : List (Str × Nat)) (hI : IX X Γ tg iter xs Γ1) (ok : BlkOk X.N X.env.scope scope own) (ht : ∀ s H0 C cl fp, PTs (bk X scope s H0 C cl fp) ifs tt)
    (I : Nat → List β → DE → Prop) (h0 : I 0 [] Γ1) (hsub : ∀ i acc Γ', I i acc Γ' → (∀ a, Own Γ' a → Own Γ1 a) ∧ ∀ j ∈ own.map (·.2), (Γ'[j]?.bind Ent.adr) = none)
    (hs : ∀ i x acc Γ', xs[i]? = some x → I i acc Γ' → ∃ ts Γ2, (∀ t ∈ ts, t ∈ own.map (·.2)) ∧ (∀ s H0 C cl fp, GX (bk X scope s H0 C cl fp) tg x ts (wipeD Γ' (own.map (·.2))) Γ2) ∧ ∃ z Γ3, TtX X.K tt Γ2 z Γ3 ∧
      if z = true then ∃ y Γ4, (∀ s H0 C cl fp, PX (bk X scope s H0 C cl fp) (sh β) Γ3 elt y Γ4) ∧ acc.length < sizeLine ∧ I (i + 1) (acc ++ [y]) (patch Γ' Γ4 (own.map (·.2))) else I (i + 1) acc (patch Γ' Γ3 (own.map (·.2))))
    (hd : ∀ acc Γ', I xs.length acc Γ' → acc = ys ∧ Γ' = Γ2) (hN : X.N.Nodup) (hs2 : ∀ a, Own Γ2 a → Own Γ1 a) (hc : X.calm = true := by rfl) (hf : ∀ x, foldedSetIterable iter X.env x = pure x := by intro _; rfl) :
    PX X (nw β) Γ (.ListComp elt [⟨tg, iter, ifs, 0⟩] scope pos) ys Γ2 := by
  refine ⟨fun a q => hI.sub a (hs2 a q), fun σ F H Q E q => ?_⟩
  refine wE.of (pe_lc hc hN pI ok (g := tgB X scope tg) (te := teB X scope elt) (fun s H0 C cl fp => ⟨fun pins s2 σ H v u Q I r h => h s H0 C cl fp pins s2 u I r⟩) ht (fun s H0 C cl fp => ⟨fun pins s2 σ H Q I h => h s H0 C cl fp pins s2 I⟩) hf) ?_
  refine hI.run σ F H _ E fun J F1 H1 E1 s1 W => fun D0 hD => ?_
  generalize hvs : own.map (·.2) = vs at *
  have nD : ¬ Own Γ1 D0 := fun z => Own.some z E1 hD
  refine ⟨fun i mm H' => mm = xs.length - i ∧ i ≤ xs.length ∧ ∃ acc Γ' F' ws, I i acc Γ' ∧ Env X.K Γ' σ F' H' ∧ Step (Own Γ) F H F' H' ∧ Same F1 F' ∧ H' D0 = some (.lst ws) ∧ F' D0 = none ∧ RpL X.K F' ws acc, ⟨xs.length, by simp, Nat.zero_le _, [], Γ1, F1, [], h0, E1.new hD, s1.sub (Step.new (O := Own Γ) hD) fun a q => q, Same.refl _, upd_same, E1.free hD, .nil⟩, ?_⟩
  rintro i mm H' ⟨rfl, hi, acc, Γ', F', ws, hi', E', t, up, hw, hFD, rw'⟩
  obtain ⟨sb, vb⟩ := hsub i acc Γ' hi'
  have nD' : ¬ Own Γ' D0 := fun z => nD (sb _ z)
  by_cases hlt : i < xs.length
  · refine .inr ⟨W.go i F' H' up E'.le hlt, fun H2 => ∃ acc Γ3 F3 ws, I (i + 1) acc Γ3 ∧ Env X.K Γ3 σ F3 H2 ∧ Step (Own Γ) F H F3 H2 ∧ Same F1 F3 ∧ H2 D0 = some (.lst ws) ∧ F3 D0 = none ∧ RpL X.K F3 ws acc, fun H2 ⟨acc, Γ3, F3, ws, h⟩ => ⟨xs.length - (i + 1), by omega, rfl, hlt, acc, Γ3, F3, ws, h⟩, fun v H2 y => ?_⟩
    obtain ⟨F2, s2, le2, r2⟩ := W.yld i F' H' v H2 xs[i] up E'.le (List.getElem?_eq_getElem hlt) y
    have E2 : Env X.K Γ' σ F2 H2 := E'.after0 s2 le2 fun _ z => z
    have hw2 : H2 D0 = some (.lst ws) := s2.keep _ _ hw fun z => z
    have hF2 : F2 D0 = none := by
      cases z : F2 D0 with
      | none => rfl
      | some o => rcases s2.fresh D0 hFD (by rw [z]; exact fun z => nomatch z) with z | z
                  · rw [hw] at z; cases z
                  · exact z.elim
    obtain ⟨ts, Γa, hts, g, z, Γb, T, body⟩ := hs i xs[i] acc Γ' (List.getElem?_eq_getElem hlt) hi'
    intro s0 H0 C cl fp
    refine (g s0 H0 C cl fp).run _ F2 H2 v _ (E2.wiped vs) r2 fun σ3 E3 ⟨hl3, ag⟩ => ⟨?_, ?_⟩
    · exact wipe_eq (by rw [hl3, wipe_length]) fun j hj => ag j fun q => hj (hts j q)
    have hw3 : wipe σ3 vs = wipe σ vs := wipe_eq (by rw [hl3, wipe_length]) fun j hj => ag j fun q => hj (hts j q)
    have hl4 : σ3.length = σ.length := by rw [hl3, wipe_length]
    have subA : ∀ a, Own Γa a → Own Γ' a := fun a q => own_wiped ((g s0 H0 C cl fp).sub a q)
    refine T.run σ3 F2 H2 _ E3 fun F4 H4 E4 s4 => ?_
    have nDa : ¬ Own Γa D0 := fun z => nD' (subA _ z)
    have subG : ∀ a, Own Γ' a → Own Γ a := fun a q => hI.sub a (sb a q)
    have hw4 : H4 D0 = some (.lst ws) := s4.keep _ _ hw2 nDa
    have hF4 : F4 D0 = none := by
      cases z : F4 D0 with
      | none => rfl
      | some o => rcases s4.fresh D0 hF2 (by rw [z]; exact fun z => nomatch z) with z | z
                  · rw [hw2] at z; cases z
                  · exact absurd z nDa
    have t4 : Step (Own Γ) F H F4 H4 := (t.sub s2 fun _ z => z.elim).sub s4 fun a q => subG a (subA a q)
    have up4 : Same F' F4 := s2.up.trans s4.up
    cases z with
    | false =>
      simp only [Bool.false_eq_true, if_false] at body ⊢
      exact ⟨acc, _, F4, ws, body, E'.back E4 up4 hw3 hl4 vb, t4, up.trans up4, hw4, hF4, rw'.mono up4⟩
    | true =>
      simp only [if_true] at body ⊢
      obtain ⟨yv, Γc, hy, hz, nx⟩ := body
      intro s5 H5 C5 cl5 fp5
      refine (hy s5 H5 C5 cl5 fp5).run σ3 F4 H4 _ E4 fun u F6 H6 E6 s6 r6 => ?_
      have nDb : ¬ Own Γb D0 := fun z => nDa (T.sub _ z)
      have hw6 : H6 D0 = some (.lst ws) := s6.keep _ _ hw4 nDb
      have hF6 : F6 D0 = none := by
        cases z : F6 D0 with
        | none => rfl
        | some o => rcases s6.fresh D0 hF4 (by rw [z]; exact fun z => nomatch z) with z | z
                    · rw [hw4] at z; cases z
                    · exact absurd z nDb
      have hnD : H D0 = none := s1.there _ hD
      have nDc : ¬ Own Γc D0 := fun z => nDb ((hy s5 H5 C5 cl5 fp5).sub _ z)
      have EB := E'.back E6 (up4.trans s6.up) hw3 hl4 vb
      have hlen : Γc.length = Γ'.length := by rw [← E6.len, hl4, E'.len]
      have nDp : ¬ Own (patch Γ' Γc vs) D0 := fun z => nDc (own_patch hlen vb z)
      have t6 : Step (Own Γ) F H F6 H6 := t4.sub s6 fun a q => subG a (subA a (T.sub a q))
      refine ⟨ws, hw6, by rw [rw'.length]; exact hz, acc ++ [yv], _, F6, ws ++ [u], nx, EB.other hF6 nDp, ⟨t6.up, fun p o e no => ?_, fun p e => ?_, t6.fresh⟩, (up.trans up4).trans s6.up, upd_same, hF6, (rw'.mono (up4.trans s6.up)).snoc r6⟩
      · rw [upd_ne (ne_of_none e hnD)]; exact t6.keep p o e no
      · by_cases q : p = D0
        · rw [q, upd_same] at e; cases e
        · rw [upd_ne q] at e; exact t6.there p e
  · have e : i = xs.length := by omega
    subst e
    obtain ⟨rfl, rfl⟩ := hd acc Γ' hi'
    exact .inl ⟨W.stop _ F' H' up E'.le (Nat.le_refl _), q _ F' H' E' t ⟨D0, ws, rfl, s1.there _ hD, hFD, hw, rw'⟩⟩
/-- [f x for x in xs] -/
theorem px_lc {α β : Type} [Rp α] [Rp β] {xs : List α} {f : α → β} {Γt : α → DE} (own : List (Str × Nat)) (ts : List Nat) (hI : IX X Γ tg iter xs Γ1) (hN : X.N.Nodup) (hz : xs.length < sizeLine) (hg : ∀ x, x ∈ xs → ∀ s H0 C cl fp, GX (bk X scope s H0 C cl fp) tg x ts (wipeD Γ1 (own.map (·.2))) (Γt x))
    (he : ∀ x, x ∈ xs → ∀ s H0 C cl fp, PX (bk X scope s H0 C cl fp) (sh β) (Γt x) elt (f x) (Γt x)) (ok : BlkOk X.N X.env.scope scope own := by exact blkOk_by (by kernel_rfl)) (hp : ∀ x, patch Γ1 (Γt x) (own.map (·.2)) = Γ1 := by intro _; rfl)
    (hts : ∀ t ∈ ts, t ∈ own.map (·.2) := by decide) (hv : ((own.map (·.2)).all fun j => (Γ1[j]?.bind Ent.adr).isNone) = true := by rfl) (hc : X.calm = true := by rfl) (hf : ∀ x, foldedSetIterable iter X.env x = pure x := by intro _; rfl) :
    PX X (nw β) Γ (.ListComp elt [⟨tg, iter, [], 0⟩] scope pos) (xs.map f) Γ1 := by
  refine px_lcG own hI ok (fun s H0 C cl fp => pts_nil) (fun i acc Γ' => acc = (xs.take i).map f ∧ Γ' = Γ1) ⟨rfl, rfl⟩ (fun i acc Γ' ⟨_, e⟩ => by subst e; exact ⟨sub_refl, fun j hj => by simpa using List.all_eq_true.mp hv j hj⟩) (fun i x acc Γ' hx ⟨e1, e2⟩ => ?_) (fun acc Γ' ⟨e1, e2⟩ => ⟨by rw [e1, List.take_length], e2⟩) hN sub_refl hc hf
  subst e1 e2
  have hm := List.mem_of_getElem? hx
  refine ⟨ts, Γt x, hts, hg x hm, true, Γt x, ttx_yes, ?_⟩
  rw [if_pos rfl]
  refine ⟨f x, Γt x, he x hm, ?_, ?_, hp x⟩
  · rw [List.length_map, List.length_take]; omega
  · rw [List.take_add_one, hx, List.map_append]; rfl
/-- [f x for x in xs if c x] -/
theorem px_lcIf {α β : Type} [Rp α] [Rp β] {xs : List α} {f : α → β} {k : α → Bool} {Γt : α → DE} (own : List (Str × Nat)) (ts : List Nat) (hI : IX X Γ tg iter xs Γ1) (hN : X.N.Nodup) (hz : xs.length < sizeLine) (hg : ∀ x, x ∈ xs → ∀ s H0 C cl fp, GX (bk X scope s H0 C cl fp) tg x ts (wipeD Γ1 (own.map (·.2))) (Γt x))
    (ht : ∀ x, x ∈ xs → ∀ s H0 C cl fp, TX (bk X scope s H0 C cl fp) (Γt x) c (k x) (Γt x))
    (he : ∀ x, x ∈ xs → k x = true → ∀ s H0 C cl fp, PX (bk X scope s H0 C cl fp) (sh β) (Γt x) elt (f x) (Γt x)) (ok : BlkOk X.N X.env.scope scope own := by exact blkOk_by (by kernel_rfl)) (hp : ∀ x, patch Γ1 (Γt x) (own.map (·.2)) = Γ1 := by intro _; rfl)
    (hts : ∀ t ∈ ts, t ∈ own.map (·.2) := by decide) (hv : ((own.map (·.2)).all fun j => (Γ1[j]?.bind Ent.adr).isNone) = true := by rfl) (hc : X.calm = true := by rfl) (hf : ∀ x, foldedSetIterable iter X.env x = pure x := by intro _; rfl) :
    PX X (nw β) Γ (.ListComp elt [⟨tg, iter, [c], 0⟩] scope pos) ((xs.filter k).map f) Γ1 := by
  refine px_lcG own hI ok (tt := ttB X scope c) (fun s H0 C cl fp => pts_one ⟨fun pins s2 σ H Q I h => h s H0 C cl fp pins s2 I⟩) (fun i acc Γ' => acc = ((xs.take i).filter k).map f ∧ Γ' = Γ1) ⟨rfl, rfl⟩ (fun i acc Γ' ⟨_, e⟩ => by subst e; exact ⟨sub_refl, fun j hj => by simpa using List.all_eq_true.mp hv j hj⟩) (fun i x acc Γ' hx ⟨e1, e2⟩ => ?_) (fun acc Γ' ⟨e1, e2⟩ => ⟨by rw [e1, List.take_length], e2⟩) hN sub_refl hc hf
  subst e1 e2
  have hm := List.mem_of_getElem? hx
  refine ⟨ts, Γt x, hts, hg x hm, k x, Γt x, ttx_one (ht x hm) sub_refl, ?_⟩
  have e3 : xs.take (i + 1) = xs.take i ++ [x] := by rw [List.take_add_one, hx]; rfl
  by_cases hk : k x = true
  · rw [if_pos hk]
    refine ⟨f x, Γt x, he x hm hk, ?_, ?_, hp x⟩
    · have := List.length_filter_le k (xs.take i)
      rw [List.length_take] at this
      rw [List.length_map]; omega
    · rw [e3, List.filter_append, List.map_append, List.filter_cons, if_pos hk]; rfl
  · rw [if_neg hk]
    refine ⟨?_, hp x⟩
    rw [e3, List.filter_append, List.map_append, List.filter_cons, if_neg hk]; simp
end
end G
namespace G
open PySem PySem.Spec PyProof.Rows L2
open Rp (rp)
/-! ### defs by their names -/
structure DefAt (K : PySem.W.Frag) (mg : Str → Option Value) (x : Str) (st : Stmt) (dvs : List V) (kws : List (Str × V)) : Prop where
  df : ∃ fd, FunD K x x (defArgs st) (defBody st) (defScope st) dvs kws (He.ga K x) fd
  gl : mg x = some (.ref (He.ga K x))
/-- a def that may be called by its name -/
def Can (P : Program) (w : World) (K : PySem.W.Frag) (mg : Str → Option Value) (base : Heap) (CX : CXT) (k : Nat) (x : Str) (ps : List Str) (dvs : List V) (sp : Sp) : Prop :=
  ∃ (f : Addr) (fd : FuncData) (ds : List Value), mg x = some (.ref f) ∧ FnOk P w K mg base CX k f fd ps sp ∧ Binds K fd ps ds ∧ Vals dvs ds ∧ PySem.W.keepIn K (.ref f) = true ∧ ∃ oc od osl, K.lookup f = some ⟨oc, od, .func fd, osl⟩
/-- how the arguments come to the parameters, without defaults -/
def Plain (st : Stmt) (x : Str) (ps : List Str) : Prop := ∀ (kV doc pm : Value) (an : Option Addr) (cdv ct : Value) (us : List Value), us.length = ps.length → bindArgs (PySem.W.fnOf x x (defArgs st) (defBody st) (defScope st) .none kV doc pm an cdv ct) ⟨us, []⟩ = pure (ps.zip us)
section
variable {P : Program} {w : World} {K : PySem.W.Frag} {mg : Str → Option Value} {base : Heap} {x : Str} {sst : Stmt} {N ps : List Str} {k : Nat} {m : Md} {R : DE → m.β → DE → Prop}
abbrev cxN (P : Program) (w : World) (K : PySem.W.Frag) (mg : Str → Option Value) (base : Heap) (N : List Str) (x : Str) (sst : Stmt) (f : Addr) (cdv : Value) (A : Around) (outer : List PySem.Env) (s : Shared) (H : Hp) (E : XK) : Cx := (cxOf CX0 P w K mg base N x (defScope sst) f cdv A outer s H E).nox
/-- what is wanted at a def's end -/
@[reducible] def axD (m : Md) (K : PySem.W.Frag) (x : m.β) (Γ Γ' : DE) : Ax m := { nx := fun Γ'' => (∀ F H F' H', m.ok K F H F' H' .non x) ∧ Fin Γ Γ' Γ'', rt := fun y Γ'' => y = x ∧ Fin Γ Γ' Γ'' }
theorem fnD {dvs : List V} {kws : List (Str × V)} {fd : FuncData} {qual : Str} {f : Addr} (F : FunD K x qual (defArgs sst) (defBody sst) (defScope sst) dvs kws f fd) (S : FnScope N ps (defScope sst))
    (hbody : ∀ (cdv : Value) (A : Around) (outer : List PySem.Env) (s : Shared) (H : Hp) (E : XK) (Γ : DE) (x : m.β) (Γ' : DE), Room k (A.deeper (envOfC qual (defScope sst) s.heap.objs.size f cdv)) → R Γ x Γ' →
      SD (cxOf CX0 P w K mg base N qual (defScope sst) f cdv A outer s H E).nox m (Γ ++ List.replicate (N.length - Γ.length) .no) (defBody sst) (axD m K x Γ Γ')) :
    FnOk P w K mg base CX0 (k + 1) f fd ps (spM K m ps.length R) := by
  refine F.ok S (fun vs H Q E h => h.1) (fun cdv A outer s H vs Q E hr h => ⟨wS _ _, PSs.nox pS, ?_⟩)
  obtain ⟨hl, F0, Γ, y, Γ', hR, E0, q⟩ := h
  have hΓ : Γ.length = ps.length := by rw [← hl]; simpa using E0.len.symm
  refine hbody cdv A outer s H E Γ y Γ' hr hR (L2.start N vs) F0 H _ (start_env E0) ⟨fun Γ'' σ' F' H' h E' t => ?_, fun z Γ'' σ' F' H' v h E' t r => ?_, fun _ _ _ _ h => h.elim, fun _ _ _ _ h => h.elim⟩
  · exact q .non F' H' (h.2.env E0 E' t.st.up) (Step.refl.trans t.st fun p z => .inl (own_start z)) (h.1 _ _ _ _)
  · obtain ⟨rfl, h2⟩ := h
    exact q v F' H' (h2.env E0 E' t.st.up) (Step.refl.trans t.st fun p z => .inl (own_start z)) r
theorem fun_lk {x2 qual : Str} {params : Arguments} {body : List Stmt} {scope : Scope} {dvs : List V} {kws : List (Str × V)} {f : Addr} {fd : FuncData} (F : FunD K x2 qual params body scope dvs kws f fd) : ∃ oc od osl, K.lookup f = some ⟨oc, od, .func fd, osl⟩ := by
  obtain ⟨oc, od, dV, kV, doc, pm, an, cdv, ct, osl, rfl, lk, _⟩ := F.ex
  exact ⟨oc, od, osl, lk⟩
/-- THE RULE: a def without defaults -/
theorem canD (T : DefAt K mg x sst [] []) (S : FnScope N ps (defScope sst)) (b : Plain sst x ps)
    (hbody : ∀ (cdv : Value) (A : Around) (outer : List PySem.Env) (s : Shared) (H : Hp) (E : XK) (Γ : DE) (y : m.β) (Γ' : DE), Room k (A.deeper (envOfC x (defScope sst) s.heap.objs.size (He.ga K x) cdv)) → R Γ y Γ' →
      SD (cxN P w K mg base N x sst (He.ga K x) cdv A outer s H E) m (Γ ++ List.replicate (N.length - Γ.length) .no) (defBody sst) (axD m K y Γ Γ')) :
    Can P w K mg base CX0 (k + 1) x ps [] (spM K m ps.length R) := by
  obtain ⟨fd, F⟩ := T.df
  have lk := fun_lk F
  exact ⟨_, fd, [], T.gl, fnD F S hbody, F.bindsN b, .nil, F.kp, lk⟩
/-- .. with defaults at the end -/
theorem canD1 {dvs : List V} (n j : Nat) (T : DefAt K mg x sst dvs []) (S : FnScope N ps (defScope sst)) (hd : dvs ≠ []) (hn : n + (dvs.length - j) = ps.length)
    (b : ∀ (T : Addr) (kV doc pm : Value) (an : Option Addr) (cdv ct : Value) (us its : List Value), us.length = n → its.length = dvs.length →
      ∃ k, bindArgs (PySem.W.fnOf x x (defArgs sst) (defBody sst) (defScope sst) (.ref T) kV doc pm an cdv ct) ⟨us, []⟩ = seqItems? (.ref T) >>= k ∧ k (some its.toArray) = pure (ps.zip (us ++ its.drop j)))
    (hbody : ∀ (cdv : Value) (A : Around) (outer : List PySem.Env) (s : Shared) (H : Hp) (E : XK) (Γ : DE) (y : m.β) (Γ' : DE), Room k (A.deeper (envOfC x (defScope sst) s.heap.objs.size (He.ga K x) cdv)) → R Γ y Γ' →
      SD (cxN P w K mg base N x sst (He.ga K x) cdv A outer s H E) m (Γ ++ List.replicate (N.length - Γ.length) .no) (defBody sst) (axD m K y Γ Γ')) :
    Can P w K mg base CX0 (k + 1) x ps (dvs.drop j) (spM K m ps.length R) := by
  obtain ⟨fd, F⟩ := T.df
  obtain ⟨ds, hv, hb⟩ := F.binds1 n j hd hn b
  exact ⟨_, fd, ds, T.gl, fnD F S hbody, hb, hv, F.kp, fun_lk F⟩
theorem Can.mono {CX : CXT} {j k : Nat} {dvs : List V} {sp : Sp} (C : Can P w K mg base CX j x ps dvs sp) (h : j ≤ k) : Can P w K mg base CX k x ps dvs sp := by
  obtain ⟨f, fd, ds, g, F, b, v, kp, lk⟩ := C
  exact ⟨f, fd, ds, g, F.mono h, b, v, kp, lk⟩
theorem Can.imp {CX : CXT} {dvs : List V} {sp sp' : Sp} (C : Can P w K mg base CX k x ps dvs sp) (h : ∀ vs H Q E, sp' vs H Q E → sp vs H Q E) : Can P w K mg base CX k x ps dvs sp' := by
  obtain ⟨f, fd, ds, g, F, b, v, kp, lk⟩ := C
  exact ⟨f, fd, ds, g, F.imp h, b, v, kp, lk⟩
end
section
variable {X : Cx} {Γ Γ1 : DE} {e : Expr} {es : List Expr} {pos p : Pos} {nm : Str}
theorem px_c {k : Nat} {ps : List Str} {dvs : List V} {dents ents : DE} {m1 : Md} {R : DE → m1.β → DE → Prop} {x : m1.β} {Γc : DE} 
    (C : Can X.prog X.w X.K X.mg X.base CX0 k nm ps dvs (spM X.K m1 ps.length R)) (hr : Room k X.A) (ha : AX X Γ (e :: es) ents Γ1) (hR : R (ents ++ dents) x Γc) (hdo : DefOk X.K dvs dents) (hn : (ents ++ dents).length = ps.length := by rfl)
    (hi : IsOnly (ents ++ dents) := by rfl) (hg : Gl X nm := by rfl)
    (hdb : (nm == ("__debug__" : Str)) = false := by decide) (he : starEach (e :: es) X.env = (false, eval e X.env) :: starEach es X.env := by rfl) (hpl : (backTo pos (starEach es X.env)).any (·.1) = false := by rfl) :
    PX X m1 Γ (.Call (.Name nm p) (e :: es) [] pos) x Γ1 := by
  obtain ⟨f, fd, ds, g, F, b, v, kp, lk⟩ := C
  exact px_call F hr g kp b v hdo pass0 ha hR hn hi hg hdb he hpl
theorem px_cO {k : Nat} {ps : List Str} {dvs : List V} {dents ents : DE} {m1 : Md} {R : DE → m1.β → DE → Prop} {x : m1.β} {Γc : DE} {α : Type} [Rp α] {ad : Addr} {xs ys : List α} (i : Nat)
    (C : Can X.prog X.w X.K X.mg X.base CX0 k nm ps dvs (spM X.K m1 ps.length R)) (hr : Room k X.A) (ha : AX X Γ (e :: es) (.own ad xs :: ents) Γ1) (h1 : Γ1[i]? = some (.own ad xs)) (hR : R (.own ad xs :: ents ++ dents) x (.own ad ys :: Γc)) (hdo : DefOk X.K dvs dents) (hn : (Ent.own ad xs :: ents ++ dents).length = ps.length := by rfl)
    (hi : IsOnly (ents ++ dents) := by rfl) (hg : Gl X nm := by rfl)
    (hdb : (nm == ("__debug__" : Str)) = false := by decide) (he : starEach (e :: es) X.env = (false, eval e X.env) :: starEach es X.env := by rfl) (hpl : (backTo pos (starEach es X.env)).any (·.1) = false := by rfl) :
    PX X m1 Γ (.Call (.Name nm p) (e :: es) [] pos) x (Γ1.set i (.own ad ys)) := by
  obtain ⟨f, fd, ds, g, F, b, v, kp, lk⟩ := C
  exact px_callO i F hr g kp b v hdo pass0 ha h1 hR hn hi hg hdb he hpl
end
section
variable {X : Cx} {Γ Γ1 Γ2 : DE} {e a b : Expr} {pos p p2 : Pos} {nm : Str}
/-- list(range(a, b)) -/
theorem px_listR2 {n k : Int} (hl : X.mg "list" = none) (hm : X.mg "range" = none) (h : PX X (sh Int) Γ a n Γ1) (h' : PX X (sh Int) Γ1 b k Γ2) (ok : RgOk n k)
    (hp : X.mg "list" = none → X.mg "range" = none → PE X (.Call (.Name "list" p) [.Call (.Name "range" p2) [a, b] [] pos] [] pos2) (tLstRg (tRg2 (wE X a) (wE X b))) := by intro hl hm; exact pe_listRg rfl rfl hl (prg_2 rfl hm pE pE)) :
    PX X (nw Int) Γ (.Call (.Name "list" p) [.Call (.Name "range" p2) [a, b] [] pos] [] pos2) (rng n (k - n).toNat) Γ2 :=
  ⟨fun p q => h.sub p (h'.sub p q), fun σ F H Q E q => wE.of (hp hl hm) (h.run σ F H _ E fun v F1 H1 E1 s1 r1 => h'.run σ F1 H1 _ E1 fun w F2 H2 E2 s2 r2 => ⟨n, k, r1, r2, ok, fun q2 hq => q _ F2 _ (E2.new hq) ((s1.sub s2 h.sub).sub (Step.new (O := Own Γ) hq) fun a z => z) ⟨q2, _, rfl, s1.there _ (s2.there _ hq), E2.free hq, upd_same, by
    unfold rng
    have go : ∀ l : List Nat, RpL X.K F2 (l.map fun i => V.int (n + (i : Nat))) (l.map fun (i : Nat) => n + (i : Int)) := fun l => by
      induction l with
      | nil => exact .nil
      | cons i r ih => exact .cons rfl ih
    exact go _⟩⟩)⟩
theorem px_isiI {T : String} {z : Bool} {n : Int} (hm : X.mg "isinstance" = none) (h : PX X (sh Int) Γ a n Γ1) (hb : PX X (sh V) Γ1 b (V.ty T) Γ1) (hk : kitB "int" T = some z)
    (hp : X.mg "isinstance" = none → ∀ {r : List V → Hp → VK → Prop} {t : TA}, CallR X (.builtin "isinstance") r → PA X [a, b] t → PE X (.Call (.Name "isinstance" p) [a, b] [] pos) (tCB r t) := by intro hm r t h1 h2; exact pe_callB h1 (by rfl) hm (by decide +kernel) h2) (ha : PA X [a, b] (tCons (wE X a) (tCons (wE X b) tNil)) := by exact pa_cons pE (pa_cons pE pa_nil)) :
    PX X (sh Bool) Γ (.Call (.Name "isinstance" p) [a, b] [] pos) z Γ1 :=
  px_isi (m1 := sh Int) hm h hb (.ty T) (kit_ty hk) (fun F0 H0 F H v F2 H2 r s le => by rw [show v = V.int n from r]; exact .base (.int n)) hp ha
end
/-! ### calls by keywords -/
structure KX (X : Cx) (Γ : DE) (kws : List Keyword) (ents : DE) (Γ' : DE) : Prop where
  sub : ∀ a, Own Γ' a → Own Γ a
  run : ∃ t : TA, PK X kws t ∧ ∀ σ F H (Q : List V → Hp → Prop), Env X.K Γ σ F H → (∀ vs F' H', Env X.K Γ' σ F' H' → Step (Own Γ) F H F' H' → EntsOk X.K F' H' vs ents → Q vs H') → t σ H Q
section
variable {X : Cx} {Γ Γ1 Γ2 : DE} {e a b : Expr} {pos p p2 kpos : Pos} {nm : Str} {kws : List Keyword} {on : Option Str}
theorem kx_nil : KX X Γ [] [] Γ := ⟨sub_refl, tNil, pk_nil, fun σ F H Q E q => q [] F H E Step.refl ⟨rfl, fun i e h => by simp at h⟩⟩
theorem kx_cons {α : Type} [Rp α] {x : α} {ents : DE} (h : PX X (sh α) Γ e x Γ1) (t : KX X Γ1 kws ents Γ2) : KX X Γ (⟨on, e, kpos⟩ :: kws) (.is x :: ents) Γ2 := by
  obtain ⟨tk, pk, run⟩ := t.run
  refine ⟨fun p q => h.sub p (t.sub p q), tCons (wE X e) tk, pk_cons pE pk, fun σ F H Q E q => ?_⟩
  refine h.run σ F H _ E fun v F1 H1 E1 s1 r1 => run σ F1 H1 _ E1 fun vs F2 H2 E2 s2 r2 => q (v :: vs) F2 H2 E2 (s1.sub s2 h.sub) ⟨by simp [r2.1], fun i e q => ?_⟩
  cases i with
  | zero => simp at q; subst q; exact ⟨v, rfl, v, rfl, Rp.mono s2.up r1⟩
  | succ i => simpa using r2.2 i e (by simpa using q)
theorem pe_callN0 {CX : CXT} {k : Nat} {f : Addr} {fd : FuncData} {ps ks : List Str} {sp : Sp} {E : XK} {x : Str} {tk : TA} {g : List Value → List Value → List Value} {gV : List V → List V → List V} (F : FnOk X.prog X.w X.K X.mg X.base CX k f fd ps sp) (hr : Room k X.A) (hg : Gl X x) (hm : X.mg x = some (.ref f)) (hk : PySem.W.keepIn X.K (.ref f) = true) (hb : KBn X.K fd ps 0 ks g gV) (hx : Passes CX X E)
    (hkw : PK X kws tk) (hall : (backToKw pos (keywordEach kws X.env)).all (·.1.isSome) = true := by rfl) (hks : (backToKw pos (keywordEach kws X.env)).filterMap (·.1) = ks := by rfl)
    (hdb : (x == ("__debug__" : Str)) = false := by decide) (hpl : ((backTo pos (starEach [] X.env)).any (·.1) || (backToKw pos (keywordEach kws X.env)).any (·.1.isNone)) = false := by rfl) :
    PE X (.Call (.Name x p) [] kws pos) (tCallN 0 ks.length sp gV E tNil tk) := by
  refine ⟨fun pins s σ H Q I h => ?_⟩
  refine wpAny_Call_Name_kw (ld_glob I hg hm ?_ hdb)
  refine PySem.W.callWith_KW0 (h₀ := X.base) I.ok.mod.kin hk hall ?_ hpl
  refine thn (hkw.run pos pins s σ H _ I h) fun ws s2 ⟨zs, H2, I2, rz, l1, l2, q2⟩ => ⟨I2.kIn, ?_⟩
  rw [hks]
  exact run_fnN (us := []) (vs := []) F hr hb hx I2 .nil rz rfl l2 q2
/-- f(k = v, ..): the keywords in the parameters' order -/
theorem px_ck0 {k : Nat} {ps ks : List Str} {ents : DE} {m1 : Md} {R : DE → m1.β → DE → Prop} {x : m1.β} {Γc : DE} {st : Stmt}
    (C : Can X.prog X.w X.K X.mg X.base CX0 k nm ps [] (spM X.K m1 ps.length R)) (T : DefAt X.K X.mg nm st [] []) (hr : Room k X.A) (ha : KX X Γ kws ents Γ1) (hR : R ents x Γc)
    (hb : ∀ (kV doc pm : Value) (an : Option Addr) (cdv ct : Value) (ws : List Value), ws.length = ks.length → bindArgs (PySem.W.fnOf nm nm (defArgs st) (defBody st) (defScope st) .none kV doc pm an cdv ct) ⟨[], ks.zip ws⟩ = pure (ps.zip ws)) (hn : ents.length = ps.length := by rfl) (hn2 : ks.length = ps.length := by rfl)
    (hi : IsOnly ents := by rfl) (hg : Gl X nm := by rfl) (hall : (backToKw pos (keywordEach kws X.env)).all (·.1.isSome) = true := by rfl) (hks : (backToKw pos (keywordEach kws X.env)).filterMap (·.1) = ks := by rfl)
    (hdb : (nm == ("__debug__" : Str)) = false := by decide) (hpl : ((backTo pos (starEach [] X.env)).any (·.1) || (backToKw pos (keywordEach kws X.env)).any (·.1.isNone)) = false := by rfl) :
    PX X m1 Γ (.Call (.Name nm p) [] kws pos) x Γ1 := by
  obtain ⟨f, fd, ds, g, Ff, b, v, kp, oc, od, osl, lk⟩ := C
  obtain ⟨fd2, F2⟩ := T.df
  obtain ⟨oc2, od2, dV, kV, doc, pm, an, cdv, ct, osl2, rfl, lk2, _, hD, _⟩ := F2.ex
  have e1 := g.symm.trans T.gl
  cases e1
  rw [lk] at lk2
  cases lk2
  rcases hD with ⟨_, rfl⟩ | ⟨z, _⟩
  · have kb : KBn X.K (PySem.W.fnOf nm nm (defArgs st) (defBody st) (defScope st) .none kV doc pm an cdv ct) ps 0 ks (fun us ws => us ++ ws) (fun us ws => us ++ ws) := by
      refine ⟨fun s us ws X l1 l2 => ?_, fun a b => L2.Vals.append a b⟩
      obtain rfl : us = [] := List.eq_nil_of_length_eq_zero l1
      exact .of_eq (hb kV doc pm an cdv ct ws l2)
    obtain ⟨tk, pk, run⟩ := ha.run
    have no : ∀ (i : Nat) (a : Addr), (ents[i]?.bind Ent.adr) = some a → False := fun i a q => by
      cases z : ents[i]? with
      | none => rw [z] at q; cases q
      | some e =>
        rw [z] at q
        have q : e.adr = some a := q
        rw [hi.at e (List.mem_of_getElem? z)] at q
        cases q
    refine ⟨ha.sub, fun σ F H Q E0 q => wE.of (pe_callN0  Ff hr hg T.gl kp kb pass0 pk hall hks hdb hpl) ?_⟩
    refine run σ F H _ E0 fun vs F1 H1 E1 s1 r1 => ⟨rfl, by rw [r1.1, hn, hn2], ?_⟩
    refine ⟨by show vs.length = _; rw [r1.1, hn], F1, _, x, Γc, hR, entsEnv E1.le r1 (fun i j a q _ => (no i a q).elim), fun v F' H' E' s r => ?_⟩
    have on : ∀ a, ¬ Own ents a := fun a ⟨i, z⟩ => no i a z
    exact q v F' H' (E1.after0 s E'.le on) (s1.sub (s.sub Step.refl (fun p h => h)) fun p z => absurd z (on p)) (m1.pre s1.there r)
  · exact absurd rfl z
end
end G
namespace G
open PySem PySem.Spec PyProof.Rows L2
open Rp (rp)
/-! ### a law's end -/
theorem rpl_ints {K : PySem.W.Frag} {F : Hp} : ∀ ns : List Int, RpL K F (ns.map V.int) ns
  | [] => .nil
  | _ :: r => .cons rfl (rpl_ints r)
theorem hsp_law {K : PySem.W.Frag} {R : DE → Bool → DE → Prop} (hR : ∀ xs : Scr Int, xs.l.length ≤ 63 → R [.is xs] true [.is xs]) (H : Hp) (a : Addr) (ns : List Int) (hl : ns.length ≤ 63) (hS : SqL K H a (ns.map V.int)) :
    spM K (sh Bool) 1 R [.ref a] H (fun v _ => v = .bl true) fun _ _ _ => False := by
  refine ⟨rfl, H, _, true, _, hR ⟨ns⟩ hl, ⟨Same.refl _, rfl, fun i e q => ?_, fun i j b q r => ?_⟩, fun v F' H' _ _ r => r⟩
  · cases i with
    | zero =>
      cases q
      exact ⟨_, rfl, _, rfl, a, _, rfl, hS, rpl_ints ns⟩
    | succ i => simp at q
  · cases i with
    | zero => simp [Ent.adr] at q
    | succ i => simp at q
theorem fn_law {P : Program} {w : World} {K : PySem.W.Frag} {mg : Str → Option Value} {base : Heap} {k : Nat} {x : Str} {ps : List Str} {sp : Sp} {f : Addr} {fd : FuncData} {x2 qual : Str} {params : Arguments} {body : List Stmt} {scope : Scope} {dvs : List V} {kws : List (Str × V)} (g : mg x = some (.ref f)) (F : FunD K x2 qual params body scope dvs kws f fd)
    (C : Can P w K mg base CX0 k x ps [] sp) : FnOk P w K mg base CX0 k f fd ps sp := by
  obtain ⟨f', fd', ds, g', Ff, _, _, _, oc, od, osl, lk⟩ := C
  rw [g] at g'
  cases g'
  obtain ⟨oc2, od2, osl2, lk2⟩ := fun_lk F
  rw [lk] at lk2
  cases lk2
  exact Ff
end G
namespace L
open PySem PySem.Spec PyProof.Rows L2 G
def topS (i : Nat) : Stmt := PySem.Challenge.pw_firstgoers_k37_rounds_of_many.main.body.getD i (.Pass ⟨0, 0, 0, 0⟩)
abbrev st_is_whole : Stmt := topS 4
abbrev ns_is_whole : List Str := ["thing", "least"]
abbrev ps_is_whole : List Str := ["thing", "least"]
theorem sc_is_whole : FnScope ns_is_whole ps_is_whole (defScope st_is_whole) := ⟨rfl, rfl, rfl, by decide +kernel, rfl, by decide +kernel, by decide +kernel⟩
abbrev st_least_rings : Stmt := topS 5
abbrev ns_least_rings : List Str := ["many", "k"]
abbrev ps_least_rings : List Str := ["many"]
theorem sc_least_rings : FnScope ns_least_rings ps_least_rings (defScope st_least_rings) := ⟨rfl, rfl, rfl, by decide +kernel, rfl, by decide +kernel, by decide +kernel⟩
theorem b_least_rings : Plain st_least_rings "least_rings" ps_least_rings := fun _ _ _ _ _ _ us hl => match us, hl with | [_], _ => rfl
abbrev st_common : Stmt := topS 7
abbrev ns_common : List Str := ["one", "other"]
abbrev ps_common : List Str := ["one", "other"]
theorem sc_common : FnScope ns_common ps_common (defScope st_common) := ⟨rfl, rfl, rfl, by decide +kernel, rfl, by decide +kernel, by decide +kernel⟩
theorem b_common : Plain st_common "common" ps_common := fun _ _ _ _ _ _ us hl => match us, hl with | [_, _], _ => rfl
abbrev st_least_multiple : Stmt := topS 8
abbrev ns_least_multiple : List Str := ["numbers", "found", "number"]
abbrev ps_least_multiple : List Str := ["numbers"]
theorem sc_least_multiple : FnScope ns_least_multiple ps_least_multiple (defScope st_least_multiple) := ⟨rfl, rfl, rfl, by decide +kernel, rfl, by decide +kernel, by decide +kernel⟩
theorem b_least_multiple : Plain st_least_multiple "least_multiple" ps_least_multiple := fun _ _ _ _ _ _ us hl => match us, hl with | [_], _ => rfl
abbrev st_choices : Stmt := topS 9
abbrev ns_choices : List Str := ["many", "some", "found", "k"]
abbrev ps_choices : List Str := ["many", "some"]
theorem sc_choices : FnScope ns_choices ps_choices (defScope st_choices) := ⟨rfl, rfl, rfl, by decide +kernel, rfl, by decide +kernel, by decide +kernel⟩
theorem b_choices : Plain st_choices "choices" ps_choices := fun _ _ _ _ _ _ us hl => match us, hl with | [_, _], _ => rfl
abbrev st_orders : Stmt := topS 10
abbrev ns_orders : List Str := ["many", "found", "k"]
abbrev ps_orders : List Str := ["many"]
theorem sc_orders : FnScope ns_orders ps_orders (defScope st_orders) := ⟨rfl, rfl, rfl, by decide +kernel, rfl, by decide +kernel, by decide +kernel⟩
theorem b_orders : Plain st_orders "orders" ps_orders := fun _ _ _ _ _ _ us hl => match us, hl with | [_], _ => rfl
abbrev st_checked_number : Stmt := topS 12
abbrev ns_checked_number : List Str := ["folk"]
abbrev ps_checked_number : List Str := ["folk"]
theorem sc_checked_number : FnScope ns_checked_number ps_checked_number (defScope st_checked_number) := ⟨rfl, rfl, rfl, by decide +kernel, rfl, by decide +kernel, by decide +kernel⟩
theorem b_checked_number : Plain st_checked_number "checked_number" ps_checked_number := fun _ _ _ _ _ _ us hl => match us, hl with | [_], _ => rfl
abbrev st_parted : Stmt := topS 13
abbrev ns_parted : List Str := ["folk", "k"]
abbrev ps_parted : List Str := ["folk"]
theorem sc_parted : FnScope ns_parted ps_parted (defScope st_parted) := ⟨rfl, rfl, rfl, by decide +kernel, rfl, by decide +kernel, by decide +kernel⟩
theorem b_parted : Plain st_parted "parted" ps_parted := fun _ _ _ _ _ _ us hl => match us, hl with | [_], _ => rfl
abbrev st_settled_many : Stmt := topS 14
abbrev ns_settled_many : List Str := ["folk", "k", "more"]
abbrev ps_settled_many : List Str := ["folk"]
theorem sc_settled_many : FnScope ns_settled_many ps_settled_many (defScope st_settled_many) := ⟨rfl, rfl, rfl, by decide +kernel, rfl, by decide +kernel, by decide +kernel⟩
theorem b_settled_many : Plain st_settled_many "settled_many" ps_settled_many := fun _ _ _ _ _ _ us hl => match us, hl with | [_], _ => rfl
abbrev st_round_days : Stmt := topS 15
abbrev ns_round_days : List Str := ["folk", "k", "more"]
abbrev ps_round_days : List Str := ["folk"]
theorem sc_round_days : FnScope ns_round_days ps_round_days (defScope st_round_days) := ⟨rfl, rfl, rfl, by decide +kernel, rfl, by decide +kernel, by decide +kernel⟩
theorem b_round_days : Plain st_round_days "round_days" ps_round_days := fun _ _ _ _ _ _ us hl => match us, hl with | [_], _ => rfl
abbrev st_rounds_many : Stmt := topS 16
abbrev ns_rounds_many : List Str := ["folk"]
abbrev ps_rounds_many : List Str := ["folk"]
theorem sc_rounds_many : FnScope ns_rounds_many ps_rounds_many (defScope st_rounds_many) := ⟨rfl, rfl, rfl, by decide +kernel, rfl, by decide +kernel, by decide +kernel⟩
theorem b_rounds_many : Plain st_rounds_many "rounds_many" ps_rounds_many := fun _ _ _ _ _ _ us hl => match us, hl with | [_], _ => rfl
abbrev st__law_cell_at : Stmt := topS 18
abbrev ns__law_cell_at : List Str := ["_law_script", "_law_k"]
abbrev ps__law_cell_at : List Str := ["_law_script", "_law_k"]
theorem sc__law_cell_at : FnScope ns__law_cell_at ps__law_cell_at (defScope st__law_cell_at) := ⟨rfl, rfl, rfl, by decide +kernel, rfl, by decide +kernel, by decide +kernel⟩
theorem b__law_cell_at : Plain st__law_cell_at "_law_cell_at" ps__law_cell_at := fun _ _ _ _ _ _ us hl => match us, hl with | [_, _], _ => rfl
abbrev st__law_mixed : Stmt := topS 19
abbrev ns__law_mixed : List Str := ["_law_cell", "_law_k", "_law_low"]
abbrev ps__law_mixed : List Str := ["_law_cell", "_law_k"]
theorem sc__law_mixed : FnScope ns__law_mixed ps__law_mixed (defScope st__law_mixed) := ⟨rfl, rfl, rfl, by decide +kernel, rfl, by decide +kernel, by decide +kernel⟩
theorem b__law_mixed : Plain st__law_mixed "_law_mixed" ps__law_mixed := fun _ _ _ _ _ _ us hl => match us, hl with | [_, _], _ => rfl
abbrev st__law_source : Stmt := topS 20
abbrev ns__law_source : List Str := ["_law_script", "_law_k", "_law_cell"]
abbrev ps__law_source : List Str := ["_law_script", "_law_k"]
theorem sc__law_source : FnScope ns__law_source ps__law_source (defScope st__law_source) := ⟨rfl, rfl, rfl, by decide +kernel, rfl, by decide +kernel, by decide +kernel⟩
theorem b__law_source : Plain st__law_source "_law_source" ps__law_source := fun _ _ _ _ _ _ us hl => match us, hl with | [_, _], _ => rfl
abbrev st__law_next : Stmt := topS 21
abbrev ns__law_next : List Str := ["_law_source_here", "_law_many", "_law_found"]
abbrev ps__law_next : List Str := ["_law_source_here", "_law_many"]
theorem sc__law_next : FnScope ns__law_next ps__law_next (defScope st__law_next) := ⟨rfl, rfl, rfl, by decide +kernel, rfl, by decide +kernel, by decide +kernel⟩
theorem b__law_next : Plain st__law_next "_law_next" ps__law_next := fun _ _ _ _ _ _ us hl => match us, hl with | [_, _], _ => rfl
abbrev st__law_common : Stmt := topS 22
abbrev ns__law_common : List Str := ["_law_one", "_law_other"]
abbrev ps__law_common : List Str := ["_law_one", "_law_other"]
theorem sc__law_common : FnScope ns__law_common ps__law_common (defScope st__law_common) := ⟨rfl, rfl, rfl, by decide +kernel, rfl, by decide +kernel, by decide +kernel⟩
theorem b__law_common : Plain st__law_common "_law_common" ps__law_common := fun _ _ _ _ _ _ us hl => match us, hl with | [_, _], _ => rfl
abbrev st__law_choices : Stmt := topS 23
abbrev ns__law_choices : List Str := ["_law_many", "_law_some", "_law_row", "_law_k", "_law_at"]
abbrev ps__law_choices : List Str := ["_law_many", "_law_some"]
theorem sc__law_choices : FnScope ns__law_choices ps__law_choices (defScope st__law_choices) := ⟨rfl, rfl, rfl, by decide +kernel, rfl, by decide +kernel, by decide +kernel⟩
theorem b__law_choices : Plain st__law_choices "_law_choices" ps__law_choices := fun _ _ _ _ _ _ us hl => match us, hl with | [_, _], _ => rfl
abbrev st__law_parted : Stmt := topS 24
abbrev ns__law_parted : List Str := ["_law_many", "_law_size"]
abbrev ps__law_parted : List Str := ["_law_many"]
theorem sc__law_parted : FnScope ns__law_parted ps__law_parted (defScope st__law_parted) := ⟨rfl, rfl, rfl, by decide +kernel, rfl, by decide +kernel, by decide +kernel⟩
theorem b__law_parted : Plain st__law_parted "_law_parted" ps__law_parted := fun _ _ _ _ _ _ us hl => match us, hl with | [_], _ => rfl
abbrev st__law_right : Stmt := topS 25
abbrev ns__law_right : List Str := ["_law_many", "_law_size", "_law_left", "_law_counted", "_law_every", "_law_number", "_law_due", "_law_told"]
abbrev ps__law_right : List Str := ["_law_many"]
theorem sc__law_right : FnScope ns__law_right ps__law_right (defScope st__law_right) := ⟨rfl, rfl, rfl, by decide +kernel, rfl, by decide +kernel, by decide +kernel⟩
theorem b__law_right : Plain st__law_right "_law_right" ps__law_right := fun _ _ _ _ _ _ us hl => match us, hl with | [_], _ => rfl
abbrev st_law : Stmt := topS 26
abbrev ns_law : List Str := ["_law_script", "_law_k", "_law_source_here", "_law_size", "_law_full", "_law_many"]
abbrev ps_law : List Str := ["_law_script"]
theorem sc_law : FnScope ns_law ps_law (defScope st_law) := ⟨rfl, rfl, rfl, by decide +kernel, rfl, by decide +kernel, by decide +kernel⟩
theorem b_law : Plain st_law "law" ps_law := fun _ _ _ _ _ _ us hl => match us, hl with | [_], _ => rfl
structure Txt (K : PySem.W.Frag) (mg : Str → Option Value) : Prop where
  d_is_whole : DefAt K mg "is_whole" st_is_whole [.int (0)] []
  d_least_rings : DefAt K mg "least_rings" st_least_rings [] []
  d_common : DefAt K mg "common" st_common [] []
  d_least_multiple : DefAt K mg "least_multiple" st_least_multiple [] []
  d_choices : DefAt K mg "choices" st_choices [] []
  d_orders : DefAt K mg "orders" st_orders [] []
  d_checked_number : DefAt K mg "checked_number" st_checked_number [] []
  d_parted : DefAt K mg "parted" st_parted [] []
  d_settled_many : DefAt K mg "settled_many" st_settled_many [] []
  d_round_days : DefAt K mg "round_days" st_round_days [] []
  d_rounds_many : DefAt K mg "rounds_many" st_rounds_many [] []
  d__law_cell_at : DefAt K mg "_law_cell_at" st__law_cell_at [] []
  d__law_mixed : DefAt K mg "_law_mixed" st__law_mixed [] []
  d__law_source : DefAt K mg "_law_source" st__law_source [] []
  d__law_next : DefAt K mg "_law_next" st__law_next [] []
  d__law_common : DefAt K mg "_law_common" st__law_common [] []
  d__law_choices : DefAt K mg "_law_choices" st__law_choices [] []
  d__law_parted : DefAt K mg "_law_parted" st__law_parted [] []
  d__law_right : DefAt K mg "_law_right" st__law_right [] []
  d_law : DefAt K mg "law" st_law [] []
  n_bool : mg "bool" = none
  n_int : mg "int" = none
  n_isinstance : mg "isinstance" = none
  n_len : mg "len" = none
  n_list : mg "list" = none
  n_max : mg "max" = none
  n_min : mg "min" = none
  n_range : mg "range" = none
end L
/-! ### the draws: mathematics -/
namespace M
structure Src where
  a : Int
  b : Int
  n : Int
def Src.l (s : Src) : List Int := [s.a, s.b, s.n]
def mixed (c k : Int) : Int :=
  let l := c % 2147483629 + c / 2147483629 * 30011
  let l := (l + 69621 * k + 1) * 48271 % 2147483629
  let l := l * (l / 907 + 16831 + k) % 2147483587
  l * (l / 1201 + 30011) % 2147483563
def cellAt (xs : List Int) (k : Int) : Int := if k < xs.length then xs.getD k.toNat 0 else 0
def srcOf (xs : List Int) (k : Int) : Src :=
  if k < xs.length then ⟨xs.getD k.toNat 0, xs.getD k.toNat 0, 0⟩ else ⟨mixed (cellAt xs 0) (1000 + k), mixed (cellAt xs 0) (1000 + k), 0⟩
def Src.draw (s : Src) (m : Int) : Int := if 10 ^ 18 ≤ s.a then s.a % m else mixed s.b (s.n + 1) % m
def Src.next (s : Src) (m : Int) : Src := if 10 ^ 18 ≤ s.a then ⟨s.a / m, s.b, s.n⟩ else ⟨s.a, s.b, s.n + 1⟩
theorem draw_nn {s : Src} {m : Int} (h : 0 < m) : 0 ≤ s.draw m := by
  unfold Src.draw
  split <;> exact Int.emod_nonneg _ (by omega)
theorem draw_lt {s : Src} {m : Int} (h : 0 < m) : s.draw m < m := by
  unfold Src.draw
  split <;> exact Int.emod_lt_of_pos _ h
end M
namespace L
open PySem PySem.Spec PyProof.Rows L2 G M
section
variable {P : Program} {w : World} {K : PySem.W.Frag} {mg : Str → Option Value} {base : Heap}
def r_cell_at : DE → Int → DE → Prop := fun Γ x Γ' => ∃ (xs : Scr Int) (k : Int), 0 ≤ k ∧ Γ = [.is xs, .is k] ∧ x = cellAt xs.l k ∧ Γ' = Γ
theorem can_cell_at (T : Txt K mg) : Can P w K mg base CX0 1 "_law_cell_at" ps__law_cell_at [] (spM K (sh Int) 2 r_cell_at) := by
  refine canD T.d__law_cell_at sc__law_cell_at b__law_cell_at fun cdv A outer s H E Γ x Γ' hr hR => ?_
  obtain ⟨xs, k, h0, rfl, rfl, rfl⟩ := hR
  refine sd_if (tx_cmp cr_lt (px_var 1) (px_lenS T.n_len (px_var 0))) (fun h => ?_) (fun h => sd_nil ?_)
  · have hk : k < xs.l.length := of_decide_eq_true h
    refine sd_ret (px_ixS (px_var 0) (px_var 1) (atI_int (d := 0) h0 hk)) ⟨?_, .is (.is .nil)⟩
    unfold cellAt; rw [if_pos hk]
  · have hk : ¬ k < xs.l.length := of_decide_eq_false h
    exact sd_ret px_int ⟨by unfold cellAt; rw [if_neg hk], .is (.is .nil)⟩
theorem div_ok {i : Int} {j : Int} (h : 0 < j) (h2 : j < 2 ^ 62) : CDivW i j := ⟨h, Nat.lt_of_lt_of_le (PySem.Flt.log2_lt_of (k := 62) (by decide) (by omega)) (by decide)⟩
def r_mixed : DE → Int → DE → Prop := fun Γ x Γ' => ∃ c k : Int, Γ = [.is c, .is k] ∧ x = mixed c k ∧ Γ' = Γ
theorem can_mixed (T : Txt K mg) : Can P w K mg base CX0 1 "_law_mixed" ps__law_mixed [] (spM K (sh Int) 2 r_mixed) := by
  refine canD T.d__law_mixed sc__law_mixed b__law_mixed fun cdv A outer s H E Γ x Γ' hr hR => ?_
  obtain ⟨c, k, rfl, rfl, rfl⟩ := hR
  have p0 : (0 : Int) < 2147483629 := by decide
  have p1 : (0 : Int) < 2147483587 := by decide
  refine sd_set 2 (px_add (px_mod (px_var 0) px_int p0) (px_mulR (px_div (px_var 0) px_int (div_ok p0 (by decide))) px_int (by decide))) ?_ sc__law_mixed.nd
  refine sd_set 2 (px_mod (px_mulR (px_add (px_add (px_var 2) (px_mulL px_int (px_var 1) (by decide))) px_int) px_int (by decide)) px_int p0) ?_ sc__law_mixed.nd
  refine sd_set 2 (px_mod (px_mulL (px_var 2) (px_add (px_add (px_div (px_var 2) px_int (div_ok (by decide) (by decide))) px_int) (px_var 1)) ?_) px_int p1) ?_ sc__law_mixed.nd
  · have h1 := Int.emod_nonneg ((c % 2147483629 + c / 2147483629 * 30011 + 69621 * k + 1) * 48271) (show (2147483629 : Int) ≠ 0 by decide)
    have h2 := Int.emod_lt_of_pos ((c % 2147483629 + c / 2147483629 * 30011 + 69621 * k + 1) * 48271) p0
    omega
  · refine sd_ret (px_mod (px_mulL (px_var 2) (px_add (px_div (px_var 2) px_int (div_ok (by decide) (by decide))) px_int) ?_) px_int (by decide)) ⟨rfl, .is (.is .nil)⟩
    have h1 := fun y : Int => Int.emod_nonneg y (show (2147483587 : Int) ≠ 0 by decide)
    have h2 := fun y : Int => Int.emod_lt_of_pos y p1
    exact ⟨Int.lt_of_lt_of_le (by decide) (h1 _), Int.lt_trans (h2 _) (by decide)⟩
def r_source : DE → List Int → DE → Prop := fun Γ x Γ' => ∃ (xs : Scr Int) (k : Int), 0 ≤ k ∧ Γ = [.is xs, .is k] ∧ x = (srcOf xs.l k).l ∧ Γ' = Γ
theorem can_source (T : Txt K mg) : Can P w K mg base CX0 2 "_law_source" ps__law_source [] (spM K (nw Int) 2 r_source) := by
  refine canD T.d__law_source sc__law_source b__law_source fun cdv A outer s H E Γ x Γ' hr hR => ?_
  obtain ⟨xs, k, h0, rfl, rfl, rfl⟩ := hR
  have at_ : k < xs.l.length → atI xs.l k = some (xs.l.getD k.toNat 0) := atI_int h0
  refine sd_if (tx_cmp cr_lt (px_var 1) (px_lenS T.n_len (px_var 0))) (fun h => ?_) (fun h => sd_nil ?_)
  · have hk : k < xs.l.length := of_decide_eq_true h
    refine sd_ret (px_lst (lx_cons (px_ixS (px_var 0) (px_var 1) (at_ hk)) (lx_cons (px_ixS (px_var 0) (px_var 1) (at_ hk)) (lx_cons px_int lx_nil)))) ⟨?_, .is (.is .nil)⟩
    unfold srcOf Src.l; rw [if_pos hk]
  · have hk : ¬ k < xs.l.length := of_decide_eq_false h
    refine sd_set 2 (px_c (can_mixed T) hr (ax_cons (px_c (can_cell_at T) hr (ax_cons (px_var 0) (ax_cons px_int ax_nil)) ⟨xs, 0, by decide, rfl, rfl, rfl⟩ defOk_nil) (ax_cons (px_add px_int (px_var 1)) ax_nil)) ⟨_, _, rfl, rfl, rfl⟩ defOk_nil) ?_ sc__law_source.nd
    refine sd_ret (px_lst (lx_cons (px_var 2) (lx_cons (px_var 2) (lx_cons px_int lx_nil)))) ⟨?_, .is (.is .nil)⟩
    unfold srcOf Src.l; rw [if_neg hk]
def r_next : DE → Int → DE → Prop := fun Γ x Γ' => ∃ (ad : Addr) (s : Src) (m : Int), 0 < m ∧ m < 2 ^ 62 ∧ Γ = [.own ad s.l, .is m] ∧ x = s.draw m ∧ Γ' = [.own ad (s.next m).l, .is m]
theorem can_next (T : Txt K mg) : Can P w K mg base CX0 2 "_law_next" ps__law_next [] (spM K (sh Int) 2 r_next) := by
  refine canD T.d__law_next sc__law_next b__law_next fun cdv A outer s H E Γ x Γ' hr hR => ?_
  obtain ⟨ad, s, m, h0, h1, rfl, rfl, rfl⟩ := hR
  obtain ⟨a, b, n⟩ := s
  refine sd_if (tx_cmp cr_ge (px_ixO 0 (y := a) px_int rfl rfl rfl) (px_pow px_int px_int ⟨by decide, by decide, by decide⟩)) (fun h => ?_) (fun h => sd_nil ?_)
  · have hk : (10 : Int) ^ 18 ≤ a := of_decide_eq_true h
    refine sd_set 2 (px_mod (px_ixO 0 (y := a) px_int rfl rfl rfl) (px_var 1) h0) ?_ sc__law_next.nd
    refine sd_setix (j := 0) 0 (px_div (px_ixO 0 (y := a) px_int rfl rfl rfl) (px_var 1) (div_ok h0 h1)) px_int rfl rfl ?_
    refine sd_ret (px_var 2) ⟨?_, ?_⟩
    · unfold Src.draw; rw [if_pos hk]
    · unfold Src.next Src.l; rw [if_pos hk]; exact .own (.is .nil)
  · have hk : ¬ (10 : Int) ^ 18 ≤ a := of_decide_eq_false h
    refine sd_setix (j := 2) 0 (px_add (px_ixO 0 (y := n) px_int rfl rfl rfl) px_int) px_int rfl rfl ?_
    refine sd_ret (px_mod (px_c ((can_mixed T).mono (by decide)) hr (ax_cons (px_ixO 0 (y := b) px_int rfl rfl rfl) (ax_cons (px_ixO 0 (y := n + 1) px_int rfl rfl rfl) ax_nil)) ⟨_, _, rfl, rfl, rfl⟩ defOk_nil) (px_var 1) h0) ⟨?_, ?_⟩
    · unfold Src.draw; rw [if_neg hk]
    · unfold Src.next Src.l; rw [if_neg hk]; exact .own (.is .nil)
end
end L
/-! ### numbers: mathematics -/
namespace M
/-- found // common * number -/
def lcm1 (f n : Int) : Int := f / (Int.gcd f n : Int) * n
def lcmL (ns : List Int) : Int := ns.foldl lcm1 1
theorem lcm1_pos {f n : Int} (hf : 0 < f) (hn : 0 < n) : 0 < lcm1 f n := by
  unfold lcm1
  have hg : (0 : Int) < (Int.gcd f n : Int) := by
    have := Int.gcd_pos_of_ne_zero_left n (show f ≠ 0 by omega)
    omega
  have hd : (Int.gcd f n : Int) ∣ f := Int.gcd_dvd_left ..
  exact Int.mul_pos (Int.ediv_pos_of_pos_of_dvd hf (by omega) hd) hn
theorem lcm1_eq {f n : Int} (hf : 0 < f) (hn : 0 < n) : lcm1 f n = (Int.lcm f n : Int) := by
  obtain ⟨a, rfl⟩ : ∃ a : Nat, f = (a : Int) := ⟨f.toNat, by omega⟩
  obtain ⟨b, rfl⟩ : ∃ b : Nat, n = (b : Int) := ⟨n.toNat, by omega⟩
  unfold lcm1 Int.lcm Int.gcd Nat.lcm
  simp only [Int.natAbs_natCast]
  rw [Nat.mul_comm a b, Nat.mul_div_assoc b (Nat.gcd_dvd_left a b), Nat.mul_comm b]
  norm_cast
theorem gcd_turn {a b : Int} (ha : 0 ≤ a) (hb : 0 < b) : Int.gcd b (a % b) = Int.gcd a b ∧ (a % b).toNat < b.toNat := by
  constructor
  · obtain ⟨p, rfl⟩ : ∃ p : Nat, a = p := ⟨a.toNat, by omega⟩
    obtain ⟨q, rfl⟩ : ∃ q : Nat, b = q := ⟨b.toNat, by omega⟩
    unfold Int.gcd
    rw [← Int.natCast_emod]
    simp only [Int.natAbs_natCast]
    rw [Nat.gcd_comm q, ← Nat.gcd_rec, Nat.gcd_comm]
  · have := Int.emod_lt_of_pos a hb
    omega
def facN : Nat → Nat
  | 0 => 1
  | n + 1 => (n + 1) * facN n
/-- in how many ways some are chosen of many -/
def ch : Nat → Nat → Nat
  | _, 0 => 1
  | 0, _ + 1 => 0
  | n + 1, k + 1 => ch n k + ch n (k + 1)
theorem ch_zero (n : Nat) : ch n 0 = 1 := by cases n <;> rfl
theorem ch_lt : ∀ {n k : Nat}, n < k → ch n k = 0
  | 0, k + 1, _ => rfl
  | n + 1, k + 1, h => by
    rw [ch, ch_lt (by omega), ch_lt (by omega)]
theorem ch_self : ∀ n : Nat, ch n n = 1
  | 0 => rfl
  | n + 1 => by rw [ch, ch_self n, ch_lt (by omega)]
theorem ch_step : ∀ {n k : Nat}, k ≤ n → ch n (k + 1) * (k + 1) = ch n k * (n - k)
  | 0, 0, _ => rfl
  | n + 1, 0, _ => by
    have ih := ch_step (n := n) (k := 0) (by omega)
    rw [ch_zero] at ih ⊢
    show (ch n 0 + ch n 1) * 1 = 1 * (n + 1 - 0)
    have ih : ch n 1 * 1 = 1 * (n - 0) := ih
    rw [ch_zero, Nat.sub_zero]
    rw [Nat.sub_zero] at ih
    omega
  | n + 1, k + 1, h => by
    show (ch n (k + 1) + ch n (k + 2)) * (k + 2) = (ch n k + ch n (k + 1)) * (n + 1 - (k + 1))
    have e : n + 1 - (k + 1) = n - k := by omega
    rw [e]
    have h1 := ch_step (n := n) (k := k) (by omega)
    by_cases hk : k + 1 ≤ n
    · have h2 := ch_step (n := n) (k := k + 1) hk
      have e2 : n - k = (n - (k + 1)) + 1 := by omega
      rw [e2] at h1 ⊢
      generalize n - (k + 1) = d at *
      generalize ch n k = A at *
      generalize ch n (k + 1) = B at *
      generalize ch n (k + 2) = C at *
      have h2 : C * (k + 1 + 1) = B * d := h2
      have e3 : (B + C) * (k + 2) = B * (k + 1) + B + C * (k + 2) := by
        rw [Nat.add_mul, Nat.mul_add B k 2, Nat.mul_add B k 1]; omega
      have e4 : C * (k + 2) = B * d := h2
      have e5 : (A + B) * (d + 1) = A * (d + 1) + (B * d + B) := by rw [Nat.add_mul, Nat.mul_add B d 1]; omega
      rw [e3, e4, e5]
      omega
    · have e6 : n = k := by omega
      subst e6
      rw [ch_lt (show n < n + 1 by omega), ch_lt (show n < n + 2 by omega)]
      simp
/-- the program's own reckoning -/
def chStep (n : Int) (f k : Int) : Int := f * (n - k) / (k + 1)
theorem ch_fold {n : Nat} : ∀ {k : Nat}, k ≤ n → (G.rng 0 k).foldl (chStep n) 1 = (ch n k : Int)
  | 0, _ => by rw [ch_zero]; rfl
  | k + 1, h => by
    have ih := ch_fold (n := n) (k := k) (by omega)
    have e : G.rng 0 (k + 1) = G.rng 0 k ++ [(k : Int)] := by
      unfold G.rng
      rw [List.range_succ, List.map_append]
      simp
    rw [e, List.foldl_append, ih]
    show chStep n (ch n k : Int) k = _
    unfold chStep
    have h1 := ch_step (n := n) (k := k) (by omega)
    have e1 : (ch n k : Int) * ((n : Int) - k) = (ch n (k + 1) : Int) * ((k : Int) + 1) := by
      have e2 : ((n : Int) - k) = ((n - k : Nat) : Int) := by omega
      rw [e2]
      have := congrArg (fun z : Nat => (z : Int)) h1
      simp only [Int.natCast_mul] at this
      rw [← this]
      rfl
    rw [e1, Int.mul_ediv_cancel _ (by omega)]
def choices (n k : Int) : Int := (ch n.toNat k.toNat : Int)
def fac (n : Int) : Int := (facN n.toNat : Int)
theorem fac_fold : ∀ n : Nat, (G.rng 2 (n - 1)).foldl (fun f k : Int => f * k) 1 = (facN n : Int)
  | 0 => rfl
  | 1 => rfl
  | n + 2 => by
    have ih := fac_fold (n + 1)
    have e : G.rng 2 (n + 2 - 1) = G.rng 2 (n + 1 - 1) ++ [((n : Int) + 2)] := by
      unfold G.rng
      rw [show n + 2 - 1 = (n + 1 - 1) + 1 by omega, List.range_succ, List.map_append]
      simp
      omega
    rw [e, List.foldl_append, ih]
    show (facN (n + 1) : Int) * ((n : Int) + 2) = (((n + 2) * facN (n + 1) : Nat) : Int)
    rw [Int.natCast_mul, Int.mul_comm]
    rfl
/-- the greatest number of rings that so many fill -/
def tri (k : Nat) : Nat := k * (k + 1) / 2
theorem tri_succ (k : Nat) : tri (k + 1) = tri k + (k + 1) := by
  unfold tri
  have e : (k + 1) * (k + 1 + 1) = k * (k + 1) + (k + 1) * 2 := by
    rw [Nat.mul_comm k (k + 1), ← Nat.mul_add]
  rw [e, Nat.add_mul_div_right _ _ (by decide)]
theorem tri_mono {a b : Nat} (h : a ≤ b) : tri a ≤ tri b := by
  induction h with
  | refl => exact Nat.le_refl _
  | step _ ih => rw [Nat.succ_eq_add_one, tri_succ]; omega
theorem tri_ge (k : Nat) : k ≤ tri k := by
  induction k with
  | zero => exact Nat.le_refl _
  | succ k ih => rw [tri_succ]; omega
def rings (n : Nat) : Nat := (List.range (n + 1)).foldl (fun b k => if tri k ≤ n then k else b) 0
/-- k rings are full and no more -/
def IsRings (n k : Nat) : Prop := tri k ≤ n ∧ n < tri (k + 1)
theorem isRings_inj {n j k : Nat} (h : IsRings n j) (g : IsRings n k) : j = k := by
  obtain ⟨a, b⟩ := h
  obtain ⟨c, d⟩ := g
  rcases Nat.lt_trichotomy j k with z | z | z
  · have := tri_mono (show j + 1 ≤ k by omega); omega
  · exact z
  · have := tri_mono (show k + 1 ≤ j by omega); omega
end M
namespace L
open PySem PySem.Spec PyProof.Rows L2 G M
section
variable {P : Program} {w : World} {K : PySem.W.Frag} {mg : Str → Option Value} {base : Heap}
def r_common : DE → Int → DE → Prop := fun Γ x Γ' => ∃ a b : Int, 0 ≤ a ∧ 0 ≤ b ∧ Γ = [.is a, .is b] ∧ x = (Int.gcd a b : Int) ∧ Γ' = Γ
theorem can_common (T : Txt K mg) : Can P w K mg base CX0 1 "common" ps_common [] (spM K (sh Int) 2 r_common) := by
  refine canD T.d_common sc_common b_common fun cdv A outer s H E Γ x Γ' hr hR => ?_
  obtain ⟨a, b, ha, hb, rfl, rfl, rfl⟩ := hR
  refine sd_while (N := fun Γ' => Γ' = [.is (Int.gcd a b : Int), .is (0 : Int)]) (fun s : Int × Int => [.is s.1, .is s.2]) (fun s => 0 ≤ s.1 ∧ 0 ≤ s.2 ∧ Int.gcd s.1 s.2 = Int.gcd a b) (fun s => s.2.toNat) (fun s => !decide (s.2 = 0)) (a, b) ⟨ha, hb, rfl⟩ Wk.refl
    (fun s _ => tx_cmp cr_ne (px_var 1) px_int) (fun s ⟨h1, h2, h3⟩ hb => ?_) (fun s ⟨h1, h2, h3⟩ hb => ?_) (fun Γ' e => ?_)
  · have hn : 0 < s.2 := by
      have : s.2 ≠ 0 := by simpa using hb
      omega
    refine sd_par 0 1 (px_var 1) (px_mod (px_var 0) (px_var 1) hn) (sd_nil ⟨(s.2, s.1 % s.2), ⟨h2, Int.emod_nonneg _ (by omega), ?_⟩, ?_, Wk.refl⟩) sc_common.nd
    · show Int.gcd s.2 (s.1 % s.2) = _
      rw [← h3]
      obtain ⟨p, hp⟩ : ∃ p : Nat, s.1 = p := ⟨s.1.toNat, by omega⟩
      obtain ⟨q, hq⟩ : ∃ q : Nat, s.2 = q := ⟨s.2.toNat, by omega⟩
      rw [hp, hq]
      unfold Int.gcd
      rw [← Int.natCast_emod]
      simp only [Int.natAbs_natCast]
      rw [Nat.gcd_comm q, ← Nat.gcd_rec, Nat.gcd_comm]
    · have := Int.emod_lt_of_pos s.1 hn
      show (s.1 % s.2).toNat < s.2.toNat
      omega
  · have hz : s.2 = 0 := by simpa using hb
    rw [hz] at h3 ⊢
    have e : s.1 = (Int.gcd a b : Int) := by
      rw [← h3, Int.gcd_zero_right]
      omega
    rw [e]
  · subst e
    exact sd_ret (px_var 0) ⟨rfl, .is (.is .nil)⟩
end
end L
namespace M
theorem lcmL_pos {ns : List Int} (h : ∀ n ∈ ns, 0 < n) : ∀ f : Int, 0 < f → 0 < ns.foldl lcm1 f := by
  induction ns with
  | nil => intro f hf; exact hf
  | cons n r ih => intro f hf; exact ih (fun m hm => h m (List.mem_cons_of_mem _ hm)) _ (lcm1_pos hf (h n List.mem_cons_self))
theorem lcm1_le {f n : Int} (hf : 0 < f) (hn : 0 < n) : lcm1 f n ≤ f * n := by
  unfold lcm1
  have hg : (0 : Int) < (Int.gcd f n : Int) := by
    have := Int.gcd_pos_of_ne_zero_left n (show f ≠ 0 by omega)
    omega
  refine Int.mul_le_mul_of_nonneg_right (Int.ediv_le_self _ (by omega)) (by omega)
/-- rings and what is left, by the program -/
def leastR (n : Nat) : Nat := (List.range (n + 1)).foldl (fun k _ => if tri (k + 1) ≤ n then k + 1 else k) 0
theorem rings_ex : ∀ n : Nat, ∃ k, IsRings n k
  | 0 => ⟨0, by decide, by decide⟩
  | n + 1 => by
    obtain ⟨k, a, b⟩ := rings_ex n
    by_cases h : n + 1 < tri (k + 1)
    · exact ⟨k, by omega, h⟩
    · refine ⟨k + 1, by omega, ?_⟩
      have := tri_succ (k + 1)
      omega
noncomputable def rg (n : Nat) : Nat := Classical.choose (rings_ex n)
theorem rg_is (n : Nat) : IsRings n (rg n) := Classical.choose_spec (rings_ex n)
theorem rg_eq {n k : Nat} (h : IsRings n k) : rg n = k := isRings_inj (rg_is n) h
theorem rg_le (n : Nat) : rg n ≤ n := Nat.le_trans (tri_ge _) (rg_is n).1
theorem tri_int (k : Nat) : (k : Int) * ((k : Int) + 1) / 2 = (tri k : Int) := by
  unfold tri
  norm_cast
end M
namespace L
open PySem PySem.Spec PyProof.Rows L2 G M
section
variable {P : Program} {w : World} {K : PySem.W.Frag} {mg : Str → Option Value} {base : Heap}
def r_lcm : DE → Int → DE → Prop := fun Γ x Γ' => ∃ ns : List Int, (∀ n ∈ ns, 0 < n ∧ n < 2 ^ 62) ∧ Γ = [.is ns] ∧ x = lcmL ns ∧ Γ' = Γ
theorem can_least_multiple (T : Txt K mg) : Can P w K mg base CX0 2 "least_multiple" ps_least_multiple [] (spM K (sh Int) 1 r_lcm) := by
  refine canD T.d_least_multiple sc_least_multiple b_least_multiple fun cdv A outer s H E Γ x Γ' hr hR => ?_
  obtain ⟨ns, hn, rfl, rfl, rfl⟩ := hR
  refine sd_set 1 px_int ?_ sc_least_multiple.nd
  refine sd_foldP (ts := [2]) (it_list (px_var 0)) (fun f : Int => [.is ns, .is f, .no]) lcm1 1 (fun f => 0 < f) Wk.refl (by decide) (fun f n hm hf => ⟨_, gx_name 2 sc_least_multiple.nd, lcm1_pos hf (hn n hm).1, ?_⟩) fun hf => ?_
  · have h1 := (hn n hm).1
    have h2 := (hn n hm).2
    have g0 : 0 < (Int.gcd f n : Int) := by
      have := Int.gcd_pos_of_ne_zero_left n (show f ≠ 0 by omega)
      omega
    have g1 : (Int.gcd f n : Int) < 2 ^ 62 := by
      have := Int.le_of_dvd h1 (Int.gcd_dvd_right f n)
      omega
    refine sd_set 1 (px_mulR (px_div (px_var 1) (px_c ((can_common T).mono (by decide)) hr (ax_cons (px_var 1) (ax_cons (px_var 2) ax_nil)) ⟨_, _, by omega, by omega, rfl, rfl, rfl⟩ defOk_nil) (div_ok g0 g1)) (px_var 2) ⟨by omega, by omega⟩) (sd_nil ?_) sc_least_multiple.nd
    exact .same (.same (.no .nil))
  · exact sd_ret (px_var 1) ⟨rfl, .is .nil⟩
def r_choices : DE → Int → DE → Prop := fun Γ x Γ' => ∃ n k : Int, 0 ≤ n ∧ 0 ≤ k ∧ n < 2 ^ 61 ∧ Γ = [.is n, .is k] ∧ x = choices n k ∧ Γ' = Γ
theorem can_choices (T : Txt K mg) : Can P w K mg base CX0 1 "choices" ps_choices [] (spM K (sh Int) 2 r_choices) := by
  refine canD T.d_choices sc_choices b_choices fun cdv A outer s H E Γ x Γ' hr hR => ?_
  obtain ⟨n, k, n0, k0, hn, rfl, rfl, rfl⟩ := hR
  obtain ⟨n, rfl⟩ : ∃ m : Nat, n = (m : Int) := ⟨n.toNat, by omega⟩
  obtain ⟨k, rfl⟩ : ∃ m : Nat, k = (m : Int) := ⟨k.toNat, by omega⟩
  unfold M.choices
  rw [Int.toNat_natCast, Int.toNat_natCast]
  refine sd_if (tx_cmp cr_gt (px_var 1) (px_var 0)) (fun h => ?_) (fun h => sd_nil ?_)
  · have h : (n : Int) < k := of_decide_eq_true h
    exact sd_ret px_int ⟨by rw [ch_lt (by omega)]; rfl, .is (.is .nil)⟩
  · have h : ¬ (n : Int) < k := of_decide_eq_false h
    refine sd_set 2 px_int ?_ sc_choices.nd
    refine sd_fold (ts := [3]) (it_range1 T.n_range (px_var 1) (by omega) (by omega)) (fun f : Int => [.is (n : Int), .is (k : Int), .is f, .no]) (chStep n) 1 Wk.refl (fun f j hj => ⟨_, gx_name 3 sc_choices.nd, ?_⟩) ?_
    · have hj := rng_mem hj
      refine sd_set 2 (px_div (px_mulR (px_var 2) (px_sub (px_var 0) (px_var 3)) ⟨by omega, by omega⟩) (px_add (px_var 3) px_int) (div_ok (by omega) (by omega))) (sd_nil ?_) sc_choices.nd
      exact .same (.same (.same (.no .nil)))
    · refine sd_ret (px_var 2) ⟨?_, .is (.is .nil)⟩
      rw [Int.toNat_natCast]
      exact ch_fold (by omega)
def r_orders : DE → Int → DE → Prop := fun Γ x Γ' => ∃ n : Int, 0 ≤ n ∧ n < 2 ^ 61 ∧ Γ = [.is n] ∧ x = fac n ∧ Γ' = Γ
theorem can_orders (T : Txt K mg) : Can P w K mg base CX0 1 "orders" ps_orders [] (spM K (sh Int) 1 r_orders) := by
  refine canD T.d_orders sc_orders b_orders fun cdv A outer s H E Γ x Γ' hr hR => ?_
  obtain ⟨n, n0, hn, rfl, rfl, rfl⟩ := hR
  obtain ⟨n, rfl⟩ : ∃ m : Nat, n = (m : Int) := ⟨n.toNat, by omega⟩
  unfold fac
  rw [Int.toNat_natCast]
  refine sd_set 1 px_int ?_ sc_orders.nd
  refine sd_fold (ts := [2]) (it_range2 T.n_range px_int (px_add (px_var 0) px_int) ⟨by omega, by omega, by omega, by omega⟩) (fun f : Int => [.is (n : Int), .is f, .no]) (fun f k => f * k) 1 Wk.refl (fun f j hj => ⟨_, gx_name 2 sc_orders.nd, ?_⟩) ?_
  · have hj := rng_mem hj
    refine sd_augI iop_mul 1 rfl (px_var 2) (.inr ⟨by omega, by omega⟩) (sd_nil ?_) sc_orders.nd
    exact .same (.same (.no .nil))
  · refine sd_ret (px_var 1) ⟨?_, .is .nil⟩
    rw [show ((n : Int) + 1 - 2).toNat = n - 1 by omega]
    exact fac_fold n
/-- whole numbers -/
def r_whole : DE → Bool → DE → Prop := fun Γ x Γ' => ∃ n l : Int, Γ = [.is n, .is l] ∧ x = decide (l ≤ n) ∧ Γ' = Γ
theorem can_is_whole (T : Txt K mg) : Can P w K mg base CX0 1 "is_whole" ps_is_whole [.int 0] (spM K (sh Bool) 2 r_whole) := by
  refine canD1 (dvs := [.int 0]) 1 0 T.d_is_whole sc_is_whole (List.cons_ne_nil _ _) rfl (fun T kV doc pm an cdv ct us its h1 h2 => match us, its, h1, h2 with | [_], [_], _, _ => ⟨_, rfl, rfl⟩) fun cdv A outer s H E Γ x Γ' hr hR => ?_
  obtain ⟨n, l, rfl, rfl, rfl⟩ := hR
  have e1 : bootBuiltins "int" = some (.type "int") := by decide +kernel
  have e2 : bootBuiltins "bool" = some (.type "bool") := by decide +kernel
  refine sd_ret (px_and (px_isiI (z := true) T.n_isinstance (px_var 0) (px_ty T.n_int e1) (by decide +kernel)) fun _ => px_and (px_not (px_isiI (z := false) T.n_isinstance (px_var 0) (px_ty T.n_bool e2) (by decide +kernel))) fun _ => px_one (px_cmp cr_ge (px_var 0) (px_var 1))) ⟨by simp, .is (.is .nil)⟩
def r_number : DE → Unit → DE → Prop := fun Γ x Γ' => ∃ n : Int, 0 ≤ n ∧ Γ = [.is n] ∧ x = () ∧ Γ' = Γ
theorem can_checked_number (T : Txt K mg) : Can P w K mg base CX0 2 "checked_number" ps_checked_number [] (spM K (sh Unit) 1 r_number) := by
  refine canD T.d_checked_number sc_checked_number b_checked_number fun cdv A outer s H E Γ x Γ' hr hR => ?_
  obtain ⟨n, h0, rfl, rfl, rfl⟩ := hR
  refine sd_if (tx_not (tx_val (px_c ((can_is_whole T).mono (by decide)) hr (ax_cons (px_var 0) ax_nil) ⟨n, 0, rfl, rfl, rfl⟩ (defOk_cons (fun _ => rfl) defOk_nil)))) (fun h => ?_) (fun h => sd_nil ?_)
  · simp [h0] at h
  · exact sd_nil ⟨fun _ _ _ _ => rfl, .is .nil⟩
def r_least_rings : DE → Int → DE → Prop := fun Γ x Γ' => ∃ n : Int, 0 ≤ n ∧ n < 2 ^ 61 ∧ Γ = [.is n] ∧ x = (rg n.toNat : Int) ∧ Γ' = Γ
theorem can_least_rings (T : Txt K mg) : Can P w K mg base CX0 1 "least_rings" ps_least_rings [] (spM K (sh Int) 1 r_least_rings) := by
  refine canD T.d_least_rings sc_least_rings b_least_rings fun cdv A outer s H E Γ x Γ' hr hR => ?_
  obtain ⟨n, n0, hn, rfl, rfl, rfl⟩ := hR
  obtain ⟨n, rfl⟩ : ∃ m : Nat, n = (m : Int) := ⟨n.toNat, by omega⟩
  rw [Int.toNat_natCast]
  have e : ∀ k : Nat, ((k : Int) + 1) * ((k : Int) + 2) / 2 = (tri (k + 1) : Int) := fun k => by
    have := tri_int (k + 1)
    rw [← this]
    congr 1
  refine sd_set 1 px_int ?_ sc_least_rings.nd
  refine sd_while (N := fun Γ' => Γ' = [.is (n : Int), .is (rg n : Int)]) (fun k : Nat => [.is (n : Int), .is (k : Int)]) (fun k => tri k ≤ n) (fun k => n - k) (fun k => decide (((k : Int) + 1) * ((k : Int) + 2) / 2 ≤ (n : Int))) 0 (Nat.zero_le _) Wk.refl
    (fun k hk => tx_cmp cr_le (px_div (px_mulL (px_add (px_var 1) px_int) (px_add (px_var 1) px_int) ?_) px_int (div_ok (by decide) (by decide))) (px_var 0)) (fun k hk hb => ?_) (fun k hk hb => ?_) (fun Γ' e => ?_)
  · have := tri_ge k
    exact ⟨by omega, by omega⟩
  · rw [e] at hb
    have hb : (tri (k + 1) : Int) ≤ n := of_decide_eq_true hb
    have := tri_ge (k + 1)
    refine sd_aug ip_add 1 rfl px_int (sd_nil ⟨k + 1, by omega, by omega, ?_⟩) sc_least_rings.nd
    exact .same (.same .nil)
  · rw [e] at hb
    have hb : ¬ (tri (k + 1) : Int) ≤ n := of_decide_eq_false hb
    rw [rg_eq ⟨hk, by omega⟩]
  · subst e
    exact sd_ret (px_var 1) ⟨rfl, .is .nil⟩
end
end L
namespace M
/-- how many rings, how many on the next one -/
noncomputable def kOf (n : Int) : Int := (rg n.toNat : Int)
noncomputable def mOf (n : Int) : Int := n - (tri (rg n.toNat) : Int)
theorem kOf_nn (n : Int) : 0 ≤ kOf n := Int.natCast_nonneg _
theorem kOf_le {n : Int} (h : 0 ≤ n) : kOf n ≤ n := by
  have := rg_le n.toNat
  unfold kOf; omega
theorem mOf_nn {n : Int} (h : 0 ≤ n) : 0 ≤ mOf n := by
  have := (rg_is n.toNat).1
  unfold mOf; omega
theorem mOf_le {n : Int} (h : 0 ≤ n) : mOf n ≤ kOf n := by
  have h1 := (rg_is n.toNat).2
  rw [tri_succ] at h1
  unfold mOf kOf; omega
noncomputable def settledMany (n : Int) : Int := choices (kOf n + 1) (mOf n) * fac n
noncomputable def lastRing (n : Int) : Int := kOf n + if 0 < mOf n then 1 else 0
noncomputable def roundDays (n : Int) : Int := lcmL (G.rng 1 (lastRing n).toNat)
theorem ch_le : ∀ n k : Nat, ch n k ≤ 2 ^ n
  | n, 0 => by rw [ch_zero]; exact Nat.one_le_two_pow
  | 0, k + 1 => Nat.zero_le _
  | n + 1, k + 1 => by
    have h1 := ch_le n k
    have h2 := ch_le n (k + 1)
    rw [ch, Nat.pow_succ]; omega
theorem facN_pos : ∀ n : Nat, 0 < facN n
  | 0 => by decide
  | n + 1 => Nat.mul_pos (Nat.succ_pos _) (facN_pos n)
/-- few folk -/
def Few (n : Int) : Prop := 0 ≤ n ∧ n ≤ 1000
theorem kOf_few {n : Int} (h : Few n) : kOf n ≤ 44 := by
  have h1 := (rg_is n.toNat).1
  have h2 : n.toNat ≤ 1000 := by have := h.2; omega
  by_cases z : rg n.toNat ≤ 44
  · unfold kOf; omega
  · have := tri_mono (show 45 ≤ rg n.toNat by omega)
    have e : tri 45 = 1035 := by decide
    omega
theorem choices_few {n k : Int} (h : n ≤ 45) : choices n k < 2 ^ 46 := by
  unfold choices
  have h1 := ch_le n.toNat k.toNat
  have h2 : (2 : Nat) ^ n.toNat ≤ 2 ^ 45 := Nat.pow_le_pow_right (by decide) (by omega)
  have h3 : (ch n.toNat k.toNat : Int) ≤ ((2 ^ 45 : Nat) : Int) := by omega
  have e : ((2 ^ 45 : Nat) : Int) = 35184372088832 := by decide
  omega
theorem choices_nn {n k : Int} : 0 ≤ choices n k := Int.natCast_nonneg _
theorem fold_lcm_le : ∀ (ns : List Int) (f : Int) (b : Nat), 0 < f → (∀ n ∈ ns, 0 < n ∧ n ≤ 64) → f.natAbs < 2 ^ b → (ns.foldl lcm1 f).natAbs < 2 ^ (b + 7 * ns.length)
  | [], f, b, hf, h, hb => hb
  | n :: r, f, b, hf, h, hb => by
    have hn := h n List.mem_cons_self
    have h1 : (lcm1 f n).natAbs < 2 ^ (b + 7) := by
      have h2 := lcm1_le hf hn.1
      have h3 := lcm1_pos hf hn.1
      have h4 : f * n ≤ f * 64 := Int.mul_le_mul_of_nonneg_left hn.2 (by omega)
      rw [Nat.pow_add]
      have e : (2 : Nat) ^ 7 = 128 := by decide
      rw [e]
      omega
    have := fold_lcm_le r (lcm1 f n) (b + 7) (lcm1_pos hf hn.1) (fun m hm => h m (List.mem_cons_of_mem _ hm)) h1
    rw [List.length_cons, show b + 7 * (r.length + 1) = b + 7 + 7 * r.length by omega]
    exact this
theorem lastRing_few {n : Int} (h : Few n) : 0 ≤ lastRing n ∧ lastRing n ≤ 45 := by
  have h1 := kOf_few h
  have h2 := kOf_nn n
  unfold lastRing
  split <;> omega
theorem roundDays_pos (n : Int) : 0 < roundDays n := lcmL_pos (fun m hm => by have := G.rng_mem hm; omega) 1 (by decide)
theorem roundDays_few {n : Int} (h : Few n) : (roundDays n).natAbs < 2 ^ 400 := by
  have hl := lastRing_few h
  have := fold_lcm_le (G.rng 1 (lastRing n).toNat) 1 1 (by decide) (fun m hm => by have := G.rng_mem hm; omega) (by decide)
  rw [G.rng_len] at this
  exact Nat.lt_of_lt_of_le this (Nat.pow_le_pow_right (by decide) (by omega))
end M
namespace L
open PySem PySem.Spec PyProof.Rows L2 G M
section
variable {P : Program} {w : World} {K : PySem.W.Frag} {mg : Str → Option Value} {base : Heap}
def r_parted : DE → Int × Int → DE → Prop := fun Γ x Γ' => ∃ n : Int, Few n ∧ Γ = [.is n] ∧ x = (kOf n, mOf n) ∧ Γ' = Γ
theorem can_parted (T : Txt K mg) : Can P w K mg base CX0 3 "parted" ps_parted [] (spM K (sh (Int × Int)) 1 r_parted) := by
  refine canD T.d_parted sc_parted b_parted fun cdv A outer s H E Γ x Γ' hr hR => ?_
  obtain ⟨n, hn, rfl, rfl, rfl⟩ := hR
  refine sd_expr (px_c (can_checked_number T) hr (ax_cons (px_var 0) ax_nil) ⟨n, hn.1, rfl, rfl, rfl⟩ defOk_nil) ?_
  have hn2 := hn.2
  refine sd_set 1 (px_c ((can_least_rings T).mono (by decide)) hr (ax_cons (px_var 0) ax_nil) ⟨n, hn.1, by omega, rfl, rfl, rfl⟩ defOk_nil) ?_ sc_parted.nd
  have h1 := kOf_few hn
  have h2 := kOf_nn n
  refine sd_ret (px_t2 (px_var 1) (px_sub (px_var 0) (px_div (px_mulL (px_var 1) (px_add (px_var 1) px_int) ?_) px_int (div_ok (by decide) (by decide))))) ⟨?_, .is .nil⟩
  · unfold kOf at h1 h2; omega
  · unfold kOf mOf; rw [tri_int]
def r_settled_many : DE → Int → DE → Prop := fun Γ x Γ' => ∃ n : Int, Few n ∧ Γ = [.is n] ∧ x = settledMany n ∧ Γ' = Γ
theorem can_settled_many (T : Txt K mg) : Can P w K mg base CX0 4 "settled_many" ps_settled_many [] (spM K (sh Int) 1 r_settled_many) := by
  refine canD T.d_settled_many sc_settled_many b_settled_many fun cdv A outer s H E Γ x Γ' hr hR => ?_
  obtain ⟨n, hn, rfl, rfl, rfl⟩ := hR
  have h1 := kOf_few hn
  have h2 := kOf_nn n
  have h3 := mOf_nn hn.1
  have h4 := hn.2
  refine sd_asg (px_c (can_parted T) hr (ax_cons (px_var 0) ax_nil) ⟨n, hn, rfl, rfl, rfl⟩ defOk_nil) (gx_t2 (gx_name 1 sc_settled_many.nd) (gx_name 2 sc_settled_many.nd)) ?_
  refine sd_ret (px_mulL (px_c ((can_choices T).mono (by decide)) hr (ax_cons (px_add (px_var 1) px_int) (ax_cons (px_var 2) ax_nil)) ⟨kOf n + 1, mOf n, by omega, h3, by omega, rfl, rfl, rfl⟩ defOk_nil) (px_c ((can_orders T).mono (by decide)) hr (ax_cons (px_var 0) ax_nil) ⟨n, hn.1, by omega, rfl, rfl, rfl⟩ defOk_nil) ?_) ⟨rfl, .is .nil⟩
  have h5 := choices_few (n := kOf n + 1) (k := mOf n) (by omega)
  have h6 := choices_nn (n := kOf n + 1) (k := mOf n)
  omega
def r_round_days : DE → Int → DE → Prop := fun Γ x Γ' => ∃ n : Int, Few n ∧ Γ = [.is n] ∧ x = roundDays n ∧ Γ' = Γ
theorem can_round_days (T : Txt K mg) : Can P w K mg base CX0 4 "round_days" ps_round_days [] (spM K (sh Int) 1 r_round_days) := by
  refine canD T.d_round_days sc_round_days b_round_days fun cdv A outer s H E Γ x Γ' hr hR => ?_
  obtain ⟨n, hn, rfl, rfl, rfl⟩ := hR
  have h1 := lastRing_few hn
  have e : kOf n + 1 + (if decide (0 < mOf n) = true then 1 else 0) - 1 = lastRing n := by
    unfold lastRing
    by_cases h : 0 < mOf n
    · simp only [h, decide_true, if_true]; omega
    · simp only [h, decide_false, if_false]; simp
  refine sd_asg (px_c (can_parted T) hr (ax_cons (px_var 0) ax_nil) ⟨n, hn, rfl, rfl, rfl⟩ defOk_nil) (gx_t2 (gx_name 1 sc_round_days.nd) (gx_name 2 sc_round_days.nd)) ?_
  refine sd_ret (px_c ((can_least_multiple T).mono (by decide)) hr (ax_cons (px_frz (px_listR2 T.n_list T.n_range px_int (px_add (px_add (px_var 1) px_int) (px_intB T.n_int (px_cmp cr_gt (px_var 2) px_int))) ?_)) ax_nil) ⟨_, ?_, rfl, rfl, rfl⟩ defOk_nil) ⟨?_, .is .nil⟩
  · show RgOk 1 (kOf n + 1 + (if decide (0 < mOf n) = true then 1 else 0))
    exact RgOk.of_le (by decide) (by omega) (by decide) (by omega)
  · intro m hm
    have := rng_mem hm
    have e2 : ((kOf n, mOf n).1 + 1 + (if decide (0 < (kOf n, mOf n).2) = true then 1 else 0) - 1) = lastRing n := e
    rw [e2] at this
    omega
  · show lcmL (rng 1 (kOf n + 1 + (if decide (0 < mOf n) = true then 1 else 0) - 1).toNat) = _
    rw [e]; rfl
def r_rounds_many : DE → Int → DE → Prop := fun Γ x Γ' => ∃ n : Int, Few n ∧ Γ = [.is n] ∧ x = settledMany n / roundDays n ∧ Γ' = Γ
theorem can_rounds_many (T : Txt K mg) : Can P w K mg base CX0 5 "rounds_many" ps_rounds_many [] (spM K (sh Int) 1 r_rounds_many) := by
  refine canD T.d_rounds_many sc_rounds_many b_rounds_many fun cdv A outer s H E Γ x Γ' hr hR => ?_
  obtain ⟨n, hn, rfl, rfl, rfl⟩ := hR
  exact sd_ret (px_div (px_c (can_settled_many T) hr (ax_cons (px_var 0) ax_nil) ⟨n, hn, rfl, rfl, rfl⟩ defOk_nil) (px_c (can_round_days T) hr (ax_cons (px_var 0) ax_nil) ⟨n, hn, rfl, rfl, rfl⟩ defOk_nil) (wide_div (roundDays_pos n) (roundDays_few hn) (by decide) (by decide))) ⟨rfl, .is .nil⟩
end
end L
namespace M
/-- Pascal's rows -/
def prow (n : Nat) : List Int := (List.range (n + 1)).map fun k : Nat => (ch n k : Int)
theorem prow_len (n : Nat) : (prow n).length = n + 1 := by simp [prow]
theorem prow_get {n k : Nat} (h : k ≤ n) : (prow n)[k]? = some (ch n k : Int) := by
  unfold prow
  rw [List.getElem?_map, List.getElem?_range (by omega)]
  rfl
def pmid (row : List Int) : List Int := (G.rng 0 (row.length - 1)).map fun a => row.getD a.toNat 0 + row.getD (a + 1).toNat 0
theorem prow_getD {n k : Nat} (h : k ≤ n) : (prow n).getD k 0 = (ch n k : Int) := by
  rw [List.getD_eq_getElem?_getD, prow_get h]; rfl
theorem prow_step (n : Nat) : [1] ++ pmid (prow n) ++ [1] = prow (n + 1) := by
  have e : pmid (prow n) = (List.range n).map fun k : Nat => (ch (n + 1) (k + 1) : Int) := by
    unfold pmid G.rng
    rw [prow_len, Nat.add_sub_cancel, List.map_map]
    refine List.map_congr_left fun k hk => ?_
    have hk := List.mem_range.mp hk
    simp only [Function.comp, Int.zero_add, Int.toNat_natCast]
    rw [show ((k : Int) + 1).toNat = k + 1 by omega, prow_getD (by omega), prow_getD (by omega), ch]
    simp
  rw [e]
  unfold prow
  rw [List.range_succ, List.map_append, List.range_succ_eq_map, List.map_cons, List.map_map, ch_zero]
  show 1 :: _ ++ [1] = 1 :: _ ++ [((ch (n + 1) (n + 1) : Nat) : Int)]
  rw [ch_self]
  rfl
theorem lcm_fold_dvd {N : Int} : ∀ (ns : List Int) (f : Int), 0 < f → f ∣ N → (∀ n ∈ ns, 0 < n ∧ n ∣ N) → ns.foldl lcm1 f ∣ N
  | [], f, _, h, _ => h
  | n :: r, f, hf, h, hn => by
    have h1 := hn n List.mem_cons_self
    refine lcm_fold_dvd r _ (lcm1_pos hf h1.1) ?_ fun m hm => hn m (List.mem_cons_of_mem _ hm)
    rw [lcm1_eq hf h1.1]
    exact Int.coe_lcm_dvd h h1.2
theorem fac_dvd : ∀ (n k : Nat), 0 < k → k ≤ n → k ∣ facN n
  | 0, k, h, h2 => by omega
  | n + 1, k, h, h2 => by
    rw [facN]
    by_cases z : k = n + 1
    · rw [z]; exact Nat.dvd_mul_right _ _
    · exact Nat.dvd_trans (fac_dvd n k h (by omega)) (Nat.dvd_mul_left _ _)
theorem lastRing_le {n : Int} (h : 0 ≤ n) : lastRing n ≤ n := by
  have h1 := (rg_is n.toNat).1
  unfold lastRing
  split
  · rename_i hm
    have h2 := tri_ge (rg n.toNat)
    unfold kOf; unfold mOf at hm; omega
  · exact Int.le_trans (by omega) (kOf_le h)
theorem round_dvd {n : Int} (h : 0 ≤ n) : roundDays n ∣ settledMany n := by
  refine lcm_fold_dvd _ 1 (by decide) ⟨_, (Int.one_mul _).symm⟩ fun m hm => ?_
  have hm := G.rng_mem hm
  have hl := lastRing_le h
  refine ⟨by omega, ?_⟩
  unfold settledMany
  refine Int.dvd_trans ?_ (Int.dvd_mul_left ..)
  unfold fac
  obtain ⟨k, rfl⟩ : ∃ k : Nat, m = (k : Int) := ⟨m.toNat, by omega⟩
  exact Int.natCast_dvd_natCast.mpr (fac_dvd _ _ (by omega) (by omega))
theorem fac1_fold : ∀ n : Nat, (G.rng 1 n).foldl (fun f k : Int => f * k) 1 = (facN n : Int)
  | 0 => rfl
  | n + 1 => by
    have ih := fac1_fold n
    have e : G.rng 1 (n + 1) = G.rng 1 n ++ [((n : Int) + 1)] := by
      unfold G.rng
      rw [List.range_succ, List.map_append]
      simp
      omega
    rw [e, List.foldl_append, ih]
    show (facN n : Int) * ((n : Int) + 1) = (((n + 1) * facN n : Nat) : Int)
    rw [Int.natCast_mul, Int.mul_comm]
    rfl
theorem fac_few : ∀ n : Nat, n ≤ 1000 → facN n < 2 ^ (10 * n + 1)
  | 0, _ => by decide
  | n + 1, h => by
    have ih := fac_few n (by omega)
    rw [facN, show 10 * (n + 1) + 1 = 10 + (10 * n + 1) by omega, Nat.pow_add]
    have h1 : (n + 1) * facN n ≤ (n + 1) * 2 ^ (10 * n + 1) := Nat.mul_le_mul_left _ (Nat.le_of_lt ih)
    have h2 : (n + 1) * 2 ^ (10 * n + 1) < 2 ^ 10 * 2 ^ (10 * n + 1) := Nat.mul_lt_mul_of_pos_right (by omega) (Nat.two_pow_pos _)
    exact Nat.lt_of_le_of_lt h1 h2
end M
namespace L
open PySem PySem.Spec PyProof.Rows L2 G M
section
variable {P : Program} {w : World} {K : PySem.W.Frag} {mg : Str → Option Value} {base : Heap}
theorem can_lcommon (T : Txt K mg) : Can P w K mg base CX0 1 "_law_common" ps__law_common [] (spM K (sh Int) 2 r_common) := by
  refine canD T.d__law_common sc__law_common b__law_common fun cdv A outer s H E Γ x Γ' hr hR => ?_
  obtain ⟨a, b, ha, hb, rfl, rfl, rfl⟩ := hR
  refine sd_while (N := fun Γ' => Γ' = [.is (Int.gcd a b : Int), .is (0 : Int)]) (fun s : Int × Int => [.is s.1, .is s.2]) (fun s => 0 ≤ s.1 ∧ 0 ≤ s.2 ∧ Int.gcd s.1 s.2 = Int.gcd a b) (fun s => s.2.toNat) (fun s => !decide (s.2 = 0)) (a, b) ⟨ha, hb, rfl⟩ Wk.refl
    (fun s _ => tx_cmp cr_ne (px_var 1) px_int) (fun s ⟨h1, h2, h3⟩ hb => ?_) (fun s ⟨h1, h2, h3⟩ hb => ?_) (fun Γ' e => ?_)
  · have hn : 0 < s.2 := by
      have : s.2 ≠ 0 := by simpa using hb
      omega
    obtain ⟨g1, g2⟩ := gcd_turn h1 hn
    exact sd_par 0 1 (px_var 1) (px_mod (px_var 0) (px_var 1) hn) (sd_nil ⟨(s.2, s.1 % s.2), ⟨h2, Int.emod_nonneg _ (by omega), g1.trans h3⟩, g2, Wk.refl⟩) sc__law_common.nd
  · have hz : s.2 = 0 := by simpa using hb
    rw [hz] at h3 ⊢
    have e : s.1 = (Int.gcd a b : Int) := by
      rw [← h3, Int.gcd_zero_right]
      omega
    rw [e]
  · subst e
    exact sd_ret (px_var 0) ⟨rfl, .is (.is .nil)⟩
def r_lchoices : DE → Int → DE → Prop := fun Γ x Γ' => ∃ n k : Int, 0 ≤ n ∧ n ≤ 1000 ∧ 0 ≤ k ∧ k ≤ n ∧ Γ = [.is n, .is k] ∧ x = choices n k ∧ Γ' = Γ
theorem can_lchoices (T : Txt K mg) : Can P w K mg base CX0 1 "_law_choices" ps__law_choices [] (spM K (sh Int) 2 r_lchoices) := by
  refine canD T.d__law_choices sc__law_choices b__law_choices fun cdv A outer s H E Γ x Γ' hr hR => ?_
  obtain ⟨n, k, n0, hn, k0, hk, rfl, rfl, rfl⟩ := hR
  obtain ⟨n, rfl⟩ : ∃ m : Nat, n = (m : Int) := ⟨n.toNat, by omega⟩
  obtain ⟨k, rfl⟩ : ∃ m : Nat, k = (m : Int) := ⟨k.toNat, by omega⟩
  unfold M.choices
  rw [Int.toNat_natCast, Int.toNat_natCast]
  refine sd_set 2 (px_frz (px_lst (lx_cons px_int lx_nil))) ?_ sc__law_choices.nd
  refine sd_for (ts := [3]) (N := fun Γ' => Γ' = [.is (n : Int), .is (k : Int), .is (prow n), .no, .no]) (it_range1 T.n_range (px_var 0) (by omega) (by omega)) (fun i Γ' => Γ' = [.is (n : Int), .is (k : Int), .is (prow i), .no, .no]) rfl (fun i j Γ' hj e => ?_) (fun Γ' e => by rw [e, rng_len, Int.toNat_natCast]) (fun Γ' e => ?_)
  · subst e
    obtain ⟨hi, hj⟩ := rng_get hj
    have hl := prow_len i
    have hz : (rng 0 (((prow i).length : Int) - 1).toNat).length < sizeLine := by
      rw [rng_len, hl]
      exact Nat.lt_of_lt_of_le (show _ < 2000 by omega) (by decide)
    refine ⟨_, gx_name 3 sc__law_choices.nd, ?_⟩
    refine sd_set 2 (px_frz (px_cat (px_frz (px_cat (px_frz (px_lst (lx_cons px_int lx_nil))) (px_frz (px_lc (f := fun a : Int => (prow i).getD a.toNat 0 + (prow i).getD (a + 1).toNat 0) [("_law_at", 4)] [4] (it_range1 T.n_range (px_sub (px_len T.n_len (px_var 2).br) px_int) (by omega) (by omega)) sc__law_choices.nd hz (fun x hx s H C cl fp => gx_name 4 sc__law_choices.nd) (fun x hx s H C cl fp => ?_))) ?_)) (px_frz (px_lst (lx_cons px_int lx_nil))) ?_)) (sd_nil ⟨[.is (n : Int), .is (k : Int), .is (prow (i + 1)), .no, .no], ?_, rfl⟩) sc__law_choices.nd
    · have hx := rng_mem hx
      exact px_add (px_ix (px_var 2) (px_var 4) (atI_int (by omega) (by omega))) (px_ix (px_var 2) (px_add (px_var 4) px_int) (atI_int (by omega) (by omega)))
    · rw [List.length_map, rng_len, hl]
      exact Nat.le_trans (show _ ≤ 2000 by simp; omega) (by decide)
    · rw [List.length_append, List.length_map, rng_len, hl]
      exact Nat.le_trans (show _ ≤ 2000 by simp; omega) (by decide)
    · have e : (((prow i).length : Int) - 1).toNat = (prow i).length - 1 := by omega
      show Wk [.is (n : Int), .is (k : Int), .is ([1] ++ (rng 0 (((prow i).length : Int) - 1).toNat).map (fun a : Int => (prow i).getD a.toNat 0 + (prow i).getD (a + 1).toNat 0) ++ [1]), .is j, .no] _
      rw [e, show [1] ++ (rng 0 ((prow i).length - 1)).map (fun a : Int => (prow i).getD a.toNat 0 + (prow i).getD (a + 1).toNat 0) ++ [1] = prow (i + 1) from prow_step i]
      exact .same (.same (.same (.no (.same .nil))))
  · subst e
    refine sd_ret (px_ix (px_var 2) (px_var 1) (atI_nat (prow_get (by omega)))) ⟨rfl, .is (.is .nil)⟩
theorem can_lparted (T : Txt K mg) : Can P w K mg base CX0 1 "_law_parted" ps__law_parted [] (spM K (sh (Int × Int)) 1 r_parted) := by
  refine canD T.d__law_parted sc__law_parted b__law_parted fun cdv A outer s H E Γ x Γ' hr hR => ?_
  obtain ⟨n, hn, rfl, rfl, rfl⟩ := hR
  have hn1 := hn.1
  obtain ⟨n, rfl⟩ : ∃ m : Nat, n = (m : Int) := ⟨n.toNat, by omega⟩
  refine sd_set 1 px_int ?_ sc__law_parted.nd
  refine sd_while (N := fun Γ' => Γ' = [.is (mOf (n : Int)), .is (kOf (n : Int))]) (fun k : Nat => [.is ((n : Int) - (tri k : Int)), .is (k : Int)]) (fun k => tri k ≤ n) (fun k => n - k) (fun k => decide ((k : Int) + 1 ≤ (n : Int) - (tri k : Int))) 0 (Nat.zero_le _) ?_
    (fun k hk => tx_cmp cr_ge (px_var 0) (px_add (px_var 1) px_int)) (fun k hk hb => ?_) (fun k hk hb => ?_) (fun Γ' e => ?_)
  · have e : (n : Int) - (tri 0 : Int) = n := by
      have : tri 0 = 0 := by decide
      omega
    rw [e]
    exact .same (.same .nil)
  · have hb : (k : Int) + 1 ≤ (n : Int) - (tri k : Int) := of_decide_eq_true hb
    have h1 := tri_succ k
    have h2 := tri_ge (k + 1)
    refine sd_set 1 (px_add (px_var 1) px_int) ?_ sc__law_parted.nd
    refine sd_set 0 (px_sub (px_var 0) (px_var 1)) (sd_nil ⟨k + 1, by omega, by omega, ?_⟩) sc__law_parted.nd
    show Wk [.is ((n : Int) - (tri k : Int) - ((k : Int) + 1)), .is ((k : Int) + 1)] [.is ((n : Int) - (tri (k + 1) : Int)), .is (((k + 1 : Nat) : Int))]
    rw [show (n : Int) - (tri k : Int) - ((k : Int) + 1) = (n : Int) - (tri (k + 1) : Int) by omega, show (((k + 1 : Nat) : Int)) = (k : Int) + 1 by omega]
    exact .same (.same .nil)
  · have hb : ¬ (k : Int) + 1 ≤ (n : Int) - (tri k : Int) := of_decide_eq_false hb
    have h1 := tri_succ k
    have e : rg n = k := rg_eq ⟨hk, by omega⟩
    unfold mOf kOf
    rw [Int.toNat_natCast, e]
  · subst e
    exact sd_ret (px_t2 (px_var 1) (px_var 0)) ⟨rfl, .is .nil⟩
end
end L
namespace L
open PySem PySem.Spec PyProof.Rows L2 G M
section
variable {P : Program} {w : World} {K : PySem.W.Frag} {mg : Str → Option Value} {base : Heap}
def r_right : DE → Bool → DE → Prop := fun Γ x Γ' => ∃ n : Int, 0 ≤ n ∧ n ≤ 400 ∧ Γ = [.is n] ∧ x = true ∧ Γ' = Γ
theorem can_right (T : Txt K mg) : Can P w K mg base CX0 6 "_law_right" ps__law_right [] (spM K (sh Bool) 1 r_right) := by
  refine canD T.d__law_right sc__law_right b__law_right fun cdv A outer s H E Γ x Γ' hr hR => ?_
  obtain ⟨n, n0, n1, rfl, rfl, rfl⟩ := hR
  have fw : Few n := ⟨n0, by omega⟩
  have hu : A.units + 3 + 64 < cLine := hr.units
  have k0 := kOf_nn n
  have k1 := kOf_few fw
  have m0 := mOf_nn n0
  have m1 := mOf_le n0
  have lr := lastRing_few fw
  have nd := sc__law_right.nd
  refine sd_asg (px_c ((can_lparted T).mono (by decide)) hr (ax_cons (px_var 0) ax_nil) ⟨n, fw, rfl, rfl, rfl⟩ defOk_nil) (gx_t2 (gx_name 1 nd) (gx_name 2 nd)) ?_
  refine sd_set 3 px_int ?_ nd
  refine sd_set 4 px_int ?_ nd
  refine sd_fold (ts := [5]) (it_range2 T.n_range px_int (px_add (px_var 0) px_int) ⟨by decide, by decide, by omega, by omega⟩) (fun f : Int => [.is n, .is (kOf n), .is (mOf n), .is f, .is (1 : Int), .no, .no, .no]) (fun f k => f * k) 1 Wk.refl (fun f j hj => ⟨_, gx_name 5 nd, ?_⟩) ?_
  · have hj := rng_mem hj
    refine sd_set 3 (px_mulR (px_var 3) (px_var 5) ⟨by omega, by omega⟩) (sd_nil ?_) nd
    exact .same (.same (.same (.same (.same (.no (.same (.same .nil)))))))
  have ec : (rng 1 (n + 1 - 1).toNat).foldl (fun f k : Int => f * k) 1 = fac n := by
    rw [show (n + 1 - 1).toNat = n.toNat by omega]
    exact fac1_fold _
  rw [ec]
  have el : kOf n + 1 + (if decide (0 < mOf n) = true then 1 else 0) - 1 = lastRing n := by
    unfold lastRing
    by_cases h : 0 < mOf n
    · simp only [h, decide_true, if_true]; omega
    · simp only [h, decide_false, if_false]; simp
  refine sd_foldP (ts := [5]) (it_range2 T.n_range px_int (px_add (px_add (px_var 1) px_int) (px_intB T.n_int (px_cmp cr_gt (px_var 2) px_int))) ⟨by decide, by decide, by omega, by omega⟩) (fun f : Int => [.is n, .is (kOf n), .is (mOf n), .is (fac n), .is f, .no, .no, .no]) lcm1 1 (fun f => 0 < f) Wk.refl (by decide) (fun f j hj hf => ⟨_, gx_name 5 nd, ?_, ?_⟩) fun hf => ?_
  · have hj := rng_mem hj
    exact lcm1_pos hf (by omega)
  · have hj := rng_mem hj
    rw [el] at hj
    have g0 : 0 < (Int.gcd f j : Int) := by
      have := Int.gcd_pos_of_ne_zero_left j (show f ≠ 0 by omega)
      omega
    have g1 : (Int.gcd f j : Int) < 2 ^ 62 := by
      have := Int.le_of_dvd (show 0 < j by omega) (Int.gcd_dvd_right f j)
      omega
    refine sd_set 4 (px_mulR (px_div (px_var 4) (px_c ((can_lcommon T).mono (by decide)) hr (ax_cons (px_var 4) (ax_cons (px_var 5) ax_nil)) ⟨_, _, by omega, by omega, rfl, rfl, rfl⟩ defOk_nil) (div_ok g0 g1)) (px_var 5) ⟨by omega, by omega⟩) (sd_nil ?_) nd
    exact .same (.same (.same (.same (.same (.no (.same (.same .nil)))))))
  have ee : (rng 1 (kOf n + 1 + (if decide (0 < mOf n) = true then 1 else 0) - 1).toNat).foldl lcm1 1 = roundDays n := by
    rw [el]; rfl
  rw [ee]
  have h5 := choices_few (n := kOf n + 1) (k := mOf n) (by omega)
  have h6 := choices_nn (n := kOf n + 1) (k := mOf n)
  have wd : CDivW (settledMany n) (roundDays n) := wide_div (roundDays_pos n) (roundDays_few fw) (by decide) (by decide)
  refine sd_set 6 (px_mulL (px_c ((can_lchoices T).mono (by decide)) hr (ax_cons (px_add (px_var 1) px_int) (ax_cons (px_var 2) ax_nil)) ⟨kOf n + 1, mOf n, by omega, by omega, m0, by omega, rfl, rfl, rfl⟩ defOk_nil) (px_var 3) ⟨by omega, by omega⟩) ?_ nd
  show SD _ _ ([.is n, .is (kOf n), .is (mOf n), .is (fac n), .is (roundDays n), .no, .is (settledMany n), .no] : DE) _ _
  refine sd_set 7 (px_frz (px_lst (lx_cons (px_c ((can_settled_many T).mono (by decide)) hr (ax_cons (px_var 0) ax_nil) ⟨n, fw, rfl, rfl, rfl⟩ defOk_nil) (lx_cons (px_c ((can_round_days T).mono (by decide)) hr (ax_cons (px_var 0) ax_nil) ⟨n, fw, rfl, rfl, rfl⟩ defOk_nil) (lx_cons (px_c (can_rounds_many T) hr (ax_cons (px_var 0) ax_nil) ⟨n, fw, rfl, rfl, rfl⟩ defOk_nil) lx_nil))))) ?_ nd
  refine sd_ret (px_and (px_cmp (cr_eqD hu (fun _ _ => trivial) (fun _ _ => trivial)) (px_var 7) (px_frz (px_lst (lx_cons (px_var 6) (lx_cons (px_var 4) (lx_cons (px_div (px_var 6) (px_var 4) wd) lx_nil)))))) fun _ => px_and (px_cmp cr_eq (px_mod (px_var 6) (px_var 4) (roundDays_pos n)) px_int) fun _ =>
    px_one (px_cmp cr_eq (px_ck0 (ks := ["folk"]) ((can_settled_many T).mono (by decide)) T.d_settled_many hr (kx_cons (px_var 0) kx_nil) ⟨n, fw, rfl, rfl, rfl⟩ (fun _ _ _ _ _ _ ws hl => match ws, hl with | [_], _ => rfl)) (px_var 6))) ⟨?_, .is .nil⟩
  have ed : settledMany n % roundDays n = 0 := Int.emod_eq_zero_of_dvd (round_dvd n0)
  rw [ed]
  simp
def r_law : DE → Bool → DE → Prop := fun Γ x Γ' => ∃ xs : Scr Int, xs.l.length ≤ 63 ∧ Γ = [.is xs] ∧ x = true ∧ Γ' = Γ
theorem can_law (T : Txt K mg) : Can P w K mg base CX0 7 "law" ps_law [] (spM K (sh Bool) 1 r_law) := by
  refine canD T.d_law sc_law b_law fun cdv A outer s H E Γ x Γ' hr hR => ?_
  obtain ⟨xs, hx, rfl, rfl, rfl⟩ := hR
  have nd := sc_law.nd
  refine sd_fold (ts := [1]) (it_range1 T.n_range (px_max2 T.n_max px_int (px_min2 T.n_min px_int (px_lenS T.n_len (px_var 0)))) (by omega) (by omega)) (fun _ : Unit => [.is xs, .no, .no, .no, .no, .no]) (fun _ _ => ()) () Wk.refl (fun _ k hk => ⟨_, gx_name 1 nd, ?_⟩) ?_
  · have hk := rng_mem hk
    refine sd_setO 2 (px_c ((can_source T).mono (by decide)) hr (ax_cons (px_var 0) (ax_cons (px_var 1) ax_nil)) ⟨xs, k, by omega, rfl, rfl, rfl⟩ defOk_nil) (fun ad => ?_) nd
    refine sd_set 3 (px_cO 2 ((can_next T).mono (by decide)) hr (ax_own 2 (ax_cons px_int ax_nil)) rfl ⟨ad, srcOf xs.l k, 28, by decide, by decide, rfl, rfl, rfl⟩ defOk_nil) ?_ nd
    generalize srcOf xs.l k = s0
    have d0 := draw_nn (s := s0) (m := 28) (by decide)
    have d1 := draw_lt (s := s0) (m := 28) (by decide)
    generalize s0.draw 28 = d at *
    generalize s0.next 28 = s1
    refine sd_set 4 (px_div (px_mulL (px_var 3) (px_add (px_var 3) px_int) ⟨by omega, by omega⟩) px_int (div_ok (by decide) (by decide))) ?_ nd
    have f0 : 0 ≤ d * (d + 1) / 2 := Int.ediv_nonneg (Int.mul_nonneg d0 (by omega)) (by decide)
    generalize d * (d + 1) / 2 = fl at *
    refine sd_fold (ts := [5]) (it_list (px_frz (px_lst (lx_cons (px_cO 2 ((can_next T).mono (by decide)) hr (ax_own 2 (ax_cons px_int ax_nil)) rfl ⟨ad, s1, 401, by decide, by decide, rfl, rfl, rfl⟩ defOk_nil) (lx_cons (px_var 4) (lx_cons (px_add (px_var 4) px_int) (lx_cons (px_max2 T.n_max px_int (px_sub (px_var 4) px_int)) lx_nil))))))) (fun _ : Unit => [.is xs, .no, .no, .no, .is fl, .no]) (fun _ _ => ()) () ?_ (fun _ mm hm => ⟨_, gx_name 5 nd, ?_⟩) ?_
    · exact .same (.no (.no (.no (.same (.same .nil)))))
    · have m0 : 0 ≤ mm := by
        have e0 := draw_nn (s := s1) (m := 401) (by decide)
        simp only [List.mem_cons, List.not_mem_nil, or_false] at hm
        rcases hm with rfl | rfl | rfl | rfl <;> omega
      refine sd_if (tx_not (tx_val (px_c (can_right T) hr (ax_cons (px_min2 T.n_min px_int (px_var 5)) ax_nil) ⟨min 400 mm, by omega, by omega, rfl, rfl, rfl⟩ defOk_nil))) (fun h => ?_) (fun h => sd_nil (sd_nil ?_))
      · simp at h
      · exact .same (.same (.same (.same (.same (.no .nil)))))
    · exact sd_nil (.same (.no (.no (.no (.no (.no .nil))))))
  · exact sd_ret px_bl ⟨rfl, .is .nil⟩
end
end L
namespace LE
open PySem PySem.Spec PyProof.Rows L2 G L
def dd_is_whole : He.DefD := ⟨("is_whole", none), "is_whole", "is_whole", defArgs st_is_whole, defBody st_is_whole, defScope st_is_whole, [.int (0)], []⟩
def dd_least_rings : He.DefD := ⟨("least_rings", none), "least_rings", "least_rings", defArgs st_least_rings, defBody st_least_rings, defScope st_least_rings, [], []⟩
def dd_common : He.DefD := ⟨("common", none), "common", "common", defArgs st_common, defBody st_common, defScope st_common, [], []⟩
def dd_least_multiple : He.DefD := ⟨("least_multiple", none), "least_multiple", "least_multiple", defArgs st_least_multiple, defBody st_least_multiple, defScope st_least_multiple, [], []⟩
def dd_choices : He.DefD := ⟨("choices", none), "choices", "choices", defArgs st_choices, defBody st_choices, defScope st_choices, [], []⟩
def dd_orders : He.DefD := ⟨("orders", none), "orders", "orders", defArgs st_orders, defBody st_orders, defScope st_orders, [], []⟩
def dd_checked_number : He.DefD := ⟨("checked_number", none), "checked_number", "checked_number", defArgs st_checked_number, defBody st_checked_number, defScope st_checked_number, [], []⟩
def dd_parted : He.DefD := ⟨("parted", none), "parted", "parted", defArgs st_parted, defBody st_parted, defScope st_parted, [], []⟩
def dd_settled_many : He.DefD := ⟨("settled_many", none), "settled_many", "settled_many", defArgs st_settled_many, defBody st_settled_many, defScope st_settled_many, [], []⟩
def dd_round_days : He.DefD := ⟨("round_days", none), "round_days", "round_days", defArgs st_round_days, defBody st_round_days, defScope st_round_days, [], []⟩
def dd_rounds_many : He.DefD := ⟨("rounds_many", none), "rounds_many", "rounds_many", defArgs st_rounds_many, defBody st_rounds_many, defScope st_rounds_many, [], []⟩
def dd__law_cell_at : He.DefD := ⟨("_law_cell_at", none), "_law_cell_at", "_law_cell_at", defArgs st__law_cell_at, defBody st__law_cell_at, defScope st__law_cell_at, [], []⟩
def dd__law_mixed : He.DefD := ⟨("_law_mixed", none), "_law_mixed", "_law_mixed", defArgs st__law_mixed, defBody st__law_mixed, defScope st__law_mixed, [], []⟩
def dd__law_source : He.DefD := ⟨("_law_source", none), "_law_source", "_law_source", defArgs st__law_source, defBody st__law_source, defScope st__law_source, [], []⟩
def dd__law_next : He.DefD := ⟨("_law_next", none), "_law_next", "_law_next", defArgs st__law_next, defBody st__law_next, defScope st__law_next, [], []⟩
def dd__law_common : He.DefD := ⟨("_law_common", none), "_law_common", "_law_common", defArgs st__law_common, defBody st__law_common, defScope st__law_common, [], []⟩
def dd__law_choices : He.DefD := ⟨("_law_choices", none), "_law_choices", "_law_choices", defArgs st__law_choices, defBody st__law_choices, defScope st__law_choices, [], []⟩
def dd__law_parted : He.DefD := ⟨("_law_parted", none), "_law_parted", "_law_parted", defArgs st__law_parted, defBody st__law_parted, defScope st__law_parted, [], []⟩
def dd__law_right : He.DefD := ⟨("_law_right", none), "_law_right", "_law_right", defArgs st__law_right, defBody st__law_right, defScope st__law_right, [], []⟩
def dd_law : He.DefD := ⟨("law", none), "law", "law", defArgs st_law, defBody st_law, defScope st_law, [], []⟩
def fn : List He.DefD := ([dd_is_whole, dd_least_rings, dd_common, dd_least_multiple, dd_choices, dd_orders, dd_checked_number, dd_parted, dd_settled_many, dd_round_days, dd_rounds_many, dd__law_cell_at, dd__law_mixed, dd__law_source, dd__law_next, dd__law_common, dd__law_choices, dd__law_parted, dd__law_right, dd_law] : List He.DefD)
def fa : List He.Fa := ([.glo "is_whole", .glo "least_rings", .glo "common", .glo "least_multiple", .glo "choices", .glo "orders", .glo "checked_number", .glo "parted", .glo "settled_many", .glo "round_days", .glo "rounds_many", .glo "_law_cell_at", .glo "_law_mixed", .glo "_law_source", .glo "_law_next", .glo "_law_common", .glo "_law_choices", .glo "_law_parted", .glo "_law_right", .glo "law", .free "bool", .free "int", .free "isinstance", .free "len", .free "list", .free "max", .free "min", .free "range"] : List He.Fa)
def loose : List Str := (["GoerError", "NoFolk", "is_whole", "least_rings", "common", "least_multiple", "choices", "orders", "checked_number", "parted", "settled_many", "round_days", "rounds_many", "_law_cell_at", "_law_mixed", "_law_source", "_law_next", "_law_common", "_law_choices", "_law_parted", "_law_right"] : List Str)
abbrev R : PySem.W.OpenRow := PySem.W.OpenLaw.row PySem.Challenge.rw_firstgoers_k37_rounds_of_many
abbrev hk : PySem.W.Hook := He.hookD 4 fa fn
def ob (s : PySem.W.SharedT) : He.AlD := He.obsDG 4 fa fn (HandSHeadRun.getT s)
theorem ob_eq (s : PySem.W.SharedT) : ob s = hk.obs s.abs := He.obsDG_eq (HandSHeadRun.getT_eq s)
theorem run (w : World) : HandSHeadRun.RunEq R (PySem.W.view R.prog [26]) hk ob 1500 loose w := by
  intro os
  kernel_rfl
theorem txt {K : PySem.W.Frag} {h : Heap} {mg : Str → Option Value} (X : K.In h) (G : h.Ns mainGlobals mg) (c : He.SaysD fa fn K) : Txt K mg where
  d_is_whole := ⟨c.def_ 0 (d := dd_is_whole) rfl, He.glo_ok X G (c.fact 0 (f := .glo "is_whole") rfl)⟩
  d_least_rings := ⟨c.def_ 1 (d := dd_least_rings) rfl, He.glo_ok X G (c.fact 1 (f := .glo "least_rings") rfl)⟩
  d_common := ⟨c.def_ 2 (d := dd_common) rfl, He.glo_ok X G (c.fact 2 (f := .glo "common") rfl)⟩
  d_least_multiple := ⟨c.def_ 3 (d := dd_least_multiple) rfl, He.glo_ok X G (c.fact 3 (f := .glo "least_multiple") rfl)⟩
  d_choices := ⟨c.def_ 4 (d := dd_choices) rfl, He.glo_ok X G (c.fact 4 (f := .glo "choices") rfl)⟩
  d_orders := ⟨c.def_ 5 (d := dd_orders) rfl, He.glo_ok X G (c.fact 5 (f := .glo "orders") rfl)⟩
  d_checked_number := ⟨c.def_ 6 (d := dd_checked_number) rfl, He.glo_ok X G (c.fact 6 (f := .glo "checked_number") rfl)⟩
  d_parted := ⟨c.def_ 7 (d := dd_parted) rfl, He.glo_ok X G (c.fact 7 (f := .glo "parted") rfl)⟩
  d_settled_many := ⟨c.def_ 8 (d := dd_settled_many) rfl, He.glo_ok X G (c.fact 8 (f := .glo "settled_many") rfl)⟩
  d_round_days := ⟨c.def_ 9 (d := dd_round_days) rfl, He.glo_ok X G (c.fact 9 (f := .glo "round_days") rfl)⟩
  d_rounds_many := ⟨c.def_ 10 (d := dd_rounds_many) rfl, He.glo_ok X G (c.fact 10 (f := .glo "rounds_many") rfl)⟩
  d__law_cell_at := ⟨c.def_ 11 (d := dd__law_cell_at) rfl, He.glo_ok X G (c.fact 11 (f := .glo "_law_cell_at") rfl)⟩
  d__law_mixed := ⟨c.def_ 12 (d := dd__law_mixed) rfl, He.glo_ok X G (c.fact 12 (f := .glo "_law_mixed") rfl)⟩
  d__law_source := ⟨c.def_ 13 (d := dd__law_source) rfl, He.glo_ok X G (c.fact 13 (f := .glo "_law_source") rfl)⟩
  d__law_next := ⟨c.def_ 14 (d := dd__law_next) rfl, He.glo_ok X G (c.fact 14 (f := .glo "_law_next") rfl)⟩
  d__law_common := ⟨c.def_ 15 (d := dd__law_common) rfl, He.glo_ok X G (c.fact 15 (f := .glo "_law_common") rfl)⟩
  d__law_choices := ⟨c.def_ 16 (d := dd__law_choices) rfl, He.glo_ok X G (c.fact 16 (f := .glo "_law_choices") rfl)⟩
  d__law_parted := ⟨c.def_ 17 (d := dd__law_parted) rfl, He.glo_ok X G (c.fact 17 (f := .glo "_law_parted") rfl)⟩
  d__law_right := ⟨c.def_ 18 (d := dd__law_right) rfl, He.glo_ok X G (c.fact 18 (f := .glo "_law_right") rfl)⟩
  d_law := ⟨c.def_ 19 (d := dd_law) rfl, He.glo_ok X G (c.fact 19 (f := .glo "law") rfl)⟩
  n_bool := He.free_ok X G (c.fact 20 (f := .free "bool") rfl)
  n_int := He.free_ok X G (c.fact 21 (f := .free "int") rfl)
  n_isinstance := He.free_ok X G (c.fact 22 (f := .free "isinstance") rfl)
  n_len := He.free_ok X G (c.fact 23 (f := .free "len") rfl)
  n_list := He.free_ok X G (c.fact 24 (f := .free "list") rfl)
  n_max := He.free_ok X G (c.fact 25 (f := .free "max") rfl)
  n_min := He.free_ok X G (c.fact 26 (f := .free "min") rfl)
  n_range := He.free_ok X G (c.fact 27 (f := .free "range") rfl)
end LE
open PySem PySem.W PySem.Calls PyProof.Rows
set_option maxHeartbeats 0 in
theorem PySem.Challenge.cw_firstgoers_k37_rounds_of_many_holds : PySem.Challenge.rw_firstgoers_k37_rounds_of_many.Holds := by
  w_on; o_law
  refine HandSHeadRun.head_any (r := OpenLaw.row PySem.Challenge.rw_firstgoers_k37_rounds_of_many) (q := view (OpenLaw.row PySem.Challenge.rw_firstgoers_k37_rounds_of_many).prog [26]) (H := LE.hk) (ob := LE.ob) (M := 1500) (loose := LE.loose) (d := HandSHeadRun.topDef (OpenLaw.row PySem.Challenge.rw_firstgoers_k37_rounds_of_many).prog 26) (kwd := []) LE.ob_eq
    (by kernel_rfl) (fun s => by kernel_rfl) LE.run (by kernel_rfl) (by kernel_rfl) (by kernel_rfl) (by rfl) (by first | assumption | decide +kernel) (by decide +kernel) ⟨rfl, rfl, rfl, rfl, rfl, by decide +kernel⟩ ?hw ?hc
  case hw => w_witness2
  case hc =>
    refine L2.walk_ofE (l := PySem.Challenge.rw_firstgoers_k37_rounds_of_many) (n := 63) (k := 7) (x := "_law_script") (CX := L2.CX0) rfl (by decide) (by kernel_rfl) ⟨rfl, by decide, by decide⟩ ?F (fun _ _ _ _ z => z)
    intro w mg fa h Y GG hmg0
    obtain ⟨K, KX, c⟩ := Y
    have hmg : mg ("law" : PySem.Str) = some (.ref fa) := by
      have e : (HandSHeadRun.topDef (OpenLaw.row PySem.Challenge.rw_firstgoers_k37_rounds_of_many).prog 26).name = ("law" : PySem.Str) := by kernel_rfl
      rw [← e]
      exact hmg0
    have T := LE.txt KX GG c
    have e := hmg.symm.trans T.d_law.gl
    cases e
    obtain ⟨fd, F⟩ := T.d_law.df
    exact ⟨K, fd, G.spM K (G.sh Bool) 1 L.r_law, KX, fun s u => F.bindsA (ps := ["_law_script"]) L.b_law s [u] rfl, fun H a ns hl _ hS => G.hsp_law (fun xs hx => ⟨xs, hx, rfl, rfl, rfl⟩) H a ns hl hS, fun base _ _ => G.fn_law T.d_law.gl F (L.can_law T)⟩
