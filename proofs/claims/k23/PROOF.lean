import PyProof.Rows.All
import Wide.All
import OpenK.AllK
import Wide.FinOn
import HandS.ForMost
import HandS.ForExc
import HandS.Wide
import HandS.IsInst
import HandS.Conv
import HandS.Defaults
import HandS.HeadHook2
import HandS.More
import HandS.Head0
import HandS.Head1
import HandS.Head2
import HandS.HeadEnd
import HandS.HeadHook1
import HandS.Strs
import HandS.Zip
import HandS.SetFor
import HandS.SortKw
import KE.DataMinMax
import KE.KDictWalk
import PyProof.DictWalks
import HandS.DictComp
import HandS.Iter
import HandS.MakeKwOnly
import KE.KDictPairs
import HandS.SortInts
import HandS.Style
import PyProof.LongRange
import HandS.Deep
import KE.KUnpackStar
import HandS.SetKeys
import HandS.NoneIn
import HandS.Flow
import HandS.ExcValue
import HandS.WordsDict
import HandS.TupAny
import HandS.TupLe
import HandS.Call
import PySem.Challenge.RW_firstgoers_k23_whole_companies
set_option Elab.async false
set_option linter.all false
set_option maxRecDepth 100000
set_option maxHeartbeats 4000000
namespace G
open PySem PySem.Spec PyProof.Rows L2
def wE (X : Cx) (e : Expr) : TE := fun σ H Q => ∀ pins s, Inv X pins σ H s → wpAny (model X.prog X.w) X.A (eval e X.env) (EP X pins σ Q) X.xe s
def wT (X : Cx) (e : Expr) : TT := fun σ H Q => ∀ pins s, Inv X pins σ H s → wpAny (model X.prog X.w) X.A (isTrue e X.env (eval e X.env)) (TP X pins σ Q) X.xe s
def wA (X : Cx) (es : List Expr) : TA := fun σ H Q => ∀ pos pins s, Inv X pins σ H s → wpAny (model X.prog X.w) X.A (spliced (backTo pos (starEach es X.env))) (AP X pins σ Q) X.xe s
def wS (X : Cx) (st : List Stmt) : TS := fun D σ H => ∀ pins s, Inv X pins σ H s → wpAny (model X.prog X.w) X.A (execs st X.env) (SP X pins D) X.xe s
def wS1 (X : Cx) (st : Stmt) : TS := fun D σ H => ∀ pins s, Inv X pins σ H s → wpAny (model X.prog X.w) X.A (exec st X.env) (SP X pins D) X.xe s
def wI (X : Cx) (tg e : Expr) : TI := fun σ H R => ∀ pins s, Inv X pins σ H s → wpAny (model X.prog X.w) X.A (eval e X.env) (fun v s1 => wpAny (model X.prog X.w) X.A (pyIter v) (PIE X pins σ tg R) X.xe s1) X.xe s
section
variable {X : Cx} {e tg : Expr} {es : List Expr} {st : List Stmt} {s1 : Stmt} {σ : L2.St} {H : Hp}
theorem pE : PE X e (wE X e) := ⟨fun pins s _ _ _ I h => h pins s I⟩
theorem pT : PT X e (wT X e) := ⟨fun pins s _ _ _ I h => h pins s I⟩
theorem pA : PA X es (wA X es) := ⟨fun pos pins s _ _ _ I h => h pos pins s I⟩
theorem pS : PSs X st (wS X st) := ⟨fun pins s _ _ _ I h => h pins s I⟩
theorem pS1 : PS X s1 (wS1 X s1) := ⟨fun pins s _ _ _ I h => h pins s I⟩
theorem pI : PI X tg e (wI X tg e) := ⟨fun pins s _ _ _ I h => h pins s I⟩
theorem wE.of {t : TE} {Q : VK} (h : PE X e t) (q : t σ H Q) : wE X e σ H Q := fun pins s I => h.run pins s σ H Q I q
theorem wT.of {t : TT} {Q} (h : PT X e t) (q : t σ H Q) : wT X e σ H Q := fun pins s I => h.run pins s σ H Q I q
theorem wA.of {t : TA} {Q} (h : PA X es t) (q : t σ H Q) : wA X es σ H Q := fun pos pins s I => h.run pos pins s σ H Q I q
theorem wS.of {t : TS} {D : Ends} (h : PSs X st t) (q : t D σ H) : wS X st D σ H := fun pins s I => h.run pins s σ H D I q
theorem wS1.of {t : TS} {D : Ends} (h : PS X s1 t) (q : t D σ H) : wS1 X s1 D σ H := fun pins s I => h.run pins s σ H D I q
theorem wI.of {t : TI} {R} (h : PI X tg e t) (q : t σ H R) : wI X tg e σ H R := fun pins s I => h.run pins s σ H R I q
end
def DictO : HO → Prop
  | .dK _ => True
  | .dT _ => True
  | _ => False
/-- a heap that grew, its dicts locked or unlocked -/
def Alk (F F' : Hp) : Prop := ∀ a o, F a = some o → F' a = some o ∨ (DictO o ∧ ∃ od, F' a = some (.frz od o)) ∨ ∃ od d, o = .frz od d ∧ DictO d ∧ F' a = some d
theorem Same.alk {F F' : Hp} (h : Same F F') : Alk F F' := fun a o e => .inl (h a o e)
theorem Alk.lst {F F' : Hp} {a : Addr} {vs : List V} (h : Alk F F') (e : F a = some (.lst vs)) : F' a = some (.lst vs) := by
  rcases h a _ e with z | ⟨z, _⟩ | ⟨_, _, z, _⟩
  · exact z
  · cases z
  · cases z
theorem Alk.tup {F F' : Hp} {a : Addr} {vs : List V} (h : Alk F F') (e : F a = some (.tup vs)) : F' a = some (.tup vs) := by
  rcases h a _ e with z | ⟨z, _⟩ | ⟨_, _, z, _⟩
  · exact z
  · cases z
  · cases z
theorem Alk.ins {F F' : Hp} {a C dx : Addr} {fs : List (Str × V)} (h : Alk F F') (e : F a = some (.ins C dx fs)) : F' a = some (.ins C dx fs) := by
  rcases h a _ e with z | ⟨z, _⟩ | ⟨_, _, z, _⟩
  · exact z
  · cases z
  · cases z
theorem Alk.seq {K : PySem.W.Frag} {F F' : Hp} {a : Addr} {vs : List V} (h : Alk F F') (e : SqL K F a vs) : SqL K F' a vs := by
  rcases e with (e | ⟨o, e⟩) | e
  · exact .inl (.inl (h.lst e))
  · refine .inl (.inr ⟨o, ?_⟩)
    rcases h a _ e with z | ⟨z, _⟩ | ⟨_, _, z, z2, _⟩
    · exact z
    · cases z
    · cases z; cases z2
  · exact .inr e
theorem Alk.rd {F F' : Hp} {a : Addr} {d : HO} (h : Alk F F') (hd : DictO d) (e : Rd F a d) : Rd F' a d := by
  rcases e with e | ⟨o, e⟩
  · rcases h a _ e with z | ⟨_, z⟩ | ⟨od, d2, z, _, _⟩
    · exact .inl z
    · exact .inr z
    · rw [z] at hd; cases hd
  · rcases h a _ e with z | ⟨z, _⟩ | ⟨od, d2, z, z2, z3⟩
    · exact .inr ⟨o, z⟩
    · cases z
    · cases z; exact .inl z3
class Rp (α : Type) where
  rp : PySem.W.Frag → Hp → V → α → Prop
  lk : ∀ {K : PySem.W.Frag} {F F' : Hp} {v : V} {x : α}, Alk F F' → rp K F v x → rp K F' v x
open Rp (rp)
theorem Rp.mono {α : Type} [Rp α] {K : PySem.W.Frag} {F F' : Hp} {v : V} {x : α} (h : Same F F') (r : rp K F v x) : rp K F' v x := Rp.lk (Same.alk h) r
instance : Rp Int := ⟨fun _ _ v x => v = .int x, fun _ h => h⟩
instance : Rp Bool := ⟨fun _ _ v x => v = .bl x, fun _ h => h⟩
instance : Rp Str := ⟨fun _ _ v x => v = .str x, fun _ h => h⟩
instance : Rp Unit := ⟨fun _ _ v _ => v = .non, fun _ h => h⟩
instance : Rp V := ⟨fun _ _ v x => v = x, fun _ h => h⟩
abbrev RpL {α : Type} [Rp α] (K : PySem.W.Frag) (F : Hp) (vs : List V) (xs : List α) : Prop := Paired (rp K F) vs xs
theorem RpL.lk {α : Type} [Rp α] {K : PySem.W.Frag} {F F' : Hp} {vs : List V} {xs : List α} (h : Alk F F') (r : RpL K F vs xs) : RpL K F' vs xs := Paired.mapP r fun _ _ => Rp.lk h
theorem RpL.mono {α : Type} [Rp α] {K : PySem.W.Frag} {F F' : Hp} {vs : List V} {xs : List α} (h : Same F F') (r : RpL K F vs xs) : RpL K F' vs xs := Paired.mapP r fun _ _ => Rp.mono h
instance {α : Type} [Rp α] : Rp (List α) := ⟨fun K F v xs => ∃ a vs, v = .ref a ∧ F a = some (.lst vs) ∧ RpL K F vs xs, fun h ⟨a, vs, e, s, r⟩ => ⟨a, vs, e, h.lst s, r.lk h⟩⟩
/-- a list that may be another's (the script) -/
structure Scr (α : Type) where
  l : List α
instance {α : Type} [Rp α] : Rp (Scr α) := ⟨fun K F v xs => ∃ a vs, v = .ref a ∧ SqL K F a vs ∧ RpL K F vs xs.l, fun h ⟨a, vs, e, s, r⟩ => ⟨a, vs, e, h.seq s, r.lk h⟩⟩
instance {α : Type} [Rp α] : Rp (Option α) := ⟨fun K F v x => match x with | none => v = .non | some y => rp K F v y, fun {K F F' v x} h r => by
  cases x with
  | none => exact r
  | some y => exact Rp.lk (α := α) (x := y) h r⟩
instance {α β : Type} [Rp α] [Rp β] : Rp (α × β) := ⟨fun K F v x => ∃ a v1 v2, v = .ref a ∧ F a = some (.tup [v1, v2]) ∧ rp K F v1 x.1 ∧ rp K F v2 x.2, fun h ⟨a, v1, v2, e, s, r1, r2⟩ => ⟨a, v1, v2, e, h.tup s, Rp.lk h r1, Rp.lk h r2⟩⟩
instance {α β : Type} [Rp α] [Rp β] : Rp (α ⊕ β) := ⟨fun K F v x => match x with | .inl y => rp K F v y | .inr y => rp K F v y, fun {K F F' v x} h r => by
  cases x with
  | inl y => exact Rp.lk (α := α) (x := y) h r
  | inr y => exact Rp.lk (α := β) (x := y) h r⟩
structure T3 (α β γ : Type) where
  a : α
  b : β
  c : γ
  deriving DecidableEq
structure T4 (α β γ δ : Type) where
  a : α
  b : β
  c : γ
  d : δ
  deriving DecidableEq
structure Tup (α : Type) where
  l : List α
  deriving DecidableEq
instance {α β γ : Type} [Rp α] [Rp β] [Rp γ] : Rp (T3 α β γ) := ⟨fun K F v x => ∃ a v1 v2 v3, v = .ref a ∧ F a = some (.tup [v1, v2, v3]) ∧ rp K F v1 x.a ∧ rp K F v2 x.b ∧ rp K F v3 x.c,
  fun h ⟨a, v1, v2, v3, e, s, r1, r2, r3⟩ => ⟨a, v1, v2, v3, e, h.tup s, Rp.lk h r1, Rp.lk h r2, Rp.lk h r3⟩⟩
instance {α β γ δ : Type} [Rp α] [Rp β] [Rp γ] [Rp δ] : Rp (T4 α β γ δ) := ⟨fun K F v x => ∃ a v1 v2 v3 v4, v = .ref a ∧ F a = some (.tup [v1, v2, v3, v4]) ∧ rp K F v1 x.a ∧ rp K F v2 x.b ∧ rp K F v3 x.c ∧ rp K F v4 x.d,
  fun h ⟨a, v1, v2, v3, v4, e, s, r1, r2, r3, r4⟩ => ⟨a, v1, v2, v3, v4, e, h.tup s, Rp.lk h r1, Rp.lk h r2, Rp.lk h r3, Rp.lk h r4⟩⟩
instance {α : Type} [Rp α] : Rp (Tup α) := ⟨fun K F v x => ∃ a vs, v = .ref a ∧ F a = some (.tup vs) ∧ RpL K F vs x.l, fun h ⟨a, vs, e, s, r⟩ => ⟨a, vs, e, h.tup s, r.lk h⟩⟩

/-- what is one's own alone: where it stands, what is true of it -/
structure Res where
  ads : List Addr
  ok : PySem.W.Frag → Hp → Hp → V → Prop
  mono : ∀ {K : PySem.W.Frag} {F F' H : Hp} {v : V}, Same F F' → ok K F H v → ok K F' H v
  frame : ∀ {K : PySem.W.Frag} {F H H' : Hp} {v : V}, (∀ a ∈ ads, H' a = H a) → ok K F H v → ok K F H' v
inductive Ent : Type 1
  | no
  | is {α : Type} [Rp α] (x : α)
  | res (r : Res)
/-- a list of one's own -/
@[reducible] def Res.lst {α : Type} [Rp α] (a : Addr) (xs : List α) : Res where
  ads := [a]
  ok := fun K F H v => v = .ref a ∧ ∃ vs, H a = some (.lst vs) ∧ RpL K F vs xs
  mono := fun h ⟨e, vs, e3, r⟩ => ⟨e, vs, e3, r.mono h⟩
  frame := fun h ⟨e, vs, e3, r⟩ => ⟨e, vs, by rw [h a List.mem_cons_self]; exact e3, r⟩
@[reducible] def Ent.own {α : Type} [Rp α] (a : Addr) (xs : List α) : Ent := .res (.lst a xs)
def Ent.ads : Ent → List Addr
  | .res r => r.ads
  | _ => []
def Ent.ok (K : PySem.W.Frag) (F H : Hp) (o : Option V) : Ent → Prop
  | .no => True
  | @Ent.is _ _ x => ∃ v, o = some v ∧ rp K F v x
  | .res r => ∃ v, o = some v ∧ (∀ a ∈ r.ads, F a = none ∧ H a ≠ none) ∧ r.ok K F H v
abbrev DE := List Ent
def adsAt (Γ : DE) (i : Nat) : List Addr := match Γ[i]? with
  | some e => e.ads
  | none => []
theorem adsAt_of {Γ : DE} {i : Nat} {e : Ent} (h : Γ[i]? = some e) : adsAt Γ i = e.ads := by unfold adsAt; rw [h]
theorem of_adsAt {Γ : DE} {i : Nat} {a : Addr} (h : a ∈ adsAt Γ i) : ∃ r, Γ[i]? = some (.res r) ∧ a ∈ r.ads := by
  unfold adsAt at h
  cases q : Γ[i]? with
  | none => rw [q] at h; cases h
  | some e =>
    rw [q] at h
    cases e with
    | no => cases h
    | is x => cases h
    | res r => exact ⟨r, rfl, h⟩
def Own (Γ : DE) (a : Addr) : Prop := ∃ i : Nat, a ∈ adsAt Γ i
structure Env (K : PySem.W.Frag) (Γ : DE) (σ : L2.St) (F H : Hp) : Prop where
  le : Same F H
  len : σ.length = Γ.length
  ent : ∀ (i : Nat) (e : Ent), Γ[i]? = some e → ∃ o, σ[i]? = some o ∧ e.ok K F H o
  sep : ∀ (i j : Nat) (a : Addr), a ∈ adsAt Γ i → a ∈ adsAt Γ j → i = j
/-- an entry stays true where F grows, what it owns stands, and stays out of F -/
theorem Ent.ok.move {K : PySem.W.Frag} {F H F' H' : Hp} {o : Option V} {e : Ent} (h : e.ok K F H o) (up : Same F F') (hs : ∀ a ∈ e.ads, H' a = H a) (hf : ∀ a ∈ e.ads, F' a = none) : e.ok K F' H' o := by
  cases e with
  | no => trivial
  | is x => obtain ⟨v, e, r⟩ := h; exact ⟨v, e, Rp.mono up r⟩
  | res r =>
    obtain ⟨v, e, ha, k⟩ := h
    exact ⟨v, e, fun a m => ⟨hf a m, by rw [hs a m]; exact (ha a m).2⟩, r.frame hs (r.mono up k)⟩
/-- .. an entry that owns nothing -/
theorem Ent.ok.up {K : PySem.W.Frag} {F H F' H' : Hp} {o : Option V} {e : Ent} (h : e.ok K F H o) (up : Same F F') (hn : e.ads = []) : e.ok K F' H' o :=
  h.move up (fun a m => by rw [hn] at m; cases m) fun a m => by rw [hn] at m; cases m
theorem Ent.ok.free {K : PySem.W.Frag} {F H : Hp} {o : Option V} {e : Ent} (h : e.ok K F H o) {a : Addr} (m : a ∈ e.ads) : F a = none ∧ H a ≠ none := by
  cases e with
  | no => cases m
  | is x => cases m
  | res r => obtain ⟨v, _, ha, _⟩ := h; exact ha a m
structure Step (O : Addr → Prop) (F H F' H' : Hp) : Prop where
  up : Same F F'
  keep : ∀ p o, H p = some o → ¬ O p → H' p = some o
  there : ∀ p, H' p = none → H p = none
  fresh : ∀ p, F p = none → F' p ≠ none → H p = none ∨ O p
theorem Step.refl {O : Addr → Prop} {F H : Hp} : Step O F H F H := ⟨Same.refl _, fun _ _ h _ => h, fun _ h => h, fun _ h h' => absurd h h'⟩
theorem Step.trans {O O1 : Addr → Prop} {F H F1 H1 F2 H2 : Hp} (a : Step O F H F1 H1) (b : Step O1 F1 H1 F2 H2) (n : ∀ p, O1 p → O p ∨ H p = none) : Step O F H F2 H2 := by
  refine ⟨a.up.trans b.up, fun p o h no => b.keep p o (a.keep p o h no) fun z => ?_, fun p h => a.there p (b.there p h), fun p h h' => ?_⟩
  · rcases n p z with z | z
    · exact no z
    · rw [h] at z; cases z
  · by_cases q : F1 p = none
    · rcases b.fresh p q h' with z | z
      · exact .inl (a.there p z)
      · rcases n p z with z | z
        · exact .inr z
        · exact .inl z
    · exact a.fresh p h q
/-- what is not open to change stands as it stood, and stays out of F -/
theorem Step.same {O : Addr → Prop} {F H F' H' : Hp} (s : Step O F H F' H') {a : Addr} (hH : H a ≠ none) (hF : F a = none) (no : ¬ O a) : H' a = H a ∧ F' a = none := by
  constructor
  · cases q : H a with
    | none => exact absurd q hH
    | some o => exact s.keep a o q no
  · cases q : F' a with
    | none => rfl
    | some o =>
      rcases s.fresh a hF (by rw [q]; exact fun z => nomatch z) with z | z
      · exact absurd z hH
      · exact absurd z no
theorem Env.freeOf {K : PySem.W.Frag} {Γ : DE} {σ : L2.St} {F H : Hp} (E : Env K Γ σ F H) {i : Nat} {a : Addr} (h : a ∈ adsAt Γ i) : F a = none ∧ H a ≠ none := by
  obtain ⟨r, q, m⟩ := of_adsAt h
  obtain ⟨o, _, k⟩ := E.ent i _ q
  exact Ent.ok.free k m
theorem Own.some {Γ : DE} {a : Addr} (h : Own Γ a) {K : PySem.W.Frag} {σ : L2.St} {F H : Hp} (E : Env K Γ σ F H) : H a ≠ none := by
  obtain ⟨i, h⟩ := h
  exact (E.freeOf h).2

structure Md where
  β : Type
  ok : PySem.W.Frag → Hp → Hp → Hp → Hp → V → β → Prop
  pre : ∀ {K : PySem.W.Frag} {F H F1 H1 F2 H2 : Hp} {v : V} {x : β}, (∀ p, H1 p = none → H p = none) → ok K F1 H1 F2 H2 v x → ok K F H F2 H2 v x
@[reducible] def sh (α : Type) [Rp α] : Md := ⟨α, fun K _ _ F' _ v x => rp K F' v x, fun _ h => h⟩
/-- a new list -/
@[reducible] def nw (α : Type) [Rp α] : Md := ⟨List α, fun K _ H F' H' v xs => ∃ p vs, v = .ref p ∧ H p = none ∧ F' p = none ∧ H' p = some (.lst vs) ∧ RpL K F' vs xs, fun n ⟨p, vs, a, b, c⟩ => ⟨p, vs, a, n p b, c⟩⟩
/-- a list that is read at once -/
@[reducible] def br (α : Type) [Rp α] : Md := ⟨List α, fun K _ _ F' H' v xs => ∃ p vs, v = .ref p ∧ SqL K H' p vs ∧ RpL K F' vs xs, fun _ h => h⟩

/-- something new of one's own -/
@[reducible] def nr (Pr : Res → Prop) : Md := ⟨Unit, fun K _ H F' H' v _ => ∃ r, Pr r ∧ (∀ a ∈ r.ads, H a = none ∧ F' a = none ∧ H' a ≠ none) ∧ r.ok K F' H' v, fun n ⟨r, a, b, c⟩ => ⟨r, a, fun p m => ⟨n p (b p m).1, (b p m).2⟩, c⟩⟩

structure PX (X : Cx) (m : Md) (Γ : DE) (e : Expr) (x : m.β) (Γ' : DE) : Prop where
  sub : ∀ a, Own Γ' a → Own Γ a
  run : ∀ σ F H (Q : VK), Env X.K Γ σ F H → (∀ v F' H', Env X.K Γ' σ F' H' → Step (Own Γ) F H F' H' → m.ok X.K F H F' H' v x → Q v H') → wE X e σ H Q
structure TX (X : Cx) (Γ : DE) (e : Expr) (b : Bool) (Γ' : DE) : Prop where
  sub : ∀ a, Own Γ' a → Own Γ a
  run : ∀ σ F H (Q : Bool → Hp → Prop), Env X.K Γ σ F H → (∀ F' H', Env X.K Γ' σ F' H' → Step (Own Γ) F H F' H' → Q b H') → wT X e σ H Q

section
variable {X : Cx} {Γ Γ1 Γ2 Γ3 : DE} {e e1 e2 a b c : Expr} {pos : Pos}
theorem sub_refl : ∀ a, Own Γ a → Own Γ a := fun _ h => h
theorem Step.sub {O1 O : Addr → Prop} {F H F1 H1 F2 H2 : Hp} (a : Step O F H F1 H1) (b : Step O1 F1 H1 F2 H2) (n : ∀ p, O1 p → O p) : Step O F H F2 H2 := a.trans b fun p z => .inl (n p z)

/-- a value that needs no heap and changes none -/
theorem px_of {m : Md} {x : m.β} (h : ∀ σ F H (Q : VK), Env X.K Γ σ F H → (∀ v, m.ok X.K F H F H v x → Q v H) → wE X e σ H Q) : PX X m Γ e x Γ :=
  ⟨sub_refl, fun σ F H Q E q => h σ F H Q E fun v r => q v F H E Step.refl r⟩
theorem px_int {n : Int} {j} : PX X (sh Int) Γ (.Constant (.int n) j pos) n Γ := px_of fun _ _ _ _ _ q => wE.of pe_int (q _ rfl)
theorem px_bl {n : Bool} {j} : PX X (sh Bool) Γ (.Constant (.bool n) j pos) n Γ := px_of fun _ _ _ _ _ q => wE.of pe_bl (q _ rfl)
theorem px_str {n : Str} {j} : PX X (sh Str) Γ (.Constant (.str n) j pos) n Γ := px_of fun _ _ _ _ _ q => wE.of pe_str (q _ rfl)
theorem px_non {j} : PX X (sh Unit) Γ (.Constant .none j pos) () Γ := px_of fun _ _ _ _ _ q => wE.of pe_non (q _ rfl)
theorem px_none {α : Type} [Rp α] {j} : PX X (sh (Option α)) Γ (.Constant .none j pos) none Γ := px_of fun _ _ _ _ _ q => wE.of pe_non (q _ rfl)
theorem px_some {α : Type} [Rp α] {x : α} (h : PX X (sh α) Γ e x Γ1) : PX X (sh (Option α)) Γ e (some x) Γ1 := ⟨h.sub, fun σ F H Q E q => h.run σ F H Q E fun v F' H' E' s r => q v F' H' E' s r⟩
/-- a module's constant -/
theorem px_glob {α : Type} [Rp α] {x : α} {nm : Str} {v : V} {u : Value} (hg : Gl X nm) (hm : X.mg nm = some u) (r : RelV v u) (hr : ∀ F, rp X.K F v x) (hd : (nm == ("__debug__" : Str)) = false := by decide) : PX X (sh α) Γ (.Name nm pos) x Γ :=
  px_of fun _ F _ _ _ q => wE.of (pe_glob hg hm r hd) (q _ (hr F))
/-- a name's slot -/
theorem px_var {α : Type} [Rp α] {x : α} {nm : Str} (i : Nat) (h : Γ[i]? = some (.is x) := by rfl) (hN : X.N[i]? = some nm := by rfl) (hv : Vis X.env.scope nm := by first | exact Or.inl rfl | exact Or.inr (Or.inl rfl) | exact Or.inr (Or.inr rfl))
    (hd : (nm == ("__debug__" : Str)) = false := by decide) (hcd : (nm == ("__classdict__" : Str)) = false := by decide) : PX X (sh α) Γ (.Name nm pos) x Γ :=
  px_of fun σ F H Q E q => by
    obtain ⟨o, ho, v, rfl, r⟩ := E.ent i _ h
    exact wE.of (pe_var hN hv hd hcd) ⟨v, ho, q v r⟩
/-- a name that holds a list of one's own, read at once -/
theorem px_ownB {α : Type} [Rp α] {ad : Addr} {xs : List α} {nm : Str} (i : Nat) (h : Γ[i]? = some (.own ad xs) := by rfl) (hN : X.N[i]? = some nm := by rfl) (hv : Vis X.env.scope nm := by first | exact Or.inl rfl | exact Or.inr (Or.inl rfl) | exact Or.inr (Or.inr rfl))
    (hd : (nm == ("__debug__" : Str)) = false := by decide) (hcd : (nm == ("__classdict__" : Str)) = false := by decide) : PX X (br α) Γ (.Name nm pos) xs Γ :=
  px_of fun σ F H Q E q => by
    obtain ⟨o, ho, v, rfl, _, rfl, vs, hl, r⟩ := E.ent i _ h
    exact wE.of (pe_var hN hv hd hcd) ⟨_, ho, q _ ⟨ad, vs, rfl, .inl (.inl hl), r⟩⟩
theorem PX.br {α : Type} [Rp α] {xs : List α} (h : PX X (sh (List α)) Γ e xs Γ1) : PX X (br α) Γ e xs Γ1 :=
  ⟨h.sub, fun σ F H Q E q => h.run σ F H Q E fun v F' H' E' s ⟨a, vs, e, t, r⟩ => q v F' H' E' s ⟨a, vs, e, .inl (.inl (E'.le a _ t)), r⟩⟩
theorem PX.nb {α : Type} [Rp α] {xs : List α} (h : PX X (nw α) Γ e xs Γ1) : PX X (G.br α) Γ e xs Γ1 :=
  ⟨h.sub, fun σ F H Q E q => h.run σ F H Q E fun v F' H' E' s ⟨p, vs, e, _, _, t, r⟩ => q v F' H' E' s ⟨p, vs, e, .inl (.inl t), r⟩⟩
theorem PX.nr {α : Type} [Rp α] {xs : List α} (h : PX X (nw α) Γ e xs Γ1) : PX X (G.nr fun r => ∃ p, r = Res.lst p xs) Γ e () Γ1 :=
  ⟨h.sub, fun σ F H Q E q => h.run σ F H Q E fun v F' H' E' s ⟨p, vs, e, h1, h2, t, r⟩ => q v F' H' E' s ⟨.lst p xs, ⟨p, rfl⟩, by
    intro a m
    cases (List.mem_singleton.mp m)
    exact ⟨h1, h2, by rw [t]; exact fun z => nomatch z⟩, e, vs, t, r⟩⟩

theorem same_upd {F : Hp} {p : Addr} {o : HO} (h : F p = none) : Same F (upd F p o) := fun b x e => by
  rw [upd_ne (ne_of_none e h)]
  exact e
theorem Env.freeze {K : PySem.W.Frag} {σ : L2.St} {F H : Hp} {p : Addr} {o : HO} (E : Env K Γ σ F H) (hp : H p = some o) (hF : F p = none) (hn : ¬ Own Γ p) : Env K Γ σ (upd F p o) H := by
  have s := same_upd (o := o) hF
  refine ⟨fun b x e => ?_, E.len, fun i e h => ?_, E.sep⟩
  · by_cases z : b = p
    · subst z; rw [upd_same] at e; cases e; exact hp
    · rw [upd_ne z] at e; exact E.le _ _ e
  · obtain ⟨w, ho, r⟩ := E.ent i e h
    refine ⟨w, ho, r.move s (fun _ _ => rfl) fun a m => ?_⟩
    have ma : a ∈ adsAt Γ i := by rw [adsAt_of h]; exact m
    rw [upd_ne (fun z : a = p => hn ⟨i, by rw [← z]; exact ma⟩)]
    exact (E.freeOf ma).1
theorem px_frz {α : Type} [Rp α] {xs : List α} (h : PX X (nw α) Γ e xs Γ1) : PX X (sh (List α)) Γ e xs Γ1 := by
  refine ⟨h.sub, fun σ F H Q E q => h.run σ F H Q E fun v F' H' E' s ⟨p, vs, e, hn, hf, t, r⟩ => ?_⟩
  have no : ¬ Own Γ1 p := fun z => by
    have := Own.some (h.sub _ z) E
    exact this hn
  have sm := same_upd (o := .lst vs) hf
  refine q v (upd F' p (.lst vs)) H' (E'.freeze t hf no) ⟨s.up.trans sm, s.keep, s.there, fun b h1 h2 => ?_⟩ ⟨p, vs, e, upd_same, r.mono sm⟩
  by_cases z : b = p
  · subst z; exact .inl hn
  · rw [upd_ne z] at h2; exact s.fresh b h1 h2
end
end G
namespace G
open PySem PySem.Spec PyProof.Rows L2
open Rp (rp)
section
variable {X : Cx} {Γ Γ1 Γ2 Γ3 : DE} {e a b c : Expr} {pos : Pos}
theorem Env.free {K : PySem.W.Frag} {σ : L2.St} {F H : Hp} {p : Addr} (E : Env K Γ σ F H) (hp : H p = none) : F p = none := Same.free E.le hp
theorem Env.grow {K : PySem.W.Frag} {σ : L2.St} {F H H' : Hp} (E : Env K Γ σ F H) (h : Same H H') : Env K Γ σ F H' := by
  refine ⟨E.le.trans h, E.len, fun i e g => ?_, E.sep⟩
  obtain ⟨w, ho, r⟩ := E.ent i e g
  refine ⟨w, ho, r.move (Same.refl _) (fun a m => ?_) fun a m => (r.free m).1⟩
  cases q : H a with
  | none => exact absurd q (r.free m).2
  | some o => exact h a o q
theorem Env.new {K : PySem.W.Frag} {σ : L2.St} {F H : Hp} {p : Addr} {o : HO} (E : Env K Γ σ F H) (hp : H p = none) : Env K Γ σ F (upd H p o) := E.grow (same_upd hp)
theorem Step.new {O : Addr → Prop} {F H : Hp} {p : Addr} {o : HO} (hp : H p = none) : Step O F H F (upd H p o) :=
  ⟨Same.refl _, fun b x e _ => same_upd hp b x e, fun b e => by
    by_cases z : b = p
    · rw [z, upd_same] at e; cases e
    · rw [upd_ne z] at e; exact e, fun b h h' => absurd h h'⟩
theorem pair_append {α β : Type} {R : α → β → Prop} : ∀ {l1 : List α} {l2 : List β} {m1 : List α} {m2 : List β}, Paired R l1 l2 → Paired R m1 m2 → Paired R (l1 ++ m1) (l2 ++ m2)
  | _, _, _, _, .nil, s => s
  | _, _, _, _, .cons r t, s => .cons r (pair_append t s)
theorem px_two {m1 : Md} {α : Type} [Rp α] {m : Md} {x : α} {y : m1.β} {z : m.β} {r : R2} (ha : PX X (sh α) Γ a x Γ1) (hb : PX X m1 Γ1 b y Γ2) (hpe : PE X e (tOp r (wE X a) (wE X b)))
    (hr : ∀ σ F0 H0 F H v w (Q : VK), Env X.K Γ2 σ F H → rp X.K F v x → m1.ok X.K F0 H0 F H w y → (∀ u F' H', Env X.K Γ2 σ F' H' → Step (Own Γ2) F H F' H' → m.ok X.K F H F' H' u z → Q u H') → r v w H Q) : PX X m Γ e z Γ2 := by
  refine ⟨fun p h => ha.sub p (hb.sub p h), fun σ F H Q E q => wE.of hpe ?_⟩
  refine ha.run σ F H _ E fun v F1 H1 E1 s1 r1 => hb.run σ F1 H1 _ E1 fun w F2 H2 E2 s2 r2 => ?_
  refine hr σ F1 H1 F2 H2 v w Q E2 (Rp.mono s2.up r1) r2 fun u F3 H3 E3 s3 r3 => q u F3 H3 E3 ?_ ?_
  · exact s1.sub (s2.sub s3 fun p h => hb.sub p h) fun p h => ha.sub p h
  · exact m.pre (fun p h => s1.there p (s2.there p h)) r3
/-- a scalar comes out -/
theorem px_sc {m1 : Md} {α : Type} [Rp α] {m : Md} {x : α} {y : m1.β} {z : m.β} {r : R2} (ha : PX X (sh α) Γ a x Γ1) (hb : PX X m1 Γ1 b y Γ2) (hpe : PE X e (tOp r (wE X a) (wE X b)))
    (hr : ∀ F0 H0 F H v w (Q : VK), Same F H → rp X.K F v x → m1.ok X.K F0 H0 F H w y → (∀ u, m.ok X.K F H F H u z → Q u H) → r v w H Q) : PX X m Γ e z Γ2 :=
  px_two ha hb hpe fun σ F0 H0 F H v w Q E rv rw q => hr F0 H0 F H v w Q E.le rv rw fun u k => q u F H E Step.refl k
theorem px_i2 {op : Operator} {C : Int → Int → Prop} {g : Int → Int → Int} {x y : Int} (ho : OpR X (binaryOp op) (rI C fun i j => .int (g i j))) (ha : PX X (sh Int) Γ a x Γ1) (hb : PX X (sh Int) Γ1 b y Γ2) (hc : C x y) : PX X (sh Int) Γ (.BinOp a op b pos) (g x y) Γ2 :=
  px_sc ha hb (pe_op ho pE pE) fun _ _ _ _ _ _ _ _ hv hw q => ⟨x, y, hv, hw, hc, q _ rfl⟩
theorem px_i20 {op : Operator} {g : Int → Int → Int} {x y : Int} (ho : OpR X (binaryOp op) (rI0 fun i j => .int (g i j))) (ha : PX X (sh Int) Γ a x Γ1) (hb : PX X (sh Int) Γ1 b y Γ2) : PX X (sh Int) Γ (.BinOp a op b pos) (g x y) Γ2 :=
  px_sc ha hb (pe_op ho pE pE) fun _ _ _ _ _ _ _ _ hv hw q => ⟨x, y, hv, hw, q _ rfl⟩
theorem px_add {x y : Int} (ha : PX X (sh Int) Γ a x Γ1) (hb : PX X (sh Int) Γ1 b y Γ2) : PX X (sh Int) Γ (.BinOp a .Add b pos) (x + y) Γ2 := px_i20 op_add ha hb
theorem px_sub {x y : Int} (ha : PX X (sh Int) Γ a x Γ1) (hb : PX X (sh Int) Γ1 b y Γ2) : PX X (sh Int) Γ (.BinOp a .Sub b pos) (x - y) Γ2 := px_i20 op_sub ha hb
theorem px_mulL {x y : Int} (ha : PX X (sh Int) Γ a x Γ1) (hb : PX X (sh Int) Γ1 b y Γ2) (h : -(2 ^ 64) < x ∧ x < 2 ^ 64) : PX X (sh Int) Γ (.BinOp a .Mult b pos) (x * y) Γ2 := px_i2 op_mul ha hb (.inl h)
theorem px_mulR {x y : Int} (ha : PX X (sh Int) Γ a x Γ1) (hb : PX X (sh Int) Γ1 b y Γ2) (h : -(2 ^ 64) < y ∧ y < 2 ^ 64) : PX X (sh Int) Γ (.BinOp a .Mult b pos) (x * y) Γ2 := px_i2 op_mul ha hb (.inr h)
theorem px_div {x y : Int} (ha : PX X (sh Int) Γ a x Γ1) (hb : PX X (sh Int) Γ1 b y Γ2) (h : CDivW x y) : PX X (sh Int) Γ (.BinOp a .FloorDiv b pos) (x / y) Γ2 := px_i2 op_fdivW ha hb h
theorem px_mod {x y : Int} (ha : PX X (sh Int) Γ a x Γ1) (hb : PX X (sh Int) Γ1 b y Γ2) (h : 0 < y) : PX X (sh Int) Γ (.BinOp a .Mod b pos) (x % y) Γ2 := px_i2 op_mod ha hb h
theorem px_pow {x y : Int} (ha : PX X (sh Int) Γ a x Γ1) (hb : PX X (sh Int) Γ1 b y Γ2) (h : CPow x y) : PX X (sh Int) Γ (.BinOp a .Pow b pos) (x ^ y.toNat) Γ2 := px_i2 op_pow ha hb h
theorem px_neg {x : Int} (ha : PX X (sh Int) Γ a x Γ1) : PX X (sh Int) Γ (.UnaryOp .USub a pos) (-x) Γ1 :=
  ⟨ha.sub, fun σ F H Q E q => wE.of (pe_un un_neg pE) (ha.run σ F H _ E fun v F' H' E' s rv => ⟨x, rv, q _ F' H' E' s rfl⟩)⟩
theorem px_cadd {x y : Str} (ha : PX X (sh Str) Γ a x Γ1) (hb : PX X (sh Str) Γ1 b y Γ2) (h : x.length + y.length ≤ sizeLine) : PX X (sh Str) Γ (.BinOp a .Add b pos) (x ++ y) Γ2 :=
  px_sc ha hb (pe_op op_add_str pE pE) fun _ _ _ _ _ _ _ _ hv hw q => ⟨x, y, hv, hw, h, q _ rfl⟩
/-- lists put together: a new one -/
theorem px_cat {α : Type} [Rp α] {xs ys : List α} (ha : PX X (sh (List α)) Γ a xs Γ1) (hb : PX X (sh (List α)) Γ1 b ys Γ2) (h : xs.length + ys.length ≤ sizeLine) : PX X (nw α) Γ (.BinOp a .Add b pos) (xs ++ ys) Γ2 := by
  refine px_two ha hb (pe_op op_cat pE pE) fun σ F0 H0 F H v w Q E ⟨l, vs, ev, tv, rv⟩ ⟨k, ws, ew, tw, rw'⟩ q => ?_
  have n1 : vs.length = xs.length := rv.length
  have n2 : ws.length = ys.length := rw'.length
  refine ⟨l, k, vs, ws, ev, ew, E.le _ _ tv, E.le _ _ tw, by omega, fun p hp => ?_⟩
  exact q _ F _ (E.new hp) (Step.new hp) ⟨p, _, rfl, hp, E.free hp, upd_same, pair_append rv rw'⟩

def CR (X : Cx) (op : CmpOp) {α : Type} [Rp α] (x : α) (m : Md) (y : m.β) (z : Bool) : Prop :=
  ∃ r : R2, OpR X (compareOp op) r ∧ ∀ F0 H0 F H v w (Q : VK), Same F H → rp X.K F v x → m.ok X.K F0 H0 F H w y → Q (.bl z) H → r v w H Q
theorem px_cmp {op : CmpOp} {α : Type} [Rp α] {x : α} {m : Md} {y : m.β} {z : Bool} (hc : CR X op x m y z) (ha : PX X (sh α) Γ a x Γ1) (hb : PX X m Γ1 b y Γ2) (hm : behindInMarks op b = false := by first | exact nomark _ | rfl | with_unfolding_all rfl) :
    PX X (sh Bool) Γ (.Compare a [op] [b] pos) z Γ2 := by
  obtain ⟨r, ho, hr⟩ := hc
  exact px_sc ha hb (pe_cmpR ho pE pE hm) fun F0 H0 F H v w Q le hv hw q => hr F0 H0 F H v w Q le hv hw (q _ rfl)
theorem tx_cmp {op : CmpOp} {α : Type} [Rp α] {x : α} {m : Md} {y : m.β} {z : Bool} (hc : CR X op x m y z) (ha : PX X (sh α) Γ a x Γ1) (hb : PX X m Γ1 b y Γ2) (hm : behindInMarks op b = false := by first | exact nomark _ | rfl | with_unfolding_all rfl) :
    TX X Γ (.Compare a [op] [b] pos) z Γ2 := by
  obtain ⟨r, ho, hr⟩ := hc
  refine ⟨fun p h => ha.sub p (hb.sub p h), fun σ F H Q E q => wT.of (pt_cmpR ho pE pE hm) ?_⟩
  refine ha.run σ F H _ E fun v F1 H1 E1 s1 r1 => hb.run σ F1 H1 _ E1 fun w F2 H2 E2 s2 r2 => ?_
  exact hr F1 H1 F2 H2 v w _ E2.le (Rp.mono s2.up r1) r2 ⟨z, rfl, q F2 H2 E2 (s1.sub s2 fun p h => ha.sub p h)⟩
section
variable {x y : Int}
theorem cr_lt : CR X .Lt x (sh Int) y (decide (x < y)) := ⟨_, op_lt, fun _ _ _ _ _ _ _ _ hv hw q => ⟨x, y, hv, hw, q⟩⟩
theorem cr_le : CR X .LtE x (sh Int) y (decide (x ≤ y)) := ⟨_, op_le, fun _ _ _ _ _ _ _ _ hv hw q => ⟨x, y, hv, hw, q⟩⟩
theorem cr_gt : CR X .Gt x (sh Int) y (decide (y < x)) := ⟨_, op_gt, fun _ _ _ _ _ _ _ _ hv hw q => ⟨x, y, hv, hw, q⟩⟩
theorem cr_ge : CR X .GtE x (sh Int) y (decide (y ≤ x)) := ⟨_, op_ge, fun _ _ _ _ _ _ _ _ hv hw q => ⟨x, y, hv, hw, q⟩⟩
end
/-- scalars: == by V's own equality -/
class Sc (α : Type) [Rp α] [DecidableEq α] where
  val : α → V
  val_of : ∀ {K : PySem.W.Frag} {F : Hp} {v : V} {x : α}, rp K F v x → v = val x
  sc : ∀ x y : α, scal (val x) (val y) = true
  eq : ∀ x y : α, decide (val x = val y) = decide (x = y)
instance : Sc Int := ⟨V.int, fun h => h, fun _ _ => rfl, fun x y => by by_cases h : x = y <;> simp [h]⟩
instance : Sc Bool := ⟨V.bl, fun h => h, fun _ _ => rfl, fun x y => by by_cases h : x = y <;> simp [h]⟩
instance : Sc Str := ⟨V.str, fun h => h, fun _ _ => rfl, fun x y => by by_cases h : x = y <;> simp [h]⟩
theorem cr_eq {α : Type} [Rp α] [DecidableEq α] [Sc α] {x y : α} : CR X .Eq x (sh α) y (decide (x = y)) := ⟨_, op_eq, fun _ _ _ _ v w Q _ hv hw q => by
  rw [Sc.val_of hv, Sc.val_of hw]
  exact ⟨Sc.sc x y, by rw [Sc.eq]; exact q⟩⟩
theorem cr_ne {α : Type} [Rp α] [DecidableEq α] [Sc α] {x y : α} : CR X .NotEq x (sh α) y (!decide (x = y)) := ⟨_, op_ne, fun _ _ _ _ v w Q _ hv hw q => by
  rw [Sc.val_of hv, Sc.val_of hw]
  exact ⟨Sc.sc x y, by rw [Sc.eq]; exact q⟩⟩
theorem cr_isN {α : Type} [Rp α] {x : Option α} (hx : ∀ {F : Hp} {v : V} {y : α}, rp X.K F v y → v ≠ .non) : CR X .Is x (sh Unit) () x.isNone := ⟨_, op_isN, fun _ _ _ _ v w Q _ hv hw q => by
  refine ⟨hw, ?_⟩
  cases x with
  | none => rw [show v = V.non from hv]; exact q
  | some y => rw [decide_eq_false (hx (y := y) hv)]; exact q⟩
theorem cr_notN {α : Type} [Rp α] {x : Option α} (hx : ∀ {F : Hp} {v : V} {y : α}, rp X.K F v y → v ≠ .non) : CR X .IsNot x (sh Unit) () x.isSome := ⟨_, op_notN, fun _ _ _ _ v w Q _ hv hw q => by
  refine ⟨hw, ?_⟩
  cases x with
  | none => rw [show v = V.non from hv]; exact q
  | some y => rw [decide_eq_false (hx (y := y) hv)]; exact q⟩
/-- data of any depth: == -/
class De (α : Type) [Rp α] [DecidableEq α] where
  toD : α → PyData
  good : α → Prop
  dep : Nat
  dp : ∀ {K : PySem.W.Frag} {F : Hp} {v : V} {x : α}, rp K F v x → Dp K F v (toD x)
  lay : ∀ x : α, good x → (toD x).canLay0 = true
  hdep : ∀ x : α, (toD x).depth ≤ dep
  eqv : ∀ x y : α, PyData.eqv (toD x) (toD y) = decide (x = y)
instance : De Int := ⟨.int, fun _ => True, 0, fun h => by cases (show _ = V.int _ from h); exact .int _, fun _ _ => rfl, fun _ => Nat.le_refl _, fun x y => by unfold PyData.eqv; by_cases h : x = y <;> simp [h]⟩
instance : De Bool := ⟨.bool, fun _ => True, 0, fun h => by cases (show _ = V.bl _ from h); exact .bl _, fun _ _ => rfl, fun _ => Nat.le_refl _, fun x y => by unfold PyData.eqv; by_cases h : x = y <;> simp [h]⟩
instance : De Str := ⟨.str, fun x => PyData.strOk x = true, 0, fun h => by cases (show _ = V.str _ from h); exact .str _, fun _ h => by unfold PyData.canLay0; exact h, fun _ => Nat.le_refl _, fun x y => by unfold PyData.eqv; by_cases h : x = y <;> simp [h]⟩
theorem dpAll_of {α : Type} [Rp α] [DecidableEq α] [De α] {K : PySem.W.Frag} {F : Hp} : ∀ {vs : List V} {xs : List α}, RpL K F vs xs → DpAll K F vs (xs.map De.toD)
  | _, _, .nil => .nil
  | _, _, .cons r t => .cons (De.dp r) (dpAll_of t)
theorem layAll_of {α : Type} [Rp α] [DecidableEq α] [De α] : ∀ {xs : List α}, (∀ x ∈ xs, De.good x) → PyData.canLayAll0 (xs.map De.toD) = true
  | [], _ => by simp [PyData.canLayAll0]
  | x :: xs, h => by
    rw [List.map_cons, PyData.canLayAll0, De.lay x (h x List.mem_cons_self), layAll_of fun y hy => h y (List.mem_cons_of_mem _ hy)]
    rfl
theorem depAll_of {α : Type} [Rp α] [DecidableEq α] [De α] : ∀ {xs : List α}, PyData.depthAll (xs.map De.toD) ≤ De.dep α
  | [] => by simp [PyData.depthAll]
  | x :: xs => by
    rw [List.map_cons, PyData.depthAll]
    exact Nat.max_le.mpr ⟨De.hdep x, depAll_of⟩
theorem eqvAll_of {α : Type} [Rp α] [DecidableEq α] [De α] : ∀ (xs ys : List α), PyData.eqvAll (xs.map De.toD) (ys.map De.toD) = decide (xs = ys)
  | [], [] => by simp [PyData.eqvAll]
  | [], y :: ys => by simp [PyData.eqvAll]
  | x :: xs, [] => by simp [PyData.eqvAll]
  | x :: xs, y :: ys => by
    rw [List.map_cons, List.map_cons, PyData.eqvAll, De.eqv, eqvAll_of xs ys]
    by_cases h : x = y <;> by_cases h' : xs = ys <;> simp [h, h']
instance {α : Type} [Rp α] [DecidableEq α] [De α] : De (List α) := ⟨fun xs => .list (xs.map De.toD), fun xs => ∀ x ∈ xs, De.good x, De.dep α + 1,
  fun ⟨a, vs, e, s, r⟩ => by rw [e]; exact .lst (.inl (.inl s)) (dpAll_of r), fun xs h => by unfold PyData.canLay0; exact layAll_of h, fun xs => by unfold PyData.depth; exact Nat.succ_le_succ depAll_of, fun x y => by
    unfold PyData.eqv; exact eqvAll_of x y⟩
instance {α β : Type} [Rp α] [DecidableEq α] [De α] [Rp β] [DecidableEq β] [De β] : De (α × β) := ⟨fun x => .tuple [De.toD x.1, De.toD x.2], fun x => De.good x.1 ∧ De.good x.2, max (De.dep α) (De.dep β) + 1,
  fun ⟨a, v1, v2, e, s, r1, r2⟩ => by rw [e]; exact .tup (.inl (.inl s)) (.cons (De.dp r1) (.cons (De.dp r2) .nil)), fun x h => by simp [PyData.canLay0, PyData.canLayAll0, De.lay x.1 h.1, De.lay x.2 h.2],
  fun x => by
    have h1 := De.hdep x.1
    have h2 := De.hdep x.2
    simp only [PyData.depth, PyData.depthAll]
    omega, fun x y => by
    simp only [PyData.eqv, PyData.eqvAll, De.eqv]
    obtain ⟨x1, x2⟩ := x
    obtain ⟨y1, y2⟩ := y
    by_cases h : x1 = y1 <;> by_cases h' : x2 = y2 <;> simp [h, h']⟩
theorem shaped_of {α : Type} [Rp α] [DecidableEq α] [De α] {x : α} (h : De.good x) (hd : De.dep α ≤ 64) : SeqAt.shaped (De.toD x) = true := by
  unfold SeqAt.shaped
  rw [De.lay x h, decide_eq_true (Nat.le_trans (De.hdep x) hd)]
  rfl
theorem cr_eqD {α : Type} [Rp α] [DecidableEq α] [De α] {x y : α} (hu : X.A.units + 64 < cLine) (gx : De.good x) (gy : De.good y) (hd : De.dep α ≤ 64 := by decide) : CR X .Eq x (sh α) y (decide (x = y)) :=
  ⟨_, op_eqD hu, fun F0 H0 F H v w Q le hv hw q => ⟨De.toD x, De.toD y, De.dp (Rp.mono le hv), De.dp (Rp.mono le (show rp X.K F w y from hw)), shaped_of gx hd, shaped_of gy hd, by rw [De.eqv]; exact q⟩⟩
theorem cr_neD {α : Type} [Rp α] [DecidableEq α] [De α] {x y : α} (hu : X.A.units + 64 < cLine) (gx : De.good x) (gy : De.good y) (hd : De.dep α ≤ 64 := by decide) : CR X .NotEq x (sh α) y (!decide (x = y)) :=
  ⟨_, op_neD hu, fun F0 H0 F H v w Q le hv hw q => ⟨De.toD x, De.toD y, De.dp (Rp.mono le hv), De.dp (Rp.mono le (show rp X.K F w y from hw)), shaped_of gx hd, shaped_of gy hd, by rw [De.eqv]; exact q⟩⟩

theorem tx_val {z : Bool} (h : PX X (sh Bool) Γ e z Γ1) (he : ∀ whole, isTrue e X.env whole = (do let v ← whole; standAt e.pos; holding [v] (truthy v)) := by intro _; rfl) : TX X Γ e z Γ1 :=
  ⟨h.sub, fun σ F H Q E q => wT.of (pt_val pE he) (h.run σ F H _ E fun v F' H' E' s r => ⟨z, r, q F' H' E' s⟩)⟩
theorem tx_not {z : Bool} (h : TX X Γ e z Γ1) : TX X Γ (.UnaryOp .Not e pos) (!z) Γ1 :=
  ⟨h.sub, fun σ F H Q E q => wT.of (pt_not pT) (h.run σ F H _ E fun F' H' E' s => q F' H' E' s)⟩
/-- one more operand of and, or: the rest as it stands by itself -/
structure WX (X : Cx) (Γ : DE) (e : Expr) (z : Bool) (Γ' : DE) : Prop where
  sub : ∀ a, Own Γ' a → Own Γ a
  run : ∀ σ F H (Q : Bool → Hp → Prop), Env X.K Γ σ F H → (∀ F' H', Env X.K Γ' σ F' H' → Step (Own Γ) F H F' H' → Q z H') → ∀ whole pins s, Inv X pins σ H s → wpAny (model X.prog X.w) X.A (isTrue e X.env whole) (TP X pins σ Q) X.xe s
theorem WX.tx {z : Bool} (h : WX X Γ e z Γ1) : TX X Γ e z Γ1 := ⟨h.sub, fun σ F H Q E q pins s I => h.run σ F H Q E q _ pins s I⟩
def wW (X : Cx) (e : Expr) : TT := fun σ H Q => ∀ whole pins s, Inv X pins σ H s → wpAny (model X.prog X.w) X.A (isTrue e X.env whole) (TP X pins σ Q) X.xe s
theorem pW : PW X e (wW X e) := ⟨fun whole pins s _ _ _ I h => h whole pins s I⟩
theorem wx_and1 {z : Bool} (h : TX X Γ a z Γ1) : WX X Γ (.BoolOp .And [a] pos) z Γ1 := ⟨h.sub, fun σ F H Q E q whole pins s I => (pw_and1 pT).run whole pins s σ H Q I (h.run σ F H Q E q)⟩
theorem wx_or1 {z : Bool} (h : TX X Γ a z Γ1) : WX X Γ (.BoolOp .Or [a] pos) z Γ1 := ⟨h.sub, fun σ F H Q E q whole pins s I => (pw_or1 pT).run whole pins s σ H Q I (h.run σ F H Q E q)⟩
theorem wx_and {rest : List Expr} {y z : Bool} (h : TX X Γ a y Γ) (h2 : y = true → WX X Γ (.BoolOp .And (b :: rest) pos) z Γ) : WX X Γ (.BoolOp .And (a :: b :: rest) pos) (y && z) Γ := by
  refine ⟨sub_refl, fun σ F H Q E q whole pins s I => (pw_and pT pW).run whole pins s σ H Q I ?_⟩
  refine h.run σ F H _ E fun F' H' E' st => ?_
  cases y with
  | true => exact (h2 rfl).run σ F' H' Q E' fun F2 H2 E2 s2 => q F2 H2 E2 (st.sub s2 sub_refl)
  | false => exact q F' H' E' st
theorem wx_or {rest : List Expr} {y z : Bool} (h : TX X Γ a y Γ) (h2 : y = false → WX X Γ (.BoolOp .Or (b :: rest) pos) z Γ) : WX X Γ (.BoolOp .Or (a :: b :: rest) pos) (y || z) Γ := by
  refine ⟨sub_refl, fun σ F H Q E q whole pins s I => (pw_or pT pW).run whole pins s σ H Q I ?_⟩
  refine h.run σ F H _ E fun F' H' E' st => ?_
  cases y with
  | false => exact (h2 rfl).run σ F' H' Q E' fun F2 H2 E2 s2 => q F2 H2 E2 (st.sub s2 sub_refl)
  | true => exact q F' H' E' st
/-- as values -/
theorem px_one {op} {m : Md} {x : m.β} (h : PX X m Γ a x Γ1) : PX X m Γ (.BoolOp op [a] pos) x Γ1 := ⟨h.sub, fun σ F H Q E q => wE.of (pe_one pE) (h.run σ F H Q E q)⟩
theorem px_and {rest : List Expr} {y z : Bool} (h : PX X (sh Bool) Γ a y Γ) (h2 : y = true → PX X (sh Bool) Γ (.BoolOp .And (b :: rest) pos) z Γ) : PX X (sh Bool) Γ (.BoolOp .And (a :: b :: rest) pos) (y && z) Γ := by
  refine ⟨sub_refl, fun σ F H Q E q => wE.of (pe_and pE pE) ?_⟩
  refine h.run σ F H _ E fun v F' H' E' st r => ⟨y, r, ?_⟩
  cases y with
  | true => exact (h2 rfl).run σ F' H' Q E' fun w F2 H2 E2 s2 r2 => q w F2 H2 E2 (st.sub s2 sub_refl) r2
  | false => exact q _ F' H' E' st rfl
theorem px_not {z : Bool} (h : PX X (sh Bool) Γ e z Γ1) : PX X (sh Bool) Γ (.UnaryOp .Not e pos) (!z) Γ1 :=
  ⟨h.sub, fun σ F H Q E q => wE.of (pe_not pE) (h.run σ F H _ E fun v F' H' E' s r => ⟨z, r, q _ F' H' E' s rfl⟩)⟩
end
end G
namespace G
open PySem PySem.Spec PyProof.Rows L2
open Rp (rp)
structure Ax (m : Md) where
  nx : DE → Prop
  rt : m.β → DE → Prop
  bk : DE → Prop := fun _ => False
  ct : DE → Prop := fun _ => False
structure Stp (Γ : DE) (F H : Hp) (Γ' : DE) (F' H' : Hp) : Prop where
  st : Step (Own Γ) F H F' H'
  ow : ∀ a, Own Γ' a → Own Γ a ∨ H a = none
theorem Stp.refl {Γ : DE} {F H : Hp} : Stp Γ F H Γ F H := ⟨Step.refl, fun _ h => .inl h⟩
theorem Stp.trans {Γ Γ1 Γ2 : DE} {F H F1 H1 F2 H2 : Hp} (a : Stp Γ F H Γ1 F1 H1) (b : Stp Γ1 F1 H1 Γ2 F2 H2) : Stp Γ F H Γ2 F2 H2 :=
  ⟨a.st.trans b.st a.ow, fun p h => (b.ow p h).elim (a.ow p) fun z => .inr (a.st.there p z)⟩
structure Link (X : Cx) (m : Md) (D : Ax m) (Γ : DE) (F H : Hp) (D' : Ends) : Prop where
  nx : ∀ Γ' σ' F' H', D.nx Γ' → Env X.K Γ' σ' F' H' → Stp Γ F H Γ' F' H' → D'.nx σ' H'
  rt : ∀ x Γ' σ' F' H' v, D.rt x Γ' → Env X.K Γ' σ' F' H' → Stp Γ F H Γ' F' H' → m.ok X.K F H F' H' v x → D'.rt v H'
  bk : ∀ Γ' σ' F' H', D.bk Γ' → Env X.K Γ' σ' F' H' → Stp Γ F H Γ' F' H' → D'.bk σ' H'
  ct : ∀ Γ' σ' F' H', D.ct Γ' → Env X.K Γ' σ' F' H' → Stp Γ F H Γ' F' H' → D'.ct σ' H'
def SD (X : Cx) (m : Md) (Γ : DE) (st : List Stmt) (D : Ax m) : Prop := ∀ σ F H (D' : Ends), Env X.K Γ σ F H → Link X m D Γ F H D' → wS X st D' σ H
def SD1 (X : Cx) (m : Md) (Γ : DE) (st : Stmt) (D : Ax m) : Prop := ∀ σ F H (D' : Ends), Env X.K Γ σ F H → Link X m D Γ F H D' → wS1 X st D' σ H
/-- forgetting -/
inductive Wk : DE → DE → Prop
  | nil : Wk [] []
  | same {e : Ent} {Γ Γ' : DE} : Wk Γ Γ' → Wk (e :: Γ) (e :: Γ')
  | no {e : Ent} {Γ Γ' : DE} : Wk Γ Γ' → Wk (e :: Γ) (.no :: Γ')
theorem Wk.refl : ∀ {Γ : DE}, Wk Γ Γ
  | [] => .nil
  | _ :: _ => .same Wk.refl
theorem Wk.len {Γ Γ' : DE} (h : Wk Γ Γ') : Γ.length = Γ'.length := by
  induction h with
  | nil => rfl
  | same _ ih => simp [ih]
  | no _ ih => simp [ih]
theorem Wk.get {Γ Γ' : DE} (h : Wk Γ Γ') : ∀ (i : Nat) (e : Ent), Γ'[i]? = some e → e = .no ∧ i < Γ.length ∨ Γ[i]? = some e := by
  induction h with
  | nil => intro i e h; simp at h
  | same _ ih =>
    intro i e h
    cases i with
    | zero => exact .inr h
    | succ i => rcases ih i e (by simpa using h) with ⟨a, b⟩ | z
                · exact .inl ⟨a, by simpa using b⟩
                · exact .inr (by simpa using z)
  | no _ ih =>
    intro i e h
    cases i with
    | zero => simp at h; exact .inl ⟨h.symm, by simp⟩
    | succ i => rcases ih i e (by simpa using h) with ⟨a, b⟩ | z
                · exact .inl ⟨a, by simpa using b⟩
                · exact .inr (by simpa using z)
theorem Wk.adr {Γ Γ' : DE} (h : Wk Γ Γ') {i : Nat} {a : Addr} (q : a ∈ adsAt Γ' i) : a ∈ adsAt Γ i := by
  obtain ⟨r, z, m⟩ := of_adsAt q
  rcases h.get i _ z with ⟨e, _⟩ | z'
  · cases e
  · rw [adsAt_of z']; exact m
theorem Wk.own {Γ Γ' : DE} (h : Wk Γ Γ') : ∀ a, Own Γ' a → Own Γ a := fun a ⟨i, q⟩ => ⟨i, h.adr q⟩
theorem Env.wk {K : PySem.W.Frag} {Γ Γ' : DE} {σ : L2.St} {F H : Hp} (E : Env K Γ σ F H) (h : Wk Γ Γ') : Env K Γ' σ F H := by
  refine ⟨E.le, E.len.trans h.len, fun i e q => ?_, fun i j a q r => E.sep i j a (h.adr q) (h.adr r)⟩
  rcases h.get i e q with ⟨rfl, hi⟩ | z
  · exact ⟨σ[i]'(by rw [E.len]; exact hi), by rw [List.getElem?_eq_getElem], trivial⟩
  · exact E.ent i e z
theorem Stp.wk {Γ Γ1 Γ2 : DE} {F H F1 H1 : Hp} (s : Stp Γ F H Γ1 F1 H1) (h : Wk Γ1 Γ2) : Stp Γ F H Γ2 F1 H1 := ⟨s.st, fun a q => s.ow a (h.own a q)⟩

section
variable {X : Cx} {m : Md} {Γ Γ1 Γ2 : DE} {st : List Stmt} {s : Stmt} {rest : List Stmt} {D : Ax m} {e a b c tg : Expr} {pos : Pos}
/-- what was reached is reached from further back -/
theorem Link.from {F H F1 H1 : Hp} {D' : Ends} (L : Link X m D Γ F H D') (s : Stp Γ F H Γ1 F1 H1) : Link X m D Γ1 F1 H1 D' :=
  ⟨fun Γ' σ' F' H' h E t => L.nx Γ' σ' F' H' h E (s.trans t), fun x Γ' σ' F' H' v h E t r => L.rt x Γ' σ' F' H' v h E (s.trans t) (m.pre s.st.there r),
    fun Γ' σ' F' H' h E t => L.bk Γ' σ' F' H' h E (s.trans t), fun Γ' σ' F' H' h E t => L.ct Γ' σ' F' H' h E (s.trans t)⟩
theorem PX.stp {m1 : Md} {x : m1.β} (h : PX X m1 Γ e x Γ1) {F H F1 H1 : Hp} (s : Step (Own Γ) F H F1 H1) : Stp Γ F H Γ1 F1 H1 := ⟨s, fun a q => .inl (h.sub a q)⟩
theorem sd_nil (h : D.nx Γ) : SD X m Γ [] D := fun σ F H D' E L => wS.of pss_nil (L.nx Γ σ F H h E Stp.refl)
theorem sd_cons {N : DE → Prop} (h1 : SD1 X m Γ s { D with nx := N }) (h2 : ∀ Γ', N Γ' → SD X m Γ' rest D) : SD X m Γ (s :: rest) D := fun σ F H D' E L => by
  refine wS.of (pss_cons pS1 pS) (h1 σ F H _ E ⟨fun Γ' σ' F' H' h E' t => ?_, L.rt, L.bk, L.ct⟩)
  exact h2 Γ' h σ' F' H' D' E' (L.from t)
/-- through one statement whose end is known -/
theorem sd_c1 {Γ' : DE} (h1 : SD1 X m Γ s { D with nx := fun Γ'' => Γ'' = Γ' }) (h2 : SD X m Γ' rest D) : SD X m Γ (s :: rest) D := sd_cons h1 fun _ e => e ▸ h2
theorem sd_wk (h : Wk Γ Γ1) (k : SD X m Γ1 st D) : SD X m Γ st D := fun σ F H D' E L => k σ F H D' (E.wk h) (L.from (Stp.refl.wk h))
theorem sd_mono {D2 : Ax m} (k : SD X m Γ st D) (h1 : ∀ Γ', D.nx Γ' → D2.nx Γ') (h2 : ∀ x Γ', D.rt x Γ' → D2.rt x Γ') (h3 : ∀ Γ', D.bk Γ' → D2.bk Γ') (h4 : ∀ Γ', D.ct Γ' → D2.ct Γ') : SD X m Γ st D2 := fun σ F H D' E L =>
  k σ F H D' E ⟨fun Γ' σ' F' H' h => L.nx Γ' σ' F' H' (h1 _ h), fun x Γ' σ' F' H' v h => L.rt x Γ' σ' F' H' v (h2 _ _ h), fun Γ' σ' F' H' h => L.bk Γ' σ' F' H' (h3 _ h), fun Γ' σ' F' H' h => L.ct Γ' σ' F' H' (h4 _ h)⟩
theorem sd_ret {x : m.β} (h : PX X m Γ e x Γ1) (k : D.rt x Γ1) : SD X m Γ (.Return (some e) pos :: rest) D := by
  refine sd_cons (N := fun _ => False) ?_ (fun _ z => z.elim)
  intro σ F H D' E L
  exact wS1.of (ps_ret pE) (h.run σ F H _ E fun v F' H' E' s r => L.rt x Γ1 σ F' H' v k E' (h.stp s) r)
theorem sd_if {z : Bool} (h : TX X Γ c z Γ1) {th el : List Stmt} (h1 : z = true → SD X m Γ1 th { D with nx := fun Γ' => SD X m Γ' rest D }) (h2 : z = false → SD X m Γ1 el { D with nx := fun Γ' => SD X m Γ' rest D }) :
    SD X m Γ (.If c th el pos :: rest) D := by
  refine sd_cons (N := fun Γ' => SD X m Γ' rest D) ?_ (fun _ z => z)
  intro σ F H D' E L
  refine wS1.of (ps_if pT pS pS) (h.run σ F H _ E fun F' H' E' s => ?_)
  have t : Stp Γ F H Γ1 F' H' := ⟨s, fun a q => .inl (h.sub a q)⟩
  cases z with
  | true => exact h1 rfl σ F' H' D' E' (L.from t)
  | false => exact h2 rfl σ F' H' D' E' (L.from t)
theorem sd_expr {m1 : Md} {x : m1.β} (h : PX X m1 Γ e x Γ1) (k : SD X m Γ1 rest D) (hs : swapsWith e none pos.line X.env = pure false := by rfl) : SD X m Γ (.Expr e pos :: rest) D :=
  sd_c1 (fun σ F H D' E L => wS1.of (ps_expr pE hs) (h.run σ F H _ E fun v F' H' E' s r => L.nx Γ1 σ F' H' rfl E' (h.stp s))) k

theorem get_set {Γ : DE} {i j : Nat} {e e' : Ent} (h : (Γ.set i e)[j]? = some e') : (j = i ∧ e' = e ∧ i < Γ.length) ∨ (j ≠ i ∧ Γ[j]? = some e') := by
  by_cases z : i = j
  · subst z
    by_cases hi : i < Γ.length
    · rw [List.getElem?_set_self hi] at h; exact .inl ⟨rfl, (Option.some.inj h).symm, hi⟩
    · rw [List.getElem?_eq_none (by simpa using hi)] at h; cases h
  · rw [List.getElem?_set_ne z] at h; exact .inr ⟨fun q => z q.symm, h⟩
theorem adr_set {Γ : DE} {i j : Nat} {e : Ent} {p : Addr} (h : p ∈ adsAt (Γ.set i e) j) : (j = i ∧ p ∈ e.ads) ∨ (j ≠ i ∧ p ∈ adsAt Γ j) := by
  obtain ⟨r, q, m⟩ := of_adsAt h
  rcases get_set q with ⟨rfl, rfl, _⟩ | ⟨n, q'⟩
  · exact .inl ⟨rfl, m⟩
  · exact .inr ⟨n, by rw [adsAt_of q']; exact m⟩
/-- anything gets into slot i; no other slot has what it owns -/
theorem Env.set_ent {K : PySem.W.Frag} {σ : L2.St} {F H : Hp} {i : Nat} {v : V} {e : Ent} (E : Env K Γ σ F H) (ok : e.ok K F H (some v)) (hn : ∀ a ∈ e.ads, ∀ j, j ≠ i → a ∉ adsAt Γ j) : Env K (Γ.set i e) (σ.set i (some v)) F H := by
  refine ⟨E.le, by simpa using E.len, fun j e' q => ?_, fun j k p q q' => ?_⟩
  · rcases get_set q with ⟨rfl, rfl, hi⟩ | ⟨n, q'⟩
    · exact ⟨some v, by rw [List.getElem?_set_self (by rw [E.len]; exact hi)], ok⟩
    · obtain ⟨o, ho, r'⟩ := E.ent j e' q'
      exact ⟨o, by rw [List.getElem?_set_ne (Ne.symm n)]; exact ho, r'⟩
  · rcases adr_set q with ⟨e1, z⟩ | ⟨n, z⟩ <;> rcases adr_set q' with ⟨e2, z'⟩ | ⟨n', z'⟩
    · rw [e1, e2]
    · exact absurd z' (hn p z k n')
    · exact absurd z (hn p z' j n)
    · exact E.sep j k p z z'
theorem own_set {i : Nat} {e : Ent} {p : Addr} (h : Own (Γ.set i e) p) : p ∈ e.ads ∨ Own Γ p := by
  obtain ⟨j, q⟩ := h
  rcases adr_set q with ⟨_, z⟩ | ⟨n, z⟩
  · exact .inl z
  · exact .inr ⟨j, z⟩
/-- slot i's thing changes: what it owns, and nothing else -/
theorem Env.chg {K : PySem.W.Frag} {σ : L2.St} {F H F' H' : Hp} {i : Nat} {e e' : Ent} (E : Env K Γ σ F H) (h : Γ[i]? = some e) (s : Step (· ∈ e.ads) F H F' H') (le : Same F' H') (ok : ∀ o, σ[i]? = some o → e'.ok K F' H' o) (ads : ∀ a ∈ e'.ads, a ∈ e.ads ∨ H a = none) :
    Env K (Γ.set i e') σ F' H' ∧ Stp Γ F H (Γ.set i e') F' H' := by
  have own : ∀ a, a ∈ e.ads → a ∈ adsAt Γ i := fun a m => by rw [adsAt_of h]; exact m
  have other : ∀ j a, j ≠ i → a ∈ adsAt Γ j → a ∉ e.ads := fun j a n m z => n (E.sep j i a m (own a z))
  refine ⟨⟨le, by simpa using E.len, fun j e2 q => ?_, fun j k p q q' => ?_⟩, ⟨s.up, fun p o hp no => s.keep p o hp fun z => no ⟨i, own p z⟩, s.there, fun p h1 h2 => (s.fresh p h1 h2).imp id fun z => ⟨i, own p z⟩⟩, fun a q => ?_⟩
  · rcases get_set q with ⟨rfl, rfl, hi⟩ | ⟨n, q'⟩
    · obtain ⟨o, ho, _⟩ := E.ent j e h
      exact ⟨o, ho, ok o ho⟩
    · obtain ⟨o, ho, r'⟩ := E.ent j e2 q'
      have st : ∀ a ∈ e2.ads, H' a = H a ∧ F' a = none := fun a m => s.same (r'.free m).2 (r'.free m).1 (other j a n (by rw [adsAt_of q']; exact m))
      exact ⟨o, ho, r'.move s.up (fun a m => (st a m).1) fun a m => (st a m).2⟩
  · have new : ∀ j a, j ≠ i → a ∈ e'.ads → a ∉ adsAt Γ j := fun j a n m z => by
      rcases ads a m with y | y
      · exact other j a n z y
      · exact (E.freeOf z).2 y
    rcases adr_set q with ⟨e1, z⟩ | ⟨n, z⟩ <;> rcases adr_set q' with ⟨e2, z'⟩ | ⟨n', z'⟩
    · rw [e1, e2]
    · exact absurd z' (new k p n' z)
    · exact absurd z (new j p n z')
    · exact E.sep j k p z z'
  · rcases own_set q with z | z
    · exact (ads a z).imp (fun z => ⟨i, own a z⟩) id
    · exact .inl z
theorem Env.set_is {K : PySem.W.Frag} {σ : L2.St} {F H : Hp} {i : Nat} {v : V} {α : Type} [Rp α] {x : α} (E : Env K Γ σ F H) (r : rp K F v x) : Env K (Γ.set i (.is x)) (σ.set i (some v)) F H :=
  E.set_ent ⟨v, rfl, r⟩ fun _ m => by cases m
theorem own_set_is {i : Nat} {α : Type} [Rp α] {x : α} {p : Addr} (h : Own (Γ.set i (.is x)) p) : Own Γ p := (own_set h).elim (fun z => by cases z) id
theorem own_set_own {i : Nat} {α : Type} [Rp α] {x : List α} {a p : Addr} (h : Own (Γ.set i (.own a x)) p) : p = a ∨ Own Γ p := (own_set h).imp (fun z => by cases z with | head => rfl | tail _ z => cases z) id
theorem sd_set {α : Type} [Rp α] {x : α} {nm : Str} {pos' : Pos} (i : Nat) (h : PX X (sh α) Γ e x Γ1) (k : SD X m (Γ1.set i (.is x)) rest D) (hN : X.N.Nodup) (hi : X.N[i]? = some nm := by rfl) (hx : Loc X.env.scope nm := by first | exact Or.inl rfl | exact Or.inr rfl)
    (hs : swapsWith e (some (.Name nm pos')) pos.line X.env = pure false := by rfl) (hf : X.fn nm = true ∨ X.env.scope.names.lookup nm = some .local := by first | exact .inl rfl | exact .inr rfl) : SD X m Γ (.Assign [.Name nm pos'] e pos :: rest) D :=
  sd_c1 (fun σ F H D' E L => wS1.of (ps_set hN hi hx pE hs hf) (h.run σ F H _ E fun v F' H' E' s r =>
    L.nx _ _ F' H' rfl (E'.set_is r) ⟨s, fun a q => .inl (h.sub a (own_set_is q))⟩)) k
/-- something new of one's own -/
theorem sd_setR {Pr : Res → Prop} {nm : Str} {pos' : Pos} (i : Nat) (h : PX X (nr Pr) Γ e () Γ1) (k : ∀ r, Pr r → SD X m (Γ1.set i (.res r)) rest D) (hN : X.N.Nodup) (hi : X.N[i]? = some nm := by rfl) (hx : Loc X.env.scope nm := by first | exact Or.inl rfl | exact Or.inr rfl)
    (hs : swapsWith e (some (.Name nm pos')) pos.line X.env = pure false := by rfl) (hf : X.fn nm = true ∨ X.env.scope.names.lookup nm = some .local := by first | exact .inl rfl | exact .inr rfl) : SD X m Γ (.Assign [.Name nm pos'] e pos :: rest) D := by
  refine sd_cons (N := fun Γ' => ∃ r, Pr r ∧ Γ' = Γ1.set i (.res r)) ?_ (fun _ ⟨p, hp, z⟩ => z ▸ k p hp)
  intro σ F H D' E L
  refine wS1.of (ps_set hN hi hx pE hs hf) (h.run σ F H _ E fun v F' H' E' s ⟨r, hp, hn, ok⟩ => ?_)
  have no : ∀ a ∈ r.ads, ¬ Own Γ1 a := fun a m z => Own.some (h.sub _ z) E (hn a m).1
  refine L.nx _ _ F' H' ⟨r, hp, rfl⟩ (E'.set_ent ⟨v, rfl, fun a m => (hn a m).2, ok⟩ fun a m j _ z => no a m ⟨j, z⟩) ⟨s, fun a q => ?_⟩
  rcases own_set q with q | q
  · exact .inr (hn a q).1
  · exact .inl (h.sub a q)
theorem sd_setO {α : Type} [Rp α] {xs : List α} {nm : Str} {pos' : Pos} (i : Nat) (h : PX X (nw α) Γ e xs Γ1) (k : ∀ p, SD X m (Γ1.set i (.own p xs)) rest D) (hN : X.N.Nodup) (hi : X.N[i]? = some nm := by rfl) (hx : Loc X.env.scope nm := by first | exact Or.inl rfl | exact Or.inr rfl)
    (hs : swapsWith e (some (.Name nm pos')) pos.line X.env = pure false := by rfl) (hf : X.fn nm = true ∨ X.env.scope.names.lookup nm = some .local := by first | exact .inl rfl | exact .inr rfl) : SD X m Γ (.Assign [.Name nm pos'] e pos :: rest) D :=
  sd_setR i h.nr (fun r ⟨p, e⟩ => by subst e; exact k p) hN hi hx hs hf
/-- two plain local names at once -/
theorem sd_par {α β : Type} [Rp α] [Rp β] {x : α} {y : β} {n1 n2 : Str} {px py pt : Pos} {kt k2 pt2} (i j : Nat) (h1 : PX X (sh α) Γ a x Γ1) (h2 : PX X (sh β) Γ1 b y Γ2) (k : SD X m ((Γ2.set i (.is x)).set j (.is y)) rest D)
    (hN : X.N.Nodup) (hc : X.calm = true := by rfl) (hi : X.N[i]? = some n1 := by rfl) (hj : X.N[j]? = some n2 := by rfl) (hij : i ≠ j := by decide) (hx : X.env.scope.names.lookup n1 = some .local := by rfl) (hy : X.env.scope.names.lookup n2 = some .local := by rfl)
    (hp : PA X [a, b] (tCons (wE X a) (tCons (wE X b) tNil)) := by exact pa_cons pE (pa_cons pE pa_nil))
    (hps : X.N.Nodup → ∀ ta, PA X [a, b] ta → PS X (.Assign [.Tuple [.Name n1 px, .Name n2 py] kt pt] (.Tuple [a, b] k2 pt2) pos) (tPar i j ta) := by intro hN ta h; exact ps_par (by rfl) hN rfl rfl (by decide) rfl rfl h (by rfl)) :
    SD X m Γ (.Assign [.Tuple [.Name n1 px, .Name n2 py] kt pt] (.Tuple [a, b] k2 pt2) pos :: rest) D :=
  sd_c1 (fun σ F H D' E L => wS1.of (hps hN _ hp) (h1.run σ F H _ E fun v F' H' E' s r => h2.run σ F' H' _ E' fun w F2 H2 E2 s2 r2 =>
    ⟨v, w, rfl, L.nx _ _ F2 H2 rfl ((E2.set_is (Rp.mono s2.up r)).set_is r2) ⟨s.sub s2 h1.sub, fun a q => .inl (h1.sub a (h2.sub a (own_set_is (own_set_is q))))⟩⟩)) k
theorem sd_aug {x y : Int} {op : Operator} {g : Int → Int → Int} {nm : Str} {pos' : Pos} (ho : PIp X op (ipI g)) (i : Nat) (h0 : Γ[i]? = some (.is x)) (h : PX X (sh Int) Γ e y Γ1) (k : SD X m (Γ1.set i (.is (g x y))) rest D) (hN : X.N.Nodup) (hi : X.N[i]? = some nm := by rfl)
    (hx : Loc X.env.scope nm := by first | exact Or.inl rfl | exact Or.inr rfl) (hf : X.fn nm = true ∨ X.env.scope.names.lookup nm = some .local := by first | exact .inl rfl | exact .inr rfl) : SD X m Γ (.AugAssign (.Name nm pos') op e pos :: rest) D :=
  sd_c1 (fun σ F H D' E L => by
    obtain ⟨o, ho1, v, rfl, r⟩ := E.ent i _ h0
    refine wS1.of (ps_aug hN hi hx pE ho hf) ⟨v, ho1, h.run σ F H _ E fun w F' H' E' s rw => ⟨x, y, r, rw, ?_⟩⟩
    exact L.nx _ _ F' H' rfl (E'.set_is (x := g x y) rfl) ⟨s, fun a q => .inl (h.sub a (own_set_is q))⟩) k
/-- a op= e for any operator on values -/
theorem sd_augI {x y : Int} {op : Operator} {C : Int → Int → Prop} {g : Int → Int → Int} {nm : Str} {pos' : Pos} (ho : OpR X (inplaceOp op) (rI C fun i j => .int (g i j))) (i : Nat) (h0 : Γ[i]? = some (.is x)) (h : PX X (sh Int) Γ e y Γ1) (hc : C x y) (k : SD X m (Γ1.set i (.is (g x y))) rest D) (hN : X.N.Nodup) (hi : X.N[i]? = some nm := by rfl)
    (hx : Loc X.env.scope nm := by first | exact Or.inl rfl | exact Or.inr rfl) (hf : X.fn nm = true ∨ X.env.scope.names.lookup nm = some .local := by first | exact .inl rfl | exact .inr rfl) : SD X m Γ (.AugAssign (.Name nm pos') op e pos :: rest) D :=
  sd_c1 (fun σ F H D' E L => by
    obtain ⟨o, ho1, v, rfl, r⟩ := E.ent i _ h0
    refine wS1.of (ps_aug hN hi hx pE (ti := rI C fun i j => .int (g i j)) (fun pins s σ H x y v u Q I r1 r2 q => ho pins s σ H x y v u Q I r1 r2 q) hf) ⟨v, ho1, h.run σ F H _ E fun w F' H' E' s rw => ⟨x, y, r, rw, hc, ?_⟩⟩
    exact L.nx _ _ F' H' rfl (E'.set_is (x := g x y) rfl) ⟨s, fun a q => .inl (h.sub a (own_set_is q))⟩) k
/-- what a slot owns is handed over for good -/
theorem Env.give {K : PySem.W.Frag} {σ : L2.St} {F H : Hp} {i : Nat} {p : Addr} {α : Type} [Rp α] {xs : List α} (E : Env K Γ σ F H) (h : Γ[i]? = some (.own p xs)) :
    ∃ vs, F p = none ∧ H p = some (.lst vs) ∧ RpL K F vs xs ∧ Env K (Γ.set i (.is xs)) σ (upd F p (.lst vs)) H ∧ Stp Γ F H (Γ.set i (.is xs)) (upd F p (.lst vs)) H := by
  obtain ⟨o, ho, v, rfl, hF, rfl, vs, hH, r⟩ := E.ent i _ h
  have hF := (hF p List.mem_cons_self).1
  have sm := same_upd (o := .lst vs) hF
  have st : Step (· ∈ [p]) F H (upd F p (.lst vs)) H := ⟨sm, fun _ _ h _ => h, fun _ h => h, fun b h1 h2 => by
    by_cases z : b = p
    · subst z; exact .inr List.mem_cons_self
    · rw [upd_ne z] at h2; exact absurd h1 h2⟩
  have le : Same (upd F p (.lst vs)) H := fun b x e => by
    by_cases z : b = p
    · subst z; rw [upd_same] at e; cases e; exact hH
    · rw [upd_ne z] at e; exact E.le _ _ e
  obtain ⟨E', t⟩ := E.chg (e' := .is xs) h st le (fun o ho' => by
    rw [ho] at ho'; cases ho'
    exact ⟨.ref p, rfl, p, vs, rfl, upd_same, r.mono sm⟩) (fun a m => by cases m)
  exact ⟨vs, hF, hH, r, E', t⟩
theorem sd_give {α : Type} [Rp α] {xs : List α} {p : Addr} (i : Nat) (k : SD X m (Γ.set i (.is xs)) st D) (h : Γ[i]? = some (.own p xs) := by rfl) : SD X m Γ st D := fun σ F H D' E L => by
  obtain ⟨vs, hF, hH, r, E', t⟩ := E.give h
  exact k σ _ H D' E' (L.from t)
/-- .. in the middle of an expression -/
theorem px_give {α : Type} [Rp α] {xs : List α} {p : Addr} {m1 : Md} {x : m1.β} (i : Nat) (k : PX X m1 (Γ.set i (.is xs)) e x Γ1) (h : Γ[i]? = some (.own p xs) := by rfl) : PX X m1 Γ e x Γ1 :=
  ⟨fun a q => own_set_is (k.sub a q), fun σ F H Q E q => by
    obtain ⟨vs, hF, hH, r, E', t⟩ := E.give h
    exact k.run σ _ H Q E' fun v F' H' E2 s r => q v F' H' E2 (t.st.sub s fun a z => own_set_is z) (m1.pre t.st.there r)⟩
/-- .. a name whose list is handed back -/
theorem px_take {α : Type} [Rp α] {xs : List α} {p : Addr} {nm : Str} (i : Nat) (h : Γ[i]? = some (.own p xs) := by rfl) (hl : (Γ.set i (.is xs))[i]? = some (.is xs) := by rfl) (hN : X.N[i]? = some nm := by rfl) (hv : Vis X.env.scope nm := by first | exact Or.inl rfl | exact Or.inr (Or.inl rfl) | exact Or.inr (Or.inr rfl))
    (hd : (nm == ("__debug__" : Str)) = false := by decide) (hcd : (nm == ("__classdict__" : Str)) = false := by decide) : PX X (sh (List α)) Γ (.Name nm pos) xs (Γ.set i (.is xs)) :=
  px_give i (px_var i hl hN hv hd hcd) h
end
end G
namespace G
open PySem PySem.Spec PyProof.Rows L2
open Rp (rp)
section
variable {X : Cx} {m : Md} {Γ Γ1 Γ2 : DE} {st : List Stmt} {s : Stmt} {rest : List Stmt} {D : Ax m} {e a b c tg : Expr} {pos : Pos} {nm : Str} {p : Pos}
def EntsOk (K : PySem.W.Frag) (F H : Hp) (vs : List V) (es : DE) : Prop := vs.length = es.length ∧ ∀ (i : Nat) (e : Ent), es[i]? = some e → ∃ v, vs[i]? = some v ∧ e.ok K F H (some v)
def spM (K : PySem.W.Frag) (m : Md) (n : Nat) (R : DE → m.β → DE → Prop) : Sp := fun vs H Q _ => vs.length = n ∧ ∃ F Γ x Γ', R Γ x Γ' ∧ Env K Γ (vs.map some) F H ∧
  ∀ v F' H', Env K Γ' (vs.map some) F' H' → Step (Own Γ) F H F' H' → m.ok K F H F' H' v x → Q v H'
/-- what the parameters are at the end -/
inductive Fin : DE → DE → DE → Prop
  | nil {Γ : DE} : Fin [] [] Γ
  | is {α : Type} [Rp α] {x : α} {e : Ent} {Γ Γ' Γ'' : DE} : Fin Γ Γ' Γ'' → Fin (.is x :: Γ) (.is x :: Γ') (e :: Γ'')
  | res {r r' : Res} {Γ Γ' Γ'' : DE} : (∀ K F H F' H' v v', r.ok K F H v → r'.ok K F' H' v' → v = v') → Fin Γ Γ' Γ'' → Fin (.res r :: Γ) (.res r' :: Γ') (.res r' :: Γ'')
  | no {e0 e : Ent} {Γ Γ' Γ'' : DE} : Fin Γ Γ' Γ'' → Fin (e0 :: Γ) (.no :: Γ') (e :: Γ'')
theorem Fin.own {α : Type} [Rp α] {a : Addr} {x y : List α} {Γ Γ' Γ'' : DE} (h : Fin Γ Γ' Γ'') : Fin (.own a x :: Γ) (.own a y :: Γ') (.own a y :: Γ'') :=
  .res (fun _ _ _ _ _ _ _ h h' => h.1.trans h'.1.symm) h
theorem Fin.get {Γ Γ' Γ'' : DE} (h : Fin Γ Γ' Γ'') : Γ'.length = Γ.length ∧ ∀ (i : Nat) (e : Ent), Γ'[i]? = some e → (Γ[i]? = some e ∧ e.ads = []) ∨ (Γ''[i]? = some e ∧ ∃ r r', Γ[i]? = some (.res r) ∧ e = .res r' ∧ ∀ K F H F' H' v v', r.ok K F H v → r'.ok K F' H' v' → v = v') ∨ (e = .no ∧ i < Γ.length) := by
  induction h with
  | nil => exact ⟨rfl, fun i e h => by simp at h⟩
  | is _ ih =>
    refine ⟨by simp [ih.1], fun i e h => ?_⟩
    cases i with
    | zero => simp at h; subst h; exact .inl ⟨rfl, rfl⟩
    | succ i => simpa using ih.2 i e (by simpa using h)
  | res hv _ ih =>
    refine ⟨by simp [ih.1], fun i e h => ?_⟩
    cases i with
    | zero => simp at h; subst h; exact .inr (.inl ⟨rfl, _, _, rfl, rfl, hv⟩)
    | succ i => simpa using ih.2 i e (by simpa using h)
  | no _ ih =>
    refine ⟨by simp [ih.1], fun i e h => ?_⟩
    cases i with
    | zero => simp at h; subst h; exact .inr (.inr ⟨rfl, by simp⟩)
    | succ i => simpa using ih.2 i e (by simpa using h)
theorem Fin.env {K : PySem.W.Frag} {Γ Γ' Γ'' : DE} (h : Fin Γ Γ' Γ'') {σ σ' : L2.St} {F H F' H' : Hp} (E : Env K Γ σ F H) (E' : Env K Γ'' σ' F' H') (up : Same F F') : Env K Γ' σ F' H' := by
  obtain ⟨hl, hg⟩ := h.get
  have ad : ∀ (i : Nat) (a : Addr), a ∈ adsAt Γ' i → a ∈ adsAt Γ'' i := fun i a q => by
    obtain ⟨r, z, m⟩ := of_adsAt q
    rcases hg i _ z with ⟨_, n⟩ | ⟨z', _⟩ | ⟨z', _⟩
    · rw [show r.ads = [] from n] at m; cases m
    · rw [adsAt_of z']; exact m
    · cases z'
  refine ⟨E'.le, E.len.trans hl.symm, fun i e q => ?_, fun i j b q r => E'.sep i j b (ad i b q) (ad j b r)⟩
  rcases hg i e q with ⟨z, n⟩ | ⟨z, r, r', z2, rfl, hv⟩ | ⟨rfl, hi⟩
  · obtain ⟨o, ho, k⟩ := E.ent i e z
    exact ⟨o, ho, k.up up n⟩
  · obtain ⟨o, ho, v, rfl, _, k⟩ := E.ent i _ z2
    obtain ⟨o', ho', v', rfl, fr, k'⟩ := E'.ent i _ z
    have e := hv _ _ _ _ _ _ _ k k'
    exact ⟨_, ho, v, rfl, fr, e ▸ k'⟩
  · exact ⟨σ[i]'(by rw [E.len]; exact hi), List.getElem?_eq_getElem _, trivial⟩
theorem ads_start {N : List Str} {i : Nat} {a : Addr} (q : a ∈ adsAt (Γ ++ List.replicate (N.length - Γ.length) Ent.no) i) : a ∈ adsAt Γ i := by
  obtain ⟨r, z, m⟩ := of_adsAt q
  by_cases hi : i < Γ.length
  · rw [List.getElem?_append_left hi] at z
    rw [adsAt_of z]; exact m
  · rw [List.getElem?_append_right (by omega), List.getElem?_replicate] at z
    split at z <;> cases z
theorem start_env {K : PySem.W.Frag} {vs : List V} {F H : Hp} {N : List Str} (E : Env K Γ (vs.map some) F H) : Env K (Γ ++ List.replicate (N.length - Γ.length) .no) (L2.start N vs) F H := by
  have hl : vs.length = Γ.length := by simpa using E.len
  unfold L2.start
  rw [hl]
  refine ⟨E.le, by simp [hl], fun i e q => ?_, fun i j b q r => E.sep i j b (ads_start q) (ads_start r)⟩
  by_cases hi : i < Γ.length
  · rw [List.getElem?_append_left hi] at q
    obtain ⟨o, ho, r⟩ := E.ent i e q
    exact ⟨o, by rw [List.getElem?_append_left (by simpa [hl] using hi)]; exact ho, r⟩
  · rw [List.getElem?_append_right (by omega), List.getElem?_replicate] at q
    split at q
    · cases q
      rename_i z
      exact ⟨none, by rw [List.getElem?_append_right (by simp [hl]; omega), List.getElem?_replicate, if_pos (by simpa [hl] using z)], trivial⟩
    · cases q
theorem own_start {N : List Str} {a : Addr} (h : Own (Γ ++ List.replicate (N.length - Γ.length) .no) a) : Own Γ a := by
  obtain ⟨i, q⟩ := h
  exact ⟨i, ads_start q⟩
structure AX (X : Cx) (Γ : DE) (es : List Expr) (ents : DE) (Γ' : DE) : Prop where
  sub : ∀ a, Own Γ' a → Own Γ a
  ow : ∀ (i : Nat) (a : Addr), a ∈ adsAt ents i → Own Γ' a
  run : ∀ σ F H (Q : List V → Hp → Prop), Env X.K Γ σ F H → (∀ vs F' H', Env X.K Γ' σ F' H' → Step (Own Γ) F H F' H' → EntsOk X.K F' H' vs ents → Q vs H') → wA X es σ H Q
theorem ads_nil {i : Nat} {a : Addr} : a ∉ adsAt [] i := fun h => by
  obtain ⟨r, z, _⟩ := of_adsAt h
  simp at z
theorem ads_is {α : Type} [Rp α] {x : α} {ents : DE} {i : Nat} {a : Addr} (h : a ∈ adsAt (.is x :: ents) i) : ∃ j, i = j + 1 ∧ a ∈ adsAt ents j := by
  cases i with
  | zero => cases h
  | succ j => exact ⟨j, rfl, h⟩
theorem ax_nil : AX X Γ [] [] Γ := ⟨sub_refl, fun i a h => absurd h ads_nil, fun σ F H Q E q => wA.of pa_nil (q [] F H E Step.refl ⟨rfl, fun i e h => by simp at h⟩)⟩
theorem ax_cons {α : Type} [Rp α] {x : α} {es : List Expr} {ents : DE} (h : PX X (sh α) Γ e x Γ1) (t : AX X Γ1 es ents Γ2) (hs : starEach (e :: es) X.env = (false, eval e X.env) :: starEach es X.env := by rfl) : AX X Γ (e :: es) (.is x :: ents) Γ2 := by
  refine ⟨fun p q => h.sub p (t.sub p q), fun i a q => ?_, fun σ F H Q E q => wA.of (pa_cons pE pA hs) ?_⟩
  · obtain ⟨j, rfl, q⟩ := ads_is q
    exact t.ow j a q
  refine h.run σ F H _ E fun v F1 H1 E1 s1 r1 => t.run σ F1 H1 _ E1 fun vs F2 H2 E2 s2 r2 => q (v :: vs) F2 H2 E2 (s1.sub s2 h.sub) ⟨by simp [r2.1], fun i e q => ?_⟩
  cases i with
  | zero => simp at q; subst q; exact ⟨v, rfl, v, rfl, Rp.mono s2.up r1⟩
  | succ i => simpa using r2.2 i e (by simpa using q)
/-- a name whose thing is lent -/
theorem ax_res {r r0 : Res} {es : List Expr} {ents : DE} (i : Nat) (t : AX X Γ es ents Γ2) (h : Γ2[i]? = some (.res r) := by rfl) (hN : X.N[i]? = some nm := by rfl) (hv : Vis X.env.scope nm := by first | exact Or.inl rfl | exact Or.inr (Or.inl rfl) | exact Or.inr (Or.inr rfl))
    (h0 : Γ[i]? = some (.res r0) := by rfl) (hd : (nm == ("__debug__" : Str)) = false := by decide) (hcd : (nm == ("__classdict__" : Str)) = false := by decide) (hs : starEach (.Name nm p :: es) X.env = (false, eval (.Name nm p) X.env) :: starEach es X.env := by rfl) : AX X Γ (.Name nm p :: es) (.res r :: ents) Γ2 := by
  refine ⟨t.sub, fun j a q => ?_, fun σ F H Q E q => wA.of (pa_cons (pe_var hN hv hd hcd) pA hs) ?_⟩
  · cases j with
    | zero => exact ⟨i, by rw [adsAt_of h]; exact q⟩
    | succ j => exact t.ow j a q
  obtain ⟨o, ho, v, rfl, _⟩ := E.ent i _ h0
  refine ⟨_, ho, t.run σ F H _ E fun vs F2 H2 E2 s2 r2 => q (v :: vs) F2 H2 E2 s2 ⟨by simp [r2.1], fun j e q => ?_⟩⟩
  cases j with
  | zero =>
    simp at q
    subst q
    obtain ⟨o2, ho2, r3⟩ := E2.ent i _ h
    rw [ho] at ho2
    cases ho2
    exact ⟨_, rfl, r3⟩
  | succ j => simpa using r2.2 j e (by simpa using q)
/-- .. a list -/
theorem ax_own {α : Type} [Rp α] {xs xs0 : List α} {ad : Addr} {es : List Expr} {ents : DE} (i : Nat) (t : AX X Γ es ents Γ2) (h : Γ2[i]? = some (.own ad xs) := by rfl) (hN : X.N[i]? = some nm := by rfl) (hv : Vis X.env.scope nm := by first | exact Or.inl rfl | exact Or.inr (Or.inl rfl) | exact Or.inr (Or.inr rfl))
    (h0 : Γ[i]? = some (.own ad xs0) := by rfl) (hd : (nm == ("__debug__" : Str)) = false := by decide) (hcd : (nm == ("__classdict__" : Str)) = false := by decide) (hs : starEach (.Name nm p :: es) X.env = (false, eval (.Name nm p) X.env) :: starEach es X.env := by rfl) : AX X Γ (.Name nm p :: es) (.own ad xs :: ents) Γ2 :=
  ax_res i t h hN hv h0 hd hcd hs
def IsOnly (es : DE) : Prop := (es.all fun e => e.ads.isEmpty) = true
theorem IsOnly.at {es : DE} (h : IsOnly es) : ∀ e ∈ es, e.ads = [] := fun e m => by simpa using List.all_eq_true.mp h e m
theorem IsOnly.no {es : DE} (h : IsOnly es) (i : Nat) (a : Addr) : a ∉ adsAt es i := fun q => by
  obtain ⟨r, z, m⟩ := of_adsAt q
  have := h.at _ (List.mem_of_getElem? z)
  rw [show r.ads = [] from this] at m
  cases m
theorem entsEnv {K : PySem.W.Frag} {F H : Hp} {vs : List V} {es : DE} (le : Same F H) (h : EntsOk K F H vs es) (sep : ∀ (i j : Nat) (a : Addr), a ∈ adsAt es i → a ∈ adsAt es j → i = j) : Env K es (vs.map some) F H := by
  refine ⟨le, by simpa using h.1, fun i e q => ?_, sep⟩
  obtain ⟨v, hv, r⟩ := h.2 i e q
  exact ⟨some v, by rw [List.getElem?_map, hv]; rfl, r⟩
/-- the default values that fill up -/
def DefOk (K : PySem.W.Frag) (dvs : List V) (ents : DE) : Prop := ∀ F H, EntsOk K F H dvs ents
theorem defOk_nil {K : PySem.W.Frag} : DefOk K [] [] := fun F H => ⟨rfl, fun i e h => by simp at h⟩
theorem defOk_cons {K : PySem.W.Frag} {α : Type} [Rp α] {v : V} {x : α} {vs : List V} {es : DE} (h : ∀ F, rp K F v x) (t : DefOk K vs es) : DefOk K (v :: vs) (.is x :: es) := fun F H => ⟨by simp [(t F H).1], fun i e q => by
  cases i with
  | zero => simp at q; subst q; exact ⟨v, rfl, v, rfl, h F⟩
  | succ i => simpa using (t F H).2 i e (by simpa using q)⟩
theorem entsOk_app {K : PySem.W.Frag} {F H : Hp} {vs ws : List V} {es fs : DE} (h : EntsOk K F H vs es) (g : EntsOk K F H ws fs) : EntsOk K F H (vs ++ ws) (es ++ fs) := by
  refine ⟨by simp [h.1, g.1], fun i e q => ?_⟩
  by_cases hi : i < es.length
  · rw [List.getElem?_append_left hi] at q
    obtain ⟨v, hv, r⟩ := h.2 i e q
    exact ⟨v, by rw [List.getElem?_append_left (by rw [h.1]; exact hi)]; exact hv, r⟩
  · rw [List.getElem?_append_right (by omega)] at q
    obtain ⟨v, hv, r⟩ := g.2 _ e q
    exact ⟨v, by rw [List.getElem?_append_right (by rw [h.1]; omega), h.1]; exact hv, r⟩
/-- behind a call that was lent nothing -/
theorem Env.after0 {K : PySem.W.Frag} {σ : L2.St} {F H F' H' : Hp} {O : Addr → Prop} (E : Env K Γ σ F H) (s : Step O F H F' H') (le : Same F' H') (h : ∀ a, ¬ O a) : Env K Γ σ F' H' := by
  refine ⟨le, E.len, fun i e q => ?_, E.sep⟩
  obtain ⟨o, ho, r⟩ := E.ent i e q
  have st : ∀ a ∈ e.ads, H' a = H a ∧ F' a = none := fun a m => s.same (r.free m).2 (r.free m).1 (h a)
  exact ⟨o, ho, r.move s.up (fun a m => (st a m).1) fun a m => (st a m).2⟩
/-- a call that changes nothing of ours -/
theorem px_call {CX : CXT} {k : Nat} {f : Addr} {fd : FuncData} {ps : List Str} {ds : List Value} {dvs : List V} {dents ents : DE} {m1 : Md} {R : DE → m1.β → DE → Prop} {x : m1.β} {Γc : DE} {es : List Expr} {E : XK}
    (Gf : FnOk X.prog X.w X.K X.mg X.base CX k f fd ps (spM X.K m1 ps.length R)) (hr : Room k X.A) (hm : X.mg nm = some (.ref f)) (hk : PySem.W.keepIn X.K (.ref f) = true) (hb : Binds X.K fd ps ds) (hd : Vals dvs ds) (hdo : DefOk X.K dvs dents) (hx : Passes CX X E)
    (ha : AX X Γ (e :: es) ents Γ1) (hR : R (ents ++ dents) x Γc) (hn : (ents ++ dents).length = ps.length := by rfl) (hi : IsOnly (ents ++ dents) := by rfl) (hg : Gl X nm := by rfl)
    (hdb : (nm == ("__debug__" : Str)) = false := by decide) (he : starEach (e :: es) X.env = (false, eval e X.env) :: starEach es X.env := by rfl) (hpl : (backTo pos (starEach es X.env)).any (·.1) = false := by rfl) :
    PX X m1 Γ (.Call (.Name nm p) (e :: es) [] pos) x Γ1 := by
  have no := hi.no
  refine ⟨ha.sub, fun σ F H Q E0 q => wE.of (pe_call Gf hr hg hm hk hb hd hx pA hdb he hpl) ?_⟩
  refine ha.run σ F H _ E0 fun vs F1 H1 E1 s1 r1 => ?_
  have ok := entsOk_app r1 (hdo F1 H1)
  refine ⟨by rw [ok.1, hn], F1, _, x, Γc, hR, entsEnv E1.le ok (fun i j a q _ => (no i a q).elim), fun v F' H' E' s r => ?_⟩
  have on : ∀ a, ¬ Own (ents ++ dents) a := fun a ⟨i, z⟩ => no i a z
  refine q v F' H' (E1.after0 s E'.le on) (s1.sub (s.sub Step.refl (fun p h => h)) fun p z => absurd z (on p)) (m1.pre s1.there r)
/-- the first argument is a name whose thing is lent; the callee may change it -/
theorem px_callR {CX : CXT} {k : Nat} {f : Addr} {fd : FuncData} {ps : List Str} {ds : List Value} {dvs : List V} {dents ents : DE} {m1 : Md} {R : DE → m1.β → DE → Prop} {x : m1.β} {Γc : DE} {es : List Expr} {E : XK} {r r' : Res} (i : Nat)
    (Gf : FnOk X.prog X.w X.K X.mg X.base CX k f fd ps (spM X.K m1 ps.length R)) (hr : Room k X.A) (hm : X.mg nm = some (.ref f)) (hk : PySem.W.keepIn X.K (.ref f) = true) (hb : Binds X.K fd ps ds) (hd : Vals dvs ds) (hdo : DefOk X.K dvs dents) (hx : Passes CX X E)
    (ha : AX X Γ (e :: es) (.res r :: ents) Γ1) (h1 : Γ1[i]? = some (.res r)) (hR : R (.res r :: ents ++ dents) x (.res r' :: Γc)) (hv : ∀ K F H F' H' v v', r.ok K F H v → r'.ok K F' H' v' → v = v') (hads : ∀ a ∈ r'.ads, a ∈ r.ads) (hn : (Ent.res r :: ents ++ dents).length = ps.length := by rfl) (hi : IsOnly (ents ++ dents) := by rfl) (hg : Gl X nm := by rfl)
    (hdb : (nm == ("__debug__" : Str)) = false := by decide) (he : starEach (e :: es) X.env = (false, eval e X.env) :: starEach es X.env := by rfl) (hpl : (backTo pos (starEach es X.env)).any (·.1) = false := by rfl) :
    PX X m1 Γ (.Call (.Name nm p) (e :: es) [] pos) x (Γ1.set i (.res r')) := by
  have no : ∀ (j : Nat) (a : Addr), a ∈ adsAt (Ent.res r :: ents ++ dents) j → j = 0 ∧ a ∈ r.ads := fun j a q => by
    cases j with
    | zero => exact ⟨rfl, q⟩
    | succ j => exact absurd q (hi.no j a)
  have own1 : ∀ a ∈ r.ads, Own Γ1 a := fun a m => ⟨i, by rw [adsAt_of h1]; exact m⟩
  refine ⟨fun a q => ha.sub a ((own_set q).elim (fun m => own1 a (hads a m)) id), fun σ F H Q E0 q => wE.of (pe_call Gf hr hg hm hk hb hd hx pA hdb he hpl) ?_⟩
  refine ha.run σ F H _ E0 fun vs F1 H1 E1 s1 r1 => ?_
  have ok := entsOk_app r1 (hdo F1 H1)
  refine ⟨by rw [ok.1]; exact hn, F1, _, x, _, hR, entsEnv E1.le ok (fun j k a q r => by rw [(no j a q).1, (no k a r).1]), fun v F' H' E' s rr => ?_⟩
  have on : ∀ a, Own (Ent.res r :: ents ++ dents) a → a ∈ r.ads := fun a ⟨j, z⟩ => (no j a z).2
  have s' : Step (· ∈ (Ent.res r).ads) F1 H1 F' H' := ⟨s.up, fun p o h n => s.keep p o h fun z => n (on p z), s.there, fun p a b => (s.fresh p a b).imp id (on p)⟩
  obtain ⟨o', ho', v', rfl, fr', ok'⟩ := E'.ent 0 (.res r') rfl
  obtain ⟨E2, t2⟩ := E1.chg (e' := .res r') h1 s' E'.le (fun o ho => by
    obtain ⟨o2, ho2, v2, rfl, _, ok2⟩ := E1.ent i _ h1
    rw [ho2] at ho; cases ho
    exact ⟨v2, rfl, fr', (hv _ _ _ _ _ _ _ ok2 ok') ▸ ok'⟩) fun a m => .inl (hads a m)
  exact q v F' H' E2 (s1.sub s fun p z => ha.sub p (own1 p (on p z))) (m1.pre s1.there rr)
theorem px_callO {CX : CXT} {k : Nat} {f : Addr} {fd : FuncData} {ps : List Str} {ds : List Value} {dvs : List V} {dents ents : DE} {m1 : Md} {R : DE → m1.β → DE → Prop} {x : m1.β} {Γc : DE} {es : List Expr} {E : XK} {α : Type} [Rp α] {ad : Addr} {xs ys : List α} (i : Nat)
    (Gf : FnOk X.prog X.w X.K X.mg X.base CX k f fd ps (spM X.K m1 ps.length R)) (hr : Room k X.A) (hm : X.mg nm = some (.ref f)) (hk : PySem.W.keepIn X.K (.ref f) = true) (hb : Binds X.K fd ps ds) (hd : Vals dvs ds) (hdo : DefOk X.K dvs dents) (hx : Passes CX X E)
    (ha : AX X Γ (e :: es) (.own ad xs :: ents) Γ1) (h1 : Γ1[i]? = some (.own ad xs)) (hR : R (.own ad xs :: ents ++ dents) x (.own ad ys :: Γc)) (hn : (Ent.own ad xs :: ents ++ dents).length = ps.length := by rfl) (hi : IsOnly (ents ++ dents) := by rfl) (hg : Gl X nm := by rfl)
    (hdb : (nm == ("__debug__" : Str)) = false := by decide) (he : starEach (e :: es) X.env = (false, eval e X.env) :: starEach es X.env := by rfl) (hpl : (backTo pos (starEach es X.env)).any (·.1) = false := by rfl) :
    PX X m1 Γ (.Call (.Name nm p) (e :: es) [] pos) x (Γ1.set i (.own ad ys)) :=
  px_callR i Gf hr hm hk hb hd hdo hx ha h1 hR (fun _ _ _ _ _ _ _ h h' => h.1.trans h'.1.symm) (fun _ h => h) hn hi hg hdb he hpl
end
end G
namespace G
open PySem PySem.Spec PyProof.Rows L2
open Rp (rp)
theorem RpL.get {α : Type} [Rp α] {K : PySem.W.Frag} {F : Hp} : ∀ {vs : List V} {xs : List α} {i : Nat} {x : α}, RpL K F vs xs → xs[i]? = some x → ∃ v, vs[i]? = some v ∧ rp K F v x
  | _, _, _, _, .nil, h => by simp at h
  | _, _, 0, _, .cons r _, h => by simp at h; subst h; exact ⟨_, rfl, r⟩
  | _, _, i + 1, _, .cons _ t, h => by simpa using RpL.get t (by simpa using h)
theorem RpL.take {α : Type} [Rp α] {K : PySem.W.Frag} {F : Hp} : ∀ {vs : List V} {xs : List α} (n : Nat), RpL K F vs xs → RpL K F (vs.take n) (xs.take n)
  | _, _, 0, _ => .nil
  | _, _, _ + 1, .nil => .nil
  | _, _, n + 1, .cons r t => .cons r (RpL.take n t)
theorem RpL.drop {α : Type} [Rp α] {K : PySem.W.Frag} {F : Hp} : ∀ {vs : List V} {xs : List α} (n : Nat), RpL K F vs xs → RpL K F (vs.drop n) (xs.drop n)
  | _, _, 0, r => r
  | _, _, _ + 1, .nil => .nil
  | _, _, n + 1, .cons _ t => RpL.drop n t
theorem RpL.set {α : Type} [Rp α] {K : PySem.W.Frag} {F : Hp} {v : V} {x : α} (r : rp K F v x) : ∀ {vs : List V} {xs : List α} (n : Nat), RpL K F vs xs → RpL K F (vs.set n v) (xs.set n x)
  | _, _, _, .nil => .nil
  | _, _, 0, .cons _ t => .cons r t
  | _, _, n + 1, .cons q t => .cons q (RpL.set r n t)
theorem RpL.snoc {α : Type} [Rp α] {K : PySem.W.Frag} {F : Hp} {v : V} {x : α} {vs : List V} {xs : List α} (h : RpL K F vs xs) (r : rp K F v x) : RpL K F (vs ++ [v]) (xs ++ [x]) := pair_append h (.cons r .nil)
theorem RpL.ints {K : PySem.W.Frag} {F : Hp} : ∀ {vs : List V} {xs : List Int}, RpL K F vs xs → vs = xs.map V.int
  | _, _, .nil => rfl
  | _, _, .cons r t => by rw [List.map_cons, ← RpL.ints t, show _ = V.int _ from r]
theorem RpL.strs {K : PySem.W.Frag} {F : Hp} : ∀ {vs : List V} {xs : List Str}, RpL K F vs xs → vs = xs.map V.str
  | _, _, .nil => rfl
  | _, _, .cons r t => by rw [List.map_cons, ← RpL.strs t, show _ = V.str _ from r]
theorem atI_at {α β : Type} {R : α → β → Prop} {vs : List α} {xs : List β} (h : Paired R vs xs) {i : Int} {x : β} (g : ∀ {j : Nat}, xs[j]? = some x → ∃ v, vs[j]? = some v ∧ R v x) (e : atI xs i = some x) : ∃ v, atI vs i = some v ∧ R v x := by
  unfold atI at e ⊢
  rw [h.length]
  cases q : ixN xs.length i with
  | none => rw [q] at e; cases e
  | some j => rw [q] at e; exact g e

section
variable {X : Cx} {m : Md} {Γ Γ1 Γ2 Γ3 : DE} {st : List Stmt} {s : Stmt} {rest body : List Stmt} {D : Ax m} {e a b c tg iter elt : Expr} {es : List Expr} {pos p p2 : Pos} {nm : Str}
def wG (X : Cx) (tg : Expr) : TG := fun v σ H Q => ∀ pins s u, Inv X pins σ H s → RelV v u → wpAny (model X.prog X.w) X.A (assign tg X.env u) (fun _ s' => ∃ σ' H', Inv X pins σ' H' s' ∧ Q σ' H') X.xe s
theorem pG : PG X tg (wG X tg) := ⟨fun pins s _ _ _ u _ I r h => h pins s u I r⟩
theorem wG.of {t : TG} {v : V} {σ : L2.St} {H : Hp} {Q} (h : PG X tg t) (q : t v σ H Q) : wG X tg v σ H Q := fun pins s u I r => h.run pins s σ H v u Q I r q
structure GX (X : Cx) (tg : Expr) {α : Type} [Rp α] (x : α) (ts : List Nat) (Γ Γ' : DE) : Prop where
  sub : ∀ a, Own Γ' a → Own Γ a
  run : ∀ σ F H v (Q : L2.St → Hp → Prop), Env X.K Γ σ F H → rp X.K F v x → (∀ σ', Env X.K Γ' σ' F H → (σ'.length = σ.length ∧ ∀ i, i ∉ ts → σ'[i]? = σ[i]?) → Q σ' H) → wG X tg v σ H Q
theorem gx_name {α : Type} [Rp α] {x : α} (i : Nat) (hN : X.N.Nodup) (hi : X.N[i]? = some nm := by rfl) (hx : Loc X.env.scope nm := by first | exact Or.inl rfl | exact Or.inr rfl) (hf : X.fn nm = true ∨ X.env.scope.names.lookup nm = some .local := by first | exact .inl rfl | exact .inr rfl) :
    GX X (.Name nm pos) x [i] Γ (Γ.set i (.is x)) :=
  ⟨fun a h => own_set_is h, fun σ F H v Q E r q => wG.of (pg_name hN hi hx hf) (q _ (E.set_is r) ⟨by simp, fun j hj => by
    rw [List.getElem?_set_ne (fun z => hj (by simp [z]))]⟩)⟩
theorem gx_t2 {α β : Type} [Rp α] [Rp β] {x : α × β} {t1 t2 : Expr} {k} {l1 l2 : List Nat} (h1 : GX X t1 x.1 l1 Γ Γ1) (h2 : GX X t2 x.2 l2 Γ1 Γ2) (hc : X.calm = true := by rfl)
    (hp : PGs X [t1, t2] (gCons (wG X t1) (gCons (wG X t2) gNil)) := by exact pgs_cons pG (pgs_cons pG pgs_nil)) (hn : (assignEach [t1, t2] X.env).length = 2 := by rfl) (hst : (assignEach [t1, t2] X.env).findIdx? (·.1) = none := by rfl) :
    GX X (.Tuple [t1, t2] k pos) x (l1 ++ l2) Γ Γ2 := by
  refine ⟨fun a h => h1.sub a (h2.sub a h), fun σ F H v Q E ⟨a, v1, v2, e, t, r1, r2⟩ q => wG.of (pg_tup hc hp hn hst) ⟨a, [v1, v2], e, .inl (.inl (E.le _ _ t)), rfl, v1, [v2], rfl, ?_⟩⟩
  refine h1.run σ F H v1 _ E r1 fun σ1 E1 g1 => ⟨v2, [], rfl, h2.run σ1 F H v2 _ E1 r2 fun σ2 E2 g2 => ⟨rfl, q σ2 E2 ⟨g2.1.trans g1.1, fun i hi => ?_⟩⟩⟩
  rw [g2.2 i (fun z => hi (List.mem_append_right _ z)), g1.2 i (fun z => hi (List.mem_append_left _ z))]
/-- target = e, the target a tuple -/
theorem sd_asg {α : Type} [Rp α] {x : α} {ts : List Nat} (h : PX X (sh α) Γ e x Γ1) (g : GX X tg x ts Γ1 Γ2) (k : SD X m Γ2 rest D) (hs : swapsWithSole [tg] e pos.line X.env = pure false := by rfl) (hw : swappedStores [tg] e X.env = pure none := by rfl)
    (h1 : (assignEach [tg] X.env).map (·.2) = [assign tg X.env] := by rfl) : SD X m Γ (.Assign [tg] e pos :: rest) D :=
  sd_c1 (fun σ F H D' E L => wS1.of (ps_asg pE pG hs hw h1) (h.run σ F H _ E fun v F' H' E' s r => g.run σ F' H' v _ E' r fun σ' E2 _ =>
    L.nx Γ2 σ' F' H' rfl E2 ⟨s, fun a q => .inl (h.sub a (g.sub a q))⟩)) k

structure Walks (K : PySem.W.Frag) (J : It) {α : Type} [Rp α] (F : Hp) (xs : List α) : Prop where
  go : ∀ i F' H, Same F F' → Same F' H → i < xs.length → J.go i H
  yld : ∀ i F' H v H' x, Same F F' → Same F' H → xs[i]? = some x → J.yld i H v H' → ∃ F2, Step (fun _ => False) F' H F2 H' ∧ Same F2 H' ∧ rp K F2 v x
  stop : ∀ i F' H, Same F F' → Same F' H → xs.length ≤ i → J.stop i H
structure IX (X : Cx) (Γ : DE) (tg e : Expr) {α : Type} [Rp α] (xs : List α) (Γ' : DE) : Prop where
  sub : ∀ a, Own Γ' a → Own Γ a
  run : ∀ σ F H (R : It → Hp → Prop), Env X.K Γ σ F H → (∀ J F' H', Env X.K Γ' σ F' H' → Step (Own Γ) F H F' H' → Walks X.K J F' xs → R J H') → wI X tg e σ H R
theorem Step.stay {O : Addr → Prop} {F H : Hp} : Step O F H F H := Step.refl
theorem it_list {α : Type} [Rp α] {xs : List α} (h : PX X (sh (List α)) Γ e xs Γ1) : IX X Γ tg e xs Γ1 :=
  ⟨h.sub, fun σ F H R E q => wI.of (pi_list pE) (h.run σ F H _ E fun v F' H' E' s ⟨a, vs, ev, t, r⟩ => ⟨a, ev, ⟨vs, .inl (.inl (E'.le _ _ t))⟩, q _ F' H' E' s (by
    refine ⟨fun i F2 H2 h1 h2 hi => ?_, fun i F2 H2 v H3 x h1 h2 hx ⟨e1, e2⟩ => ?_, fun i F2 H2 h1 h2 hi => ⟨vs, .inl (.inl (h2 _ _ (h1 _ _ t))), by rw [r.length]; exact hi⟩⟩
    · obtain ⟨v, hv, _⟩ := r.get (x := xs[i]) (List.getElem?_eq_getElem hi)
      exact ⟨vs, v, .inl (.inl (h2 _ _ (h1 _ _ t))), hv⟩
    · subst e1
      obtain ⟨v', hv, q⟩ := r.get hx
      have := (e2 vs (.inl (.inl (h2 _ _ (h1 _ _ t))))).symm.trans hv
      cases this
      exact ⟨F2, Step.refl, h2, Rp.mono h1 q⟩)⟩)⟩
/-- lo, lo + 1, .. (n of them) -/
def rng (lo : Int) (n : Nat) : List Int := (List.range n).map fun (i : Nat) => lo + (i : Int)
theorem rng_len {lo : Int} {n : Nat} : (rng lo n).length = n := by simp [rng]
theorem rng_get {lo : Int} {n i : Nat} {x : Int} (h : (rng lo n)[i]? = some x) : i < n ∧ x = lo + i := by
  have hi : i < n := by rw [← rng_len (lo := lo) (n := n)]; exact (List.getElem?_eq_some_iff.mp h).1
  unfold rng at h
  rw [List.getElem?_map, List.getElem?_range hi] at h
  exact ⟨hi, by simpa using h.symm⟩
theorem rng_mem {lo : Int} {n : Nat} {x : Int} (h : x ∈ rng lo n) : lo ≤ x ∧ x < lo + n := by
  unfold rng at h
  obtain ⟨i, hi, rfl⟩ := List.mem_map.mp h
  have := List.mem_range.mp hi
  omega
theorem walks_rng {K : PySem.W.Frag} {F : Hp} {lo : Int} {n : Nat} : Walks K (Itr lo n) F (rng lo n) := by
  refine ⟨fun i F' H h1 h2 hi => by rw [rng_len] at hi; exact hi, fun i F' H v H' x h1 h2 hx ⟨e1, e2⟩ => ?_, fun i F' H h1 h2 hi => by rw [rng_len] at hi; exact hi⟩
  subst e1 e2
  exact ⟨F', Step.refl, h2, by rw [(rng_get hx).2]; rfl⟩
theorem it_range1 {n : Int} (hm : X.mg "range" = none) (h : PX X (sh Int) Γ e n Γ1) (h1 : -(2 ^ 62) ≤ n) (h2 : n < 2 ^ 62) (hg : Gl X "range" := by rfl) (hs : starEach [e] X.env = [(false, eval e X.env)] := by rfl) (hp : PA X [e] (tCons (wE X e) tNil) := by exact pa_cons pE pa_nil) :
    IX X Γ tg (.Call (.Name "range" p) [e] [] pos) (rng 0 n.toNat) Γ1 :=
  ⟨h.sub, fun σ F H R E q => wI.of (pi_range1 hg hm hp hs) (h.run σ F H _ E fun v F' H' E' s r => ⟨n, by rw [show v = V.int n from r], h1, h2, q _ F' H' E' s walks_rng⟩)⟩
theorem it_range2 {n k : Int} (hm : X.mg "range" = none) (h : PX X (sh Int) Γ a n Γ1) (h' : PX X (sh Int) Γ1 b k Γ2) (h1 : -(2 ^ 62) ≤ n ∧ n < 2 ^ 62 ∧ -(2 ^ 62) ≤ k ∧ k < 2 ^ 62) (hg : Gl X "range" := by rfl) (hs : starEach [a, b] X.env = [(false, eval a X.env), (false, eval b X.env)] := by rfl) (hs2 : starEach [b] X.env = [(false, eval b X.env)] := by rfl) (hp : PA X [a, b] (tCons (wE X a) (tCons (wE X b) tNil)) := by exact pa_cons pE (pa_cons pE pa_nil)) :
    IX X Γ tg (.Call (.Name "range" p) [a, b] [] pos) (rng n (k - n).toNat) Γ2 :=
  ⟨fun p q => h.sub p (h'.sub p q), fun σ F H R E q => wI.of (pi_range2 hg hm hp hs hs2) (h.run σ F H _ E fun v F' H' E' s r => h'.run σ F' H' _ E' fun w F2 H2 E2 s2 r2 => ⟨n, k, by rw [show v = V.int n from r, show w = V.int k from r2], h1, q _ F2 H2 E2 (s.sub s2 h.sub) walks_rng⟩)⟩

theorem IX.wk {α : Type} [Rp α] {xs : List α} (h : IX X Γ tg e xs Γ1) (w : Wk Γ1 Γ2) : IX X Γ tg e xs Γ2 :=
  ⟨fun a q => h.sub a (w.own a q), fun σ F H R E q => h.run σ F H R E fun J F' H' E' s W => q J F' H' (E'.wk w) s W⟩
theorem sd_for {α : Type} [Rp α] {xs : List α} {N : DE → Prop} {ts : List Nat} (hI : IX X Γ tg iter xs Γ1) (I : Nat → DE → Prop) (h0 : I 0 Γ1)
    (hs : ∀ i x Γ', xs[i]? = some x → I i Γ' → ∃ Γ2, GX X tg x ts Γ' Γ2 ∧ SD X m Γ2 body { nx := fun Γ'' => ∃ Γ3, Wk Γ'' Γ3 ∧ I (i + 1) Γ3, rt := D.rt, bk := N, ct := fun Γ'' => ∃ Γ3, Wk Γ'' Γ3 ∧ I (i + 1) Γ3 })
    (hd : ∀ Γ', I xs.length Γ' → N Γ') (k : ∀ Γ', N Γ' → SD X m Γ' rest D) (hc : X.calm = true := by rfl) (hp : PassesOwn (model X.prog X.w) X.A X.env X.xe := by exact PassesOwn.never) (hf : ∀ x, foldedSetIterable iter X.env x = pure x := by intro _; rfl) :
    SD X m Γ (.For tg iter body [] pos :: rest) D := by
  refine sd_cons (N := N) ?_ k
  intro σ F H D' E L
  refine wS1.of (ps_for hp hc pI pG pS hf) (hI.run σ F H _ E fun J F1 H1 E1 s1 W => ?_)
  refine ⟨fun i mm σ' H' => mm = xs.length - i ∧ i ≤ xs.length ∧ ∃ Γ' F', I i Γ' ∧ Env X.K Γ' σ' F' H' ∧ Stp Γ F H Γ' F' H' ∧ Same F1 F', ⟨xs.length, by simp, Nat.zero_le _, Γ1, F1, h0, E1, ⟨s1, fun a q => .inl (hI.sub a q)⟩, Same.refl _⟩, ?_⟩
  rintro i mm σ' H' ⟨rfl, hi, Γ', F', hi', E', t, up⟩
  by_cases hlt : i < xs.length
  · refine .inr ⟨W.go i F' H' up E'.le hlt, fun σ2 H2 => ∃ Γ3 F3, I (i + 1) Γ3 ∧ Env X.K Γ3 σ2 F3 H2 ∧ Stp Γ F H Γ3 F3 H2 ∧ Same F1 F3, fun σ2 H2 ⟨Γ3, F3, h3, E3, t3, u3⟩ => ⟨xs.length - (i + 1), by omega, rfl, hlt, Γ3, F3, h3, E3, t3, u3⟩, fun v H2 y => ?_⟩
    obtain ⟨F2, s2, le2, r2⟩ := W.yld i F' H' v H2 xs[i] up E'.le (List.getElem?_eq_getElem hlt) y
    have E2 : Env X.K Γ' σ' F2 H2 := E'.after0 s2 le2 fun _ z => z
    have t2 : Stp Γ' F' H' Γ' F2 H2 := ⟨Step.refl.trans s2 fun _ z => z.elim, fun a q => .inl q⟩
    obtain ⟨Γ2, g, B⟩ := hs i xs[i] Γ' (List.getElem?_eq_getElem hlt) hi'
    refine g.run σ' F2 H2 v _ E2 r2 fun σ3 E3 _ => B σ3 F2 H2 _ E3 ?_
    have t3 : Stp Γ F H Γ2 F2 H2 := t.trans (t2.trans ⟨Step.refl, fun a q => .inl (g.sub a q)⟩)
    refine ⟨fun Γ4 σ4 F4 H4 ⟨Γ5, w, h5⟩ E4 t4 => ?_, fun x Γ4 σ4 F4 H4 v h E4 t4 r => L.rt x Γ4 σ4 F4 H4 v h E4 (t3.trans t4) (m.pre t3.st.there r), fun Γ4 σ4 F4 H4 h E4 t4 => L.nx Γ4 σ4 F4 H4 h E4 (t3.trans t4), fun Γ4 σ4 F4 H4 ⟨Γ5, w, h5⟩ E4 t4 => ?_⟩
    · exact ⟨Γ5, F4, h5, E4.wk w, (t3.trans t4).wk w, (up.trans s2.up).trans t4.st.up⟩
    · exact ⟨Γ5, F4, h5, E4.wk w, (t3.trans t4).wk w, (up.trans s2.up).trans t4.st.up⟩
  · have e : i = xs.length := by omega
    subst e
    exact .inl ⟨W.stop _ F' H' up E'.le (Nat.le_refl _), L.nx Γ' σ' F' H' (hd Γ' hi') E' t⟩
/-- a for that folds a state, with what holds of it -/
theorem sd_foldP {α S : Type} [Rp α] {xs : List α} {ts : List Nat} (hI : IX X Γ tg iter xs Γ1) (Γs : S → DE) (f : S → α → S) (s0 : S) (Pp : S → Prop) (h0 : Wk Γ1 (Γs s0)) (p0 : Pp s0)
    (hs : ∀ s x, x ∈ xs → Pp s → ∃ Γ2, GX X tg x ts (Γs s) Γ2 ∧ Pp (f s x) ∧ SD X m Γ2 body { nx := fun Γ'' => Wk Γ'' (Γs (f s x)), rt := D.rt, bk := fun _ => False, ct := fun Γ'' => Wk Γ'' (Γs (f s x)) })
    (k : Pp (xs.foldl f s0) → SD X m (Γs (xs.foldl f s0)) rest D) (hc : X.calm = true := by rfl) (hp : PassesOwn (model X.prog X.w) X.A X.env X.xe := by exact PassesOwn.never) (hf : ∀ x, foldedSetIterable iter X.env x = pure x := by intro _; rfl) :
    SD X m Γ (.For tg iter body [] pos :: rest) D := by
  refine sd_for (N := fun Γ' => Γ' = Γs (xs.foldl f s0) ∧ Pp (xs.foldl f s0)) (ts := ts) (hI.wk h0) (fun i Γ' => Γ' = Γs ((xs.take i).foldl f s0) ∧ Pp ((xs.take i).foldl f s0)) ⟨rfl, p0⟩ (fun i x Γ' hx ⟨e, pe⟩ => ?_) (fun Γ' ⟨e, pe⟩ => ⟨by rw [e, List.take_length], by rw [← List.take_length (l := xs)]; exact pe⟩) (fun Γ' ⟨e, pe⟩ => e ▸ k pe) hc hp hf
  subst e
  have hm := List.mem_of_getElem? hx
  have e1 : (xs.take (i + 1)).foldl f s0 = f ((xs.take i).foldl f s0) x := by rw [List.take_add_one, hx, List.foldl_append]; rfl
  obtain ⟨Γ2, g, p2, B⟩ := hs ((xs.take i).foldl f s0) x hm pe
  exact ⟨Γ2, g, sd_mono B (fun Γ' w => ⟨_, w, by rw [e1], by rw [e1]; exact p2⟩) (fun _ _ z => z) (fun _ z => z.elim) fun Γ' w => ⟨_, w, by rw [e1], by rw [e1]; exact p2⟩⟩
/-- a for that folds a state -/
theorem sd_fold {α S : Type} [Rp α] {xs : List α} {ts : List Nat} (hI : IX X Γ tg iter xs Γ1) (Γs : S → DE) (f : S → α → S) (s0 : S) (h0 : Wk Γ1 (Γs s0))
    (hs : ∀ s x, x ∈ xs → ∃ Γ2, GX X tg x ts (Γs s) Γ2 ∧ SD X m Γ2 body { nx := fun Γ'' => Wk Γ'' (Γs (f s x)), rt := D.rt, bk := fun _ => False, ct := fun Γ'' => Wk Γ'' (Γs (f s x)) })
    (k : SD X m (Γs (xs.foldl f s0)) rest D) (hc : X.calm = true := by rfl) (hp : PassesOwn (model X.prog X.w) X.A X.env X.xe := by exact PassesOwn.never) (hf : ∀ x, foldedSetIterable iter X.env x = pure x := by intro _; rfl) :
    SD X m Γ (.For tg iter body [] pos :: rest) D := by
  refine sd_for (N := fun Γ' => Γ' = Γs (xs.foldl f s0)) (ts := ts) (hI.wk h0) (fun i Γ' => Γ' = Γs ((xs.take i).foldl f s0)) rfl (fun i x Γ' hx e => ?_) (fun Γ' e => by rw [e, List.take_length]) (fun Γ' e => e ▸ k) hc hp hf
  subst e
  have hm := List.mem_of_getElem? hx
  have e1 : (xs.take (i + 1)).foldl f s0 = f ((xs.take i).foldl f s0) x := by rw [List.take_add_one, hx, List.foldl_append]; rfl
  obtain ⟨Γ2, g, B⟩ := hs ((xs.take i).foldl f s0) x hm
  exact ⟨Γ2, g, sd_mono B (fun Γ' w => ⟨_, w, by rw [e1]⟩) (fun _ _ z => z) (fun _ z => z.elim) fun Γ' w => ⟨_, w, by rw [e1]⟩⟩
end
end G
namespace G
open PySem PySem.Spec PyProof.Rows L2
open Rp (rp)
section
variable {X : Cx} {m : Md} {Γ Γ1 Γ2 Γ3 : DE} {st : List Stmt} {s : Stmt} {rest body : List Stmt} {D : Ax m} {e a b c tg iter elt : Expr} {es : List Expr} {pos p p2 : Pos} {nm : Str}
theorem sd_while {S : Type} {N : DE → Prop} (Γs : S → DE) (P : S → Prop) (μ : S → Nat) (bt : S → Bool) (s0 : S) (p0 : P s0) (h0 : Wk Γ (Γs s0)) (hc : ∀ s, P s → TX X (Γs s) c (bt s) (Γs s))
    (hs : ∀ s, P s → bt s = true → SD X m (Γs s) body { nx := fun Γ' => ∃ s', P s' ∧ μ s' < μ s ∧ Wk Γ' (Γs s'), rt := D.rt, bk := N, ct := fun Γ' => ∃ s', P s' ∧ μ s' < μ s ∧ Wk Γ' (Γs s') })
    (hd : ∀ s, P s → bt s = false → N (Γs s)) (k : ∀ Γ', N Γ' → SD X m Γ' rest D) (hp : PassesOwn (model X.prog X.w) X.A X.env X.xe := by exact PassesOwn.never) : SD X m Γ (.While c body [] pos :: rest) D := by
  refine sd_cons (N := N) ?_ k
  intro σ F H D' E L
  refine wS1.of (ps_while hp pT pS) ⟨fun mm σ' H' => ∃ s F', mm = μ s ∧ P s ∧ Env X.K (Γs s) σ' F' H' ∧ Stp Γ F H (Γs s) F' H', ⟨μ s0, s0, F, rfl, p0, E.wk h0, Stp.refl.wk h0⟩, ?_⟩
  rintro mm σ' H' ⟨s, F', rfl, ps, E', t⟩
  refine (hc s ps).run σ' F' H' _ E' fun F2 H2 E2 s2 => ?_
  have t2 : Stp Γ F H (Γs s) F2 H2 := t.trans ⟨s2, fun a q => .inl q⟩
  cases hb : bt s with
  | true =>
    rw [if_pos rfl]
    refine ⟨fun σ3 H3 => ∃ s' F3, P s' ∧ μ s' < μ s ∧ Env X.K (Γs s') σ3 F3 H3 ∧ Stp Γ F H (Γs s') F3 H3, fun σ3 H3 ⟨s', F3, p', l, E3, t3⟩ => ⟨μ s', l, s', F3, rfl, p', E3, t3⟩, hs s ps hb σ' F2 H2 _ E2 ?_⟩
    refine ⟨fun Γ4 σ4 F4 H4 ⟨s', p', l, w⟩ E4 t4 => ⟨s', F4, p', l, E4.wk w, (t2.trans t4).wk w⟩, fun x Γ4 σ4 F4 H4 v h E4 t4 r => L.rt x Γ4 σ4 F4 H4 v h E4 (t2.trans t4) (m.pre t2.st.there r), fun Γ4 σ4 F4 H4 h E4 t4 => L.nx Γ4 σ4 F4 H4 h E4 (t2.trans t4), fun Γ4 σ4 F4 H4 ⟨s', p', l, w⟩ E4 t4 => ⟨s', F4, p', l, E4.wk w, (t2.trans t4).wk w⟩⟩
  | false =>
    rw [if_neg Bool.false_ne_true]
    exact L.nx _ σ' F2 H2 (hd s ps hb) E2 t2

structure LX (X : Cx) (Γ : DE) (es : List Expr) {α : Type} [Rp α] (xs : List α) (Γ' : DE) : Prop where
  sub : ∀ a, Own Γ' a → Own Γ a
  run : ∀ σ F H (Q : List V → Hp → Prop), Env X.K Γ σ F H → (∀ vs F' H', Env X.K Γ' σ F' H' → Step (Own Γ) F H F' H' → RpL X.K F' vs xs → Q vs H') → wA X es σ H Q
theorem lx_nil {α : Type} [Rp α] : LX X Γ [] ([] : List α) Γ := ⟨sub_refl, fun σ F H Q E q => wA.of pa_nil (q [] F H E Step.refl .nil)⟩
theorem lx_cons {α : Type} [Rp α] {x : α} {xs : List α} (h : PX X (sh α) Γ e x Γ1) (t : LX X Γ1 es xs Γ2) (hs : starEach (e :: es) X.env = (false, eval e X.env) :: starEach es X.env := by rfl) : LX X Γ (e :: es) (x :: xs) Γ2 :=
  ⟨fun p q => h.sub p (t.sub p q), fun σ F H Q E q => wA.of (pa_cons pE pA hs) (h.run σ F H _ E fun v F1 H1 E1 s1 r1 => t.run σ F1 H1 _ E1 fun vs F2 H2 E2 s2 r2 => q (v :: vs) F2 H2 E2 (s1.sub s2 h.sub) (.cons (Rp.mono s2.up r1) r2))⟩
theorem px_lst {α : Type} [Rp α] {xs : List α} (h : LX X Γ es xs Γ1) (hl : xs.length ≤ 1000 := by first | decide | simp) : PX X (nw α) Γ (.List es pos) xs Γ1 :=
  ⟨h.sub, fun σ F H Q E q => wE.of (pe_lst pA) (h.run σ F H _ E fun vs F' H' E' s r => ⟨by rw [r.length]; exact Nat.le_trans hl (by decide), fun p hp => q _ F' _ (E'.new hp) (s.sub (Step.new hp) fun a q => q) ⟨p, vs, rfl, s.there p hp, E'.free hp, upd_same, r⟩⟩)⟩
/-- a tuple laid and frozen -/
theorem tup_new {K : PySem.W.Frag} {σ : L2.St} {F H F0 H0 : Hp} {p : Addr} {vs : List V} {Γ0 : DE} (E : Env K Γ σ F H) (s : Step (Own Γ0) F0 H0 F H) (hs : ∀ a, Own Γ a → Own Γ0 a) (hp : H p = none) :
    Env K Γ σ (upd F p (.tup vs)) (upd H p (.tup vs)) ∧ Step (Own Γ0) F0 H0 (upd F p (.tup vs)) (upd H p (.tup vs)) := by
  have no : ¬ Own Γ p := fun z => Own.some z E hp
  have hF := E.free hp
  refine ⟨(E.new hp).freeze upd_same hF no, s.sub (O1 := Own Γ) ?_ hs⟩
  refine ⟨same_upd hF, fun b x e _ => same_upd hp b x e, fun b e => ?_, fun b h1 h2 => ?_⟩
  · by_cases z : b = p
    · rw [z, upd_same] at e; cases e
    · rw [upd_ne z] at e; exact e
  · by_cases z : b = p
    · subst z; exact .inl hp
    · rw [upd_ne z] at h2; exact absurd h1 h2
theorem px_t2 {α β : Type} [Rp α] [Rp β] {x : α} {y : β} {k} (h1 : PX X (sh α) Γ a x Γ1) (h2 : PX X (sh β) Γ1 b y Γ2) (hp : PA X [a, b] (tCons (wE X a) (tCons (wE X b) tNil)) := by exact pa_cons pE (pa_cons pE pa_nil)) :
    PX X (sh (α × β)) Γ (.Tuple [a, b] k pos) (x, y) Γ2 :=
  ⟨fun p q => h1.sub p (h2.sub p q), fun σ F H Q E q => wE.of (pe_tup hp) (h1.run σ F H _ E fun v F1 H1 E1 s1 r1 => h2.run σ F1 H1 _ E1 fun w F2 H2 E2 s2 r2 => ⟨by show 2 ≤ sizeLine; decide, fun p hp => by
    obtain ⟨E3, s3⟩ := tup_new (vs := [v, w]) E2 (s1.sub s2 h1.sub) (fun a q => h1.sub a (h2.sub a q)) hp
    have up := same_upd (o := .tup [v, w]) (E2.free hp)
    exact q _ _ _ E3 s3 ⟨p, v, w, rfl, upd_same, Rp.mono (s2.up.trans up) r1, Rp.mono up r2⟩⟩)⟩
/-- a tuple of things of one kind -/
theorem px_tup {α : Type} [Rp α] {xs : List α} {k} (h : LX X Γ es xs Γ1) (hl : xs.length ≤ 1000 := by first | decide | simp) : PX X (sh (Tup α)) Γ (.Tuple es k pos) ⟨xs⟩ Γ1 :=
  ⟨h.sub, fun σ F H Q E q => wE.of (pe_tup pA) (h.run σ F H _ E fun vs F' H' E' s r => ⟨by rw [r.length]; exact Nat.le_trans hl (by decide), fun p hp => by
    obtain ⟨E4, s4⟩ := tup_new (vs := vs) E' s h.sub hp
    exact q _ _ _ E4 s4 ⟨p, vs, rfl, upd_same, r.mono (same_upd (E'.free hp))⟩⟩)⟩

theorem atI_int {α : Type} {xs : List α} {k : Int} {d : α} (h0 : 0 ≤ k) (h : k < xs.length) : atI xs k = some (xs.getD k.toNat d) := by
  obtain ⟨j, rfl⟩ : ∃ j : Nat, k = (j : Int) := ⟨k.toNat, by omega⟩
  refine atI_nat ?_
  rw [Int.toNat_natCast, List.getD_eq_getElem?_getD, List.getElem?_eq_getElem (by omega)]
  rfl
theorem px_ix {α : Type} [Rp α] {xs : List α} {i : Int} {y : α} (ha : PX X (sh (List α)) Γ a xs Γ1) (hb : PX X (sh Int) Γ1 b i Γ2) (h : atI xs i = some y) (hp : PlainIx b := by exact fun _ _ => rfl) : PX X (sh α) Γ (.Subscript a b pos) y Γ2 :=
  px_sc ha hb (pe_ix ix_list pE pE hp) fun F0 H0 F H v w Q le ⟨l, vs, ev, t, r⟩ hw q => by
    obtain ⟨u, hu, ru⟩ := atI_at r (fun {j} e => r.get e) h
    exact ⟨l, vs, i, u, ev, hw, .inl (.inl (le _ _ t)), hu, q u ru⟩
theorem px_ixS {α : Type} [Rp α] {xs : Scr α} {i : Int} {y : α} (ha : PX X (sh (Scr α)) Γ a xs Γ1) (hb : PX X (sh Int) Γ1 b i Γ2) (h : atI xs.l i = some y) (hp : PlainIx b := by exact fun _ _ => rfl) : PX X (sh α) Γ (.Subscript a b pos) y Γ2 :=
  px_sc ha hb (pe_ix ix_list pE pE hp) fun F0 H0 F H v w Q le ⟨l, vs, ev, t, r⟩ hw q => by
    obtain ⟨u, hu, ru⟩ := atI_at r (fun {j} e => r.get e) h
    exact ⟨l, vs, i, u, ev, hw, le.seq t, hu, q u ru⟩
theorem px_fst {α β : Type} [Rp α] [Rp β] {x : α × β} (ha : PX X (sh (α × β)) Γ a x Γ1) (hb : PX X (sh Int) Γ1 b 0 Γ2) (hp : PlainIx b := by exact fun _ _ => rfl) : PX X (sh α) Γ (.Subscript a b pos) x.1 Γ2 :=
  px_sc ha hb (pe_ix ix_tup pE pE hp) fun F0 H0 F H v w Q le ⟨l, v1, v2, ev, t, r1, r2⟩ hw q => ⟨l, [v1, v2], 0, v1, ev, hw, .inl (.inl (le _ _ t)), rfl, q v1 r1⟩
theorem px_snd {α β : Type} [Rp α] [Rp β] {x : α × β} (ha : PX X (sh (α × β)) Γ a x Γ1) (hb : PX X (sh Int) Γ1 b 1 Γ2) (hp : PlainIx b := by exact fun _ _ => rfl) : PX X (sh β) Γ (.Subscript a b pos) x.2 Γ2 :=
  px_sc ha hb (pe_ix ix_tup pE pE hp) fun F0 H0 F H v w Q le ⟨l, v1, v2, ev, t, r1, r2⟩ hw q => ⟨l, [v1, v2], 1, v2, ev, hw, .inl (.inl (le _ _ t)), rfl, q v2 r2⟩
/-- a place of a list that slot i owns -/
theorem px_ixO {α : Type} [Rp α] {xs xs0 : List α} {ad : Addr} {k : Int} {y : α} (i : Nat) (hb : PX X (sh Int) Γ b k Γ1) (h1 : Γ1[i]? = some (.own ad xs)) (h0 : Γ[i]? = some (.own ad xs0)) (h : atI xs k = some y) (hN : X.N[i]? = some nm := by rfl) (hv : Vis X.env.scope nm := by first | exact Or.inl rfl | exact Or.inr (Or.inl rfl) | exact Or.inr (Or.inr rfl))
    (hp : PlainIx b := by exact fun _ _ => rfl) (hd : (nm == ("__debug__" : Str)) = false := by decide) (hcd : (nm == ("__classdict__" : Str)) = false := by decide) : PX X (sh α) Γ (.Subscript (.Name nm p) b pos) y Γ1 := by
  refine ⟨hb.sub, fun σ F H Q E q => wE.of (pe_ix ix_list (pe_var hN hv hd hcd) pE hp) ?_⟩
  obtain ⟨o, ho, v, rfl, _, rfl, _⟩ := E.ent i _ h0
  refine ⟨_, ho, hb.run σ F H _ E fun w F1 H1 E1 s1 rw => ?_⟩
  obtain ⟨o2, ho2, v, rfl, hF, rfl, vs, hH, r⟩ := E1.ent i _ h1
  obtain ⟨u, hu, ru⟩ := atI_at r (fun {j} e => r.get e) h
  exact ⟨_, vs, k, u, rfl, rw, .inl (.inl hH), hu, q u F1 H1 E1 s1 ru⟩
/-- xs[lo:hi] with bounds from 0 on -/
def cutL {α : Type} (xs : List α) (lo hi : Option Int) : List α := (xs.drop (HT.sIx xs.length 0 lo)).take (HT.sIx xs.length xs.length hi - HT.sIx xs.length 0 lo)
theorem cutL_from {α : Type} {xs : List α} {k : Nat} : cutL xs (some (k : Int)) none = xs.drop k := by
  unfold cutL
  rw [HT.sIx_nat, HT.sIx_none]
  by_cases h : k ≤ xs.length
  · rw [Nat.min_eq_left h, List.take_of_length_le (by simp)]
  · rw [Nat.min_eq_right (by omega), List.drop_of_length_le (Nat.le_refl _), List.drop_of_length_le (by omega)]; simp
theorem cutL_to {α : Type} {xs : List α} {k : Nat} : cutL xs none (some (k : Int)) = xs.take k := by
  unfold cutL
  rw [HT.sIx_nat, HT.sIx_none, List.drop_zero, Nat.sub_zero]
  by_cases h : k ≤ xs.length
  · rw [Nat.min_eq_left h]
  · rw [Nat.min_eq_right (by omega), List.take_of_length_le (Nat.le_refl _), List.take_of_length_le (by omega)]
theorem RpL.cut {α : Type} [Rp α] {K : PySem.W.Frag} {F : Hp} {vs : List V} {xs : List α} {lo hi : Option Int} (r : RpL K F vs xs) : RpL K F (cutV vs lo hi) (cutL xs lo hi) := by
  unfold cutV cutL
  rw [r.length]
  exact (r.drop _).take _
/-- a slice's part -/
structure OX (X : Cx) (Γ : DE) (e : Option Expr) (o : Option Int) (Γ' : DE) : Prop where
  sub : ∀ a, Own Γ' a → Own Γ a
  ex : ∃ t : TO, PO X e t ∧ ∀ σ F H (Q : Option Int → Hp → Prop), Env X.K Γ σ F H → (∀ F' H', Env X.K Γ' σ F' H' → Step (Own Γ) F H F' H' → Q o H') → t σ H Q
theorem ox_none : OX X Γ none none Γ := ⟨sub_refl, _, po_none, fun σ F H Q E q => q F H E Step.refl⟩
theorem ox_some {i : Int} (h : PX X (sh Int) Γ e i Γ1) : OX X Γ (some e) (some i) Γ1 := ⟨h.sub, _, po_some pE, fun σ F H Q E q => h.run σ F H _ E fun v F' H' E' s r => ⟨i, r, q F' H' E' s⟩⟩
theorem px_slice {α : Type} [Rp α] {xs : List α} {lo hi : Option Expr} {i j : Option Int} (h : PX X (sh (List α)) Γ e xs Γ1) (hl : OX X Γ1 lo i Γ2) (hh : OX X Γ2 hi j Γ3) : PX X (nw α) Γ (.Subscript e (.Slice lo hi none p2) pos) (cutL xs i j) Γ3 := by
  obtain ⟨t1, p1, g1⟩ := hl.ex
  obtain ⟨t2, p2, g2⟩ := hh.ex
  refine ⟨fun a q => h.sub a (hl.sub a (hh.sub a q)), fun σ F H Q E q => wE.of (pe_slice sl_list pE p1 p2) (h.run σ F H _ E fun v F1 H1 E1 s1 ⟨l, vs, ev, t, r⟩ => g1 σ F1 H1 _ E1 fun F2 H2 E2 s2 => g2 σ F2 H2 _ E2 fun F3 H3 E3 s3 => ?_)⟩
  have t3 := s3.up _ _ (s2.up _ _ t)
  have s4 := (s1.sub s2 h.sub).sub s3 fun a q => h.sub a (hl.sub a q)
  exact ⟨l, vs, ev, .inl (.inl (E3.le _ _ t3)), fun p hp => q _ F3 _ (E3.new hp) (s4.sub (Step.new hp) (O1 := Own Γ) fun a q => q) ⟨p, _, rfl, s4.there p hp, E3.free hp, upd_same, (r.mono (s2.up.trans s3.up)).cut⟩⟩

theorem step_upd {F H : Hp} {ad : Addr} {o : HO} {O : Addr → Prop} (h : O ad) : Step O F H F (upd H ad o) := by
  refine ⟨Same.refl _, fun b x e no => ?_, fun b e => ?_, fun b h1 h2 => absurd h1 h2⟩
  · rw [upd_ne (fun z : b = ad => no (by rw [z]; exact h))]; exact e
  · by_cases z : b = ad
    · rw [z, upd_same] at e; cases e
    · rw [upd_ne z] at e; exact e
theorem Env.put {K : PySem.W.Frag} {σ : L2.St} {F H : Hp} {i : Nat} {ad : Addr} {vs : List V} {α β : Type} [Rp α] [Rp β] {xs : List α} {ys : List β} (E : Env K Γ σ F H) (h : Γ[i]? = some (.own ad xs)) (r : RpL K F vs ys) :
    Env K (Γ.set i (.own ad ys)) σ F (upd H ad (.lst vs)) ∧ Stp Γ F H (Γ.set i (.own ad ys)) F (upd H ad (.lst vs)) := by
  obtain ⟨o, ho, v, rfl, fr, rfl, ws, hH, _⟩ := E.ent i _ h
  have hF := (fr ad List.mem_cons_self).1
  refine E.chg (e' := .own ad ys) h (step_upd (O := (· ∈ [ad])) List.mem_cons_self) (fun b x e => ?_) (fun o ho' => ?_) (fun a m => .inl m)
  · rw [upd_ne (ne_of_none e hF)]; exact E.le _ _ e
  · rw [ho] at ho'; cases ho'
    refine ⟨_, rfl, fun a m => ?_, rfl, vs, upd_same, r⟩
    cases (List.mem_singleton.mp m)
    exact ⟨hF, by rw [upd_same]; exact fun z => nomatch z⟩
/-- what an owned slot holds ahead of an expression is the same address behind it -/
theorem own_at {K : PySem.W.Frag} {σ : L2.St} {F H : Hp} {i : Nat} {ad : Addr} {α : Type} [Rp α] {xs : List α} (E : Env K Γ σ F H) (h0 : Γ[i]? = some (.own ad xs)) : σ[i]? = some (some (.ref ad)) ∧ ∃ vs, H ad = some (.lst vs) := by
  obtain ⟨o, ho, v, rfl, _, rfl, vs, h, _⟩ := E.ent i _ h0
  exact ⟨ho, vs, h⟩
theorem sd_append {α : Type} [Rp α] {xs xs0 : List α} {y : α} {ad : Addr} {apos cpos : Pos} (i : Nat) (he : PX X (sh α) Γ e y Γ1) (h1 : Γ1[i]? = some (.own ad xs)) (hz : xs.length < sizeLine) (k : SD X m (Γ1.set i (.own ad (xs ++ [y]))) rest D) (h0 : Γ[i]? = some (.own ad xs0) := by rfl) (hN : X.N[i]? = some nm := by rfl)
    (hv : Vis X.env.scope nm := by first | exact Or.inl rfl | exact Or.inr (Or.inl rfl) | exact Or.inr (Or.inr rfl)) (hd : (nm == ("__debug__" : Str)) = false := by decide) (hcd : (nm == ("__classdict__" : Str)) = false := by decide)
    (hp : ∀ {to : TE} {t : TA}, PE X (.Name nm p) to → PA X [e] t → PE X (.Call (.Attribute (.Name nm p) "append" apos) [e] [] cpos) (tBM X.K "list" rAppend to t) := by intro to t h1 h2; exact pe_bm PySem.F.plainAttrs_list PySem.F.slot_list_append PySem.F.type_list_append mt_append h1 h2)
    (ha : PA X [e] (tCons (wE X e) tNil) := by exact pa_cons pE pa_nil) (hs : swapsWith (.Call (.Attribute (.Name nm p) "append" apos) [e] [] cpos) none pos.line X.env = pure false := by rfl) :
    SD X m Γ (.Expr (.Call (.Attribute (.Name nm p) "append" apos) [e] [] cpos) pos :: rest) D :=
  sd_c1 (fun σ F H D' E L => by
    obtain ⟨ho, vs0, hv0⟩ := own_at E h0
    refine wS1.of (ps_expr (hp (pe_var hN hv hd hcd) ha) hs) ⟨_, ho, .inl ⟨rfl, vs0, .inl (.inl hv0)⟩, he.run σ F H _ E fun v F1 H1 E1 s1 r1 => ?_⟩
    obtain ⟨o, _, v9, rfl, hF, rfl, vs, hH, r⟩ := E1.ent i _ h1
    obtain ⟨E2, t2⟩ := E1.put (β := α) h1 (r.snoc r1)
    exact ⟨ad, vs, v, rfl, rfl, hH, by rw [r.length]; exact hz, L.nx _ σ F1 _ rfl E2 ((he.stp s1).trans t2)⟩) k
/-- xs[j] = e -/
theorem sd_setix {α : Type} [Rp α] {xs : List α} {y : α} {ad : Addr} {i1 : Int} {j : Nat} {ix : Expr} {spos : Pos} (i : Nat) (he : PX X (sh α) Γ e y Γ1) (hi : PX X (sh Int) Γ1 ix i1 Γ1) (h1 : Γ1[i]? = some (.own ad xs)) (hj : ixN xs.length i1 = some j) (k : SD X m (Γ1.set i (.own ad (xs.set j y))) rest D) (hN : X.N[i]? = some nm := by rfl)
    (hv : Vis X.env.scope nm := by first | exact Or.inl rfl | exact Or.inr (Or.inl rfl) | exact Or.inr (Or.inr rfl)) (hd : (nm == ("__debug__" : Str)) = false := by decide) (hcd : (nm == ("__classdict__" : Str)) = false := by decide)
    (hg : ∀ {to ti : TE}, PE X (.Name nm p) to → PE X ix ti → PG X (.Subscript (.Name nm p) ix spos) (gSub to ti rSetL) := by intro to ti h1 h2; exact pg_sub h1 h2 set_list)
    (hs : swapsWithSole [.Subscript (.Name nm p) ix spos] e pos.line X.env = pure false := by rfl) (hw : swappedStores [.Subscript (.Name nm p) ix spos] e X.env = pure none := by rfl)
    (h2 : (assignEach [.Subscript (.Name nm p) ix spos] X.env).map (·.2) = [assign (.Subscript (.Name nm p) ix spos) X.env] := by rfl) :
    SD X m Γ (.Assign [.Subscript (.Name nm p) ix spos] e pos :: rest) D :=
  sd_c1 (fun σ F H D' E L => by
    refine wS1.of (ps_asg pE (hg (pe_var hN hv hd hcd) pE) hs hw h2) (he.run σ F H _ E fun v F1 H1 E1 s1 r1 => ?_)
    obtain ⟨ho, vs0, hv0⟩ := own_at E1 h1
    refine ⟨_, ho, hi.run σ F1 H1 _ E1 fun w F2 H2 E2 s2 r2 => ?_⟩
    obtain ⟨o, _, v9, rfl, hF, rfl, vs, hH, r⟩ := E2.ent i _ h1
    obtain ⟨E3, t3⟩ := E2.put (β := α) h1 (RpL.set (Rp.mono s2.up r1) j r)
    exact ⟨ad, vs, i1, j, rfl, r2, hH, by rw [r.length]; exact hj, L.nx _ σ F2 _ rfl E3 (((he.stp s1).trans (hi.stp s2)).trans t3)⟩) k

theorem px_len {α : Type} [Rp α] {xs : List α} (hm : X.mg "len" = none) (h : PX X (br α) Γ e xs Γ1) (hg : Gl X "len" := by rfl)
    (hp : X.mg "len" = none → ∀ {r : List V → Hp → VK → Prop} {t : TA}, CallR X (.builtin "len") r → PA X [e] t → PE X (.Call (.Name "len" p) [e] [] pos) (tCB r t) := by intro hm r t h1 h2; exact pe_callB h1 (by rfl) hm PySem.boot_len h2) (ha : PA X [e] (tCons (wE X e) tNil) := by exact pa_cons pE pa_nil) :
    PX X (sh Int) Γ (.Call (.Name "len" p) [e] [] pos) (xs.length : Int) Γ1 :=
  ⟨h.sub, fun σ F H Q E q => wE.of (hp hm call_len_seq ha) (h.run σ F H _ E fun v F' H' E' s ⟨l, vs, ev, t, r⟩ => ⟨l, vs, by rw [ev], .inl t, q _ F' H' E' s (by rw [r.length]; rfl)⟩)⟩
theorem px_lenS {α : Type} [Rp α] {xs : Scr α} (hm : X.mg "len" = none) (h : PX X (sh (Scr α)) Γ e xs Γ1) (hg : Gl X "len" := by rfl)
    (hp : X.mg "len" = none → ∀ {r : List V → Hp → VK → Prop} {t : TA}, CallR X (.builtin "len") r → PA X [e] t → PE X (.Call (.Name "len" p) [e] [] pos) (tCB r t) := by intro hm r t h1 h2; exact pe_callB h1 (by rfl) hm PySem.boot_len h2) (ha : PA X [e] (tCons (wE X e) tNil) := by exact pa_cons pE pa_nil) :
    PX X (sh Int) Γ (.Call (.Name "len" p) [e] [] pos) (xs.l.length : Int) Γ1 :=
  ⟨h.sub, fun σ F H Q E q => wE.of (hp hm call_len_seq ha) (h.run σ F H _ E fun v F' H' E' s ⟨l, vs, ev, t, r⟩ => ⟨l, vs, by rw [ev], .inl (E'.le.seq t), q _ F' H' E' s (by rw [r.length]; rfl)⟩)⟩
theorem px_max2 {x y : Int} (hm : X.mg "max" = none) (h1 : PX X (sh Int) Γ a x Γ1) (h2 : PX X (sh Int) Γ1 b y Γ2) (hc : X.calm = true := by rfl)
    (hp : X.mg "max" = none → ∀ {r : List V → Hp → VK → Prop} {t : TA}, CallR X (.builtin "max") r → PA X [a, b] t → PE X (.Call (.Name "max" p) [a, b] [] pos) (tCB r t) := by intro hm r t h1 h2; exact pe_callB h1 (by rfl) hm (by decide +kernel) h2) (ha : PA X [a, b] (tCons (wE X a) (tCons (wE X b) tNil)) := by exact pa_cons pE (pa_cons pE pa_nil)) :
    PX X (sh Int) Γ (.Call (.Name "max" p) [a, b] [] pos) (max x y) Γ2 :=
  ⟨fun p q => h1.sub p (h2.sub p q), fun σ F H Q E q => wE.of (hp hm (call_max2 hc) ha) (h1.run σ F H _ E fun v F1 H1 E1 s1 r1 => h2.run σ F1 H1 _ E1 fun w F2 H2 E2 s2 r2 => ⟨x, y, by rw [show v = V.int x from r1, show w = V.int y from r2], q _ F2 H2 E2 (s1.sub s2 h1.sub) (by show V.int _ = V.int _; congr 1; split <;> omega)⟩)⟩
theorem px_min2 {x y : Int} (hm : X.mg "min" = none) (h1 : PX X (sh Int) Γ a x Γ1) (h2 : PX X (sh Int) Γ1 b y Γ2) (hc : X.calm = true := by rfl)
    (hp : X.mg "min" = none → ∀ {r : List V → Hp → VK → Prop} {t : TA}, CallR X (.builtin "min") r → PA X [a, b] t → PE X (.Call (.Name "min" p) [a, b] [] pos) (tCB r t) := by intro hm r t h1 h2; exact pe_callB h1 (by rfl) hm (by decide +kernel) h2) (ha : PA X [a, b] (tCons (wE X a) (tCons (wE X b) tNil)) := by exact pa_cons pE (pa_cons pE pa_nil)) :
    PX X (sh Int) Γ (.Call (.Name "min" p) [a, b] [] pos) (min x y) Γ2 :=
  ⟨fun p q => h1.sub p (h2.sub p q), fun σ F H Q E q => wE.of (hp hm (call_min2 hc) ha) (h1.run σ F H _ E fun v F1 H1 E1 s1 r1 => h2.run σ F1 H1 _ E1 fun w F2 H2 E2 s2 r2 => ⟨x, y, by rw [show v = V.int x from r1, show w = V.int y from r2], q _ F2 H2 E2 (s1.sub s2 h1.sub) (by show V.int _ = V.int _; congr 1; split <;> omega)⟩)⟩
/-- isinstance by what the value is -/
theorem px_isi {m1 : Md} {x : m1.β} {c2 : V} {t u : Value} {z : Bool} (hm : X.mg "isinstance" = none) (h : PX X m1 Γ a x Γ1) (hb : PX X (sh V) Γ1 b c2 Γ2) (k : ClsV c2 u) (hk : PySem.W.kitOne X.K t u = some z) (ty : ∀ F0 H0 F H v F2 H2, m1.ok X.K F0 H0 F H v x → Step (Own Γ1) F H F2 H2 → Same F2 H2 → TyX X.K H2 v t)
    (hp : X.mg "isinstance" = none → ∀ {r : List V → Hp → VK → Prop} {t : TA}, CallR X (.builtin "isinstance") r → PA X [a, b] t → PE X (.Call (.Name "isinstance" p) [a, b] [] pos) (tCB r t) := by intro hm r t h1 h2; exact pe_callB h1 (by rfl) hm (by decide +kernel) h2) (ha : PA X [a, b] (tCons (wE X a) (tCons (wE X b) tNil)) := by exact pa_cons pE (pa_cons pE pa_nil)) :
    PX X (sh Bool) Γ (.Call (.Name "isinstance" p) [a, b] [] pos) z Γ2 :=
  ⟨fun p q => h.sub p (hb.sub p q), fun σ F H Q E q => wE.of (hp hm call_isi ha) (h.run σ F H _ E fun v F1 H1 E1 s1 r1 => hb.run σ F1 H1 _ E1 fun w F2 H2 E2 s2 r2 => ⟨v, w, t, u, z, rfl, by rw [show w = c2 from r2]; exact k, ty F H F1 H1 v F2 H2 r1 s2 E2.le, hk, q _ F2 H2 E2 (s1.sub s2 h.sub) rfl⟩)⟩
/-- a built-in type's name -/
theorem px_ty {T : String} (hm : X.mg nm = none) (hb : bootBuiltins nm = some (.type T)) (hg : Gl X nm := by rfl) (hn : nm ≠ "__name__" := by decide) (hd : (nm == ("__debug__" : Str)) = false := by decide) : PX X (sh V) Γ (.Name nm pos) (V.ty T) Γ :=
  px_of fun _ _ _ _ _ q => wE.of (pe_bltn hg hm hb (v := .ty T) rfl hn hd) (q _ rfl)
end
end G
namespace G
open PySem PySem.Spec PyProof.Rows L2
open Rp (rp)
/-- the block's own slots forgotten -/
def wipeD (Γ : DE) : List Nat → DE
  | [] => Γ
  | v :: vs => (wipeD Γ vs).set v .no
theorem wipeD_len (Γ : DE) : ∀ vs, (wipeD Γ vs).length = Γ.length
  | [] => rfl
  | v :: vs => by unfold wipeD; rw [List.length_set, wipeD_len Γ vs]
theorem wipeD_get {Γ : DE} : ∀ {vs : List Nat} {i : Nat} {e : Ent}, (wipeD Γ vs)[i]? = some e → (i ∈ vs ∧ e = .no) ∨ (i ∉ vs ∧ Γ[i]? = some e)
  | [], i, e, h => .inr ⟨by simp, h⟩
  | v :: vs, i, e, h => by
    unfold wipeD at h
    by_cases z : v = i
    · subst z
      have hl : v < (wipeD Γ vs).length := by
        have := (List.getElem?_eq_some_iff.mp h).1
        simpa using this
      rw [List.getElem?_set_self hl] at h
      exact .inl ⟨by simp, (Option.some.inj h).symm⟩
    · rw [List.getElem?_set_ne z] at h
      rcases wipeD_get h with ⟨h1, h2⟩ | ⟨h1, h2⟩
      · exact .inl ⟨List.mem_cons_of_mem _ h1, h2⟩
      · exact .inr ⟨by simp only [List.mem_cons, not_or]; exact ⟨fun q => z q.symm, h1⟩, h2⟩
theorem wipe_at {σ : L2.St} : ∀ {vs : List Nat} {i : Nat}, i < σ.length → (wipe σ vs)[i]? = if i ∈ vs then some none else σ[i]?
  | [], i, h => by simp [wipe]
  | v :: vs, i, h => by
    unfold wipe
    by_cases z : v = i
    · subst z
      rw [List.getElem?_set_self (by rw [wipe_length]; exact h), if_pos (by simp)]
    · rw [List.getElem?_set_ne z, wipe_at h]
      by_cases q : i ∈ vs
      · rw [if_pos q, if_pos (by simp [q])]
      · rw [if_neg q, if_neg (by simp [q]; exact fun e => z e.symm)]
theorem ads_wiped {Γ : DE} {vs : List Nat} {i : Nat} {a : Addr} (q : a ∈ adsAt (wipeD Γ vs) i) : a ∈ adsAt Γ i := by
  obtain ⟨r, z, m⟩ := of_adsAt q
  rcases wipeD_get z with ⟨_, e⟩ | ⟨_, z'⟩
  · cases e
  · rw [adsAt_of z']; exact m
theorem Env.wiped {K : PySem.W.Frag} {Γ : DE} {σ : L2.St} {F H : Hp} (E : Env K Γ σ F H) (vs : List Nat) : Env K (wipeD Γ vs) (wipe σ vs) F H := by
  refine ⟨E.le, by rw [wipe_length, wipeD_len]; exact E.len, fun i e q => ?_, fun i j a q r => E.sep i j a (ads_wiped q) (ads_wiped r)⟩
  have hi : i < σ.length := by rw [E.len, ← wipeD_len Γ vs]; exact (List.getElem?_eq_some_iff.mp q).1
  rw [wipe_at hi]
  rcases wipeD_get q with ⟨h1, rfl⟩ | ⟨h1, h2⟩
  · exact ⟨none, by rw [if_pos h1], trivial⟩
  · obtain ⟨o, ho, r⟩ := E.ent i e h2
    exact ⟨o, by rw [if_neg h1]; exact ho, r⟩
theorem own_wiped {Γ : DE} {vs : List Nat} {a : Addr} (h : Own (wipeD Γ vs) a) : Own Γ a := by
  obtain ⟨i, q⟩ := h
  exact ⟨i, ads_wiped q⟩
theorem wipe_eq {σ σ' : L2.St} {vs : List Nat} (hl : σ'.length = σ.length) (h : ∀ i, i ∉ vs → σ'[i]? = (wipe σ vs)[i]?) : wipe σ' vs = wipe σ vs := by
  apply List.ext_getElem?
  intro i
  by_cases hi : i < σ.length
  · rw [wipe_at (by omega), wipe_at hi]
    by_cases q : i ∈ vs
    · rw [if_pos q, if_pos q]
    · rw [if_neg q, if_neg q, h i q, wipe_at hi, if_neg q]
  · rw [List.getElem?_eq_none (by rw [wipe_length]; omega), List.getElem?_eq_none (by rw [wipe_length]; omega)]
/-- the def's slots as the block leaves them: the block's own slots as they were -/
def patch (Γ Γ' : DE) : List Nat → DE
  | [] => Γ'
  | v :: vs => (patch Γ Γ' vs).set v (Γ[v]?.getD .no)
theorem patch_len (Γ Γ' : DE) : ∀ vs, (patch Γ Γ' vs).length = Γ'.length
  | [] => rfl
  | v :: vs => by unfold patch; rw [List.length_set, patch_len Γ Γ' vs]
theorem patch_get {Γ Γ' : DE} (hl : Γ'.length = Γ.length) : ∀ {vs : List Nat} {i : Nat} {e : Ent}, (patch Γ Γ' vs)[i]? = some e → (i ∈ vs ∧ Γ[i]? = some e) ∨ (i ∉ vs ∧ Γ'[i]? = some e)
  | [], i, e, h => .inr ⟨by simp, h⟩
  | v :: vs, i, e, h => by
    unfold patch at h
    by_cases z : v = i
    · subst z
      have hv : v < (patch Γ Γ' vs).length := by
        have := (List.getElem?_eq_some_iff.mp h).1
        simpa using this
      rw [List.getElem?_set_self hv] at h
      have hv2 : v < Γ.length := by rw [← hl, ← patch_len Γ Γ' vs]; exact hv
      rw [List.getElem?_eq_getElem hv2] at h ⊢
      exact .inl ⟨by simp, h⟩
    · rw [List.getElem?_set_ne z] at h
      rcases patch_get hl h with ⟨h1, h2⟩ | ⟨h1, h2⟩
      · exact .inl ⟨List.mem_cons_of_mem _ h1, h2⟩
      · exact .inr ⟨by simp only [List.mem_cons, not_or]; exact ⟨fun q => z q.symm, h1⟩, h2⟩
theorem ads_patch {Γ Γ' : DE} {vs : List Nat} (hl : Γ'.length = Γ.length) (hv : ∀ i ∈ vs, adsAt Γ i = []) {i : Nat} {a : Addr} (q : a ∈ adsAt (patch Γ Γ' vs) i) : a ∈ adsAt Γ' i := by
  obtain ⟨r, z, m⟩ := of_adsAt q
  rcases patch_get hl z with ⟨h1, h2⟩ | ⟨_, z'⟩
  · have := hv i h1
    rw [adsAt_of h2] at this
    rw [show r.ads = [] from this] at m
    cases m
  · rw [adsAt_of z']; exact m
/-- back from the block -/
theorem Env.back {K : PySem.W.Frag} {Γ Γ' : DE} {σ σ' : L2.St} {F H F' H' : Hp} {vs : List Nat} (E : Env K Γ σ F H) (E' : Env K Γ' σ' F' H') (up : Same F F') (hs : wipe σ' vs = wipe σ vs) (hl : σ'.length = σ.length) (hv : ∀ i ∈ vs, adsAt Γ i = []) : Env K (patch Γ Γ' vs) σ F' H' := by
  have hΓ : Γ'.length = Γ.length := by rw [← E.len, ← E'.len]; exact hl
  refine ⟨E'.le, by rw [patch_len, ← E'.len]; exact hl.symm, fun i e q => ?_, fun i j a q r => E'.sep i j a (ads_patch hΓ hv q) (ads_patch hΓ hv r)⟩
  have hi : i < σ.length := by
    have := (List.getElem?_eq_some_iff.mp q).1
    rw [patch_len, ← E'.len, hl] at this
    exact this
  rcases patch_get hΓ q with ⟨h1, h2⟩ | ⟨h1, h2⟩
  · obtain ⟨o, ho, r⟩ := E.ent i e h2
    exact ⟨o, ho, r.up up (by rw [← adsAt_of h2]; exact hv i h1)⟩
  · obtain ⟨o, ho, r⟩ := E'.ent i e h2
    have z := congrArg (fun l : L2.St => l[i]?) hs
    have z : (wipe σ' vs)[i]? = (wipe σ vs)[i]? := z
    rw [wipe_at (by omega), wipe_at hi, if_neg h1, if_neg h1] at z
    exact ⟨o, by rw [← z]; exact ho, r⟩
theorem own_patch {Γ Γ' : DE} {vs : List Nat} {a : Addr} (hl : Γ'.length = Γ.length) (hv : ∀ i ∈ vs, adsAt Γ i = []) (h : Own (patch Γ Γ' vs) a) : Own Γ' a := by
  obtain ⟨i, q⟩ := h
  exact ⟨i, ads_patch hl hv q⟩
section
variable {X : Cx} {m : Md} {Γ Γ1 Γ2 Γ3 : DE} {e a b c tg iter elt : Expr} {ifs : List Expr} {pos p p2 : Pos} {nm : Str} {scope : Scope}
/-- the context of the comprehension's block -/
abbrev bk (X : Cx) (scope : Scope) (s : Shared) (H : Hp) (C : Addr) (cl : List (Str × Addr)) (fp : List Addr) : Cx := X.blk s H scope (compEnvC scope cl C X.env) fp
def teB (X : Cx) (scope : Scope) (e : Expr) : TE := fun σ H Q => ∀ s H0 C cl fp, wE (bk X scope s H0 C cl fp) e σ H Q
def tgB (X : Cx) (scope : Scope) (e : Expr) : TG := fun v σ H Q => ∀ s H0 C cl fp, wG (bk X scope s H0 C cl fp) e v σ H Q
def ttB (X : Cx) (scope : Scope) (c : Expr) : TT := fun σ H Q => ∀ s H0 C cl fp, wT (bk X scope s H0 C cl fp) c σ H Q
structure TtX (K : PySem.W.Frag) (tt : TT) (Γ : DE) (z : Bool) (Γ' : DE) : Prop where
  sub : ∀ a, Own Γ' a → Own Γ a
  run : ∀ σ F H (Q : Bool → Hp → Prop), Env K Γ σ F H → (∀ F' H', Env K Γ' σ F' H' → Step (Own Γ) F H F' H' → Q z H') → tt σ H Q
theorem ttx_yes {K : PySem.W.Frag} : TtX K tYes Γ true Γ := ⟨sub_refl, fun σ F H Q E q => q F H E Step.refl⟩
theorem ttx_one {z : Bool} (h : ∀ s H0 C cl fp, TX (bk X scope s H0 C cl fp) Γ c z Γ1) (hs : ∀ a, Own Γ1 a → Own Γ a) : TtX X.K (ttB X scope c) Γ z Γ1 :=
  ⟨hs, fun σ F H Q E q s H0 C cl fp => (h s H0 C cl fp).run σ F H Q E q⟩
theorem Env.other {K : PySem.W.Frag} {σ : L2.St} {F H : Hp} {d : Addr} {o : HO} (E : Env K Γ σ F H) (hF : F d = none) (hn : ¬ Own Γ d) : Env K Γ σ F (upd H d o) := by
  refine ⟨fun b x e => by rw [upd_ne (ne_of_none e hF)]; exact E.le _ _ e, E.len, fun i e q => ?_, E.sep⟩
  obtain ⟨w, ho, r⟩ := E.ent i e q
  exact ⟨w, ho, r.move (Same.refl _) (fun a m => upd_ne fun z => hn ⟨i, by rw [adsAt_of q, ← z]; exact m⟩) fun a m => (r.free m).1⟩
/-- what a list comprehension hands back, whatever becomes of it -/
structure LCX (X : Cx) (Γ : DE) (tg iter : Expr) (ifs : List Expr) (elt : Expr) (scope : Scope) {β : Type} [Rp β] (ys : List β) (Γ' : DE) : Prop where
  sub : ∀ a, Own Γ' a → Own Γ a
  hc : X.calm = true
  hN : X.N.Nodup
  hf : ∀ x, foldedSetIterable iter X.env x = pure x
  ex : ∃ (own : List (Str × Nat)) (tt : TT), BlkOk X.N X.env.scope scope own ∧ (∀ s H0 C cl fp, PTs (bk X scope s H0 C cl fp) ifs tt) ∧ ∀ σ F H (Q : VK), Env X.K Γ σ F H → (∀ v F' H', Env X.K Γ' σ F' H' → Step (Own Γ) F H F' H' → (nw β).ok X.K F H F' H' v ys → Q v H') → tLc (wI X tg iter) (tgB X scope tg) tt (teB X scope elt) (own.map (·.2)) σ H Q
theorem LCX.px {β : Type} [Rp β] {ys : List β} (h : LCX X Γ tg iter ifs elt scope ys Γ2) : PX X (nw β) Γ (.ListComp elt [⟨tg, iter, ifs, 0⟩] scope pos) ys Γ2 := by
  obtain ⟨own, tt, ok, ht, run⟩ := h.ex
  exact ⟨h.sub, fun σ F H Q E q => wE.of (pe_lc h.hc h.hN pI ok (g := tgB X scope tg) (te := teB X scope elt) (fun s H0 C cl fp => ⟨fun pins s2 σ H v u Q I r h => h s H0 C cl fp pins s2 u I r⟩) ht (fun s H0 C cl fp => ⟨fun pins s2 σ H Q I h => h s H0 C cl fp pins s2 I⟩) h.hf) (run σ F H Q E q)⟩
/-- y = [..]: the comprehension's list stands in y -/
theorem sd_setLc {m : Md} {D : Ax m} {rest : List Stmt} {β : Type} [Rp β] {ys : List β} {y : Str} {py spos : Pos} (i : Nat) (h : LCX X Γ tg iter ifs elt scope ys Γ2) (k : ∀ p, SD X m (Γ2.set i (.own p ys)) rest D) (hi : X.N[i]? = some y := by rfl) (hy : X.env.scope.names.lookup y = some .local := by rfl)
    (hsw : swapsWith (.ListComp elt [⟨tg, iter, ifs, 0⟩] scope pos) (some (.Name y py)) spos.line X.env = pure true := by exact sw_true rfl rfl rfl (by decide +kernel)) : SD X m Γ (.Assign [.Name y py] (.ListComp elt [⟨tg, iter, ifs, 0⟩] scope pos) spos :: rest) D := by
  obtain ⟨own, tt, ok, ht, run⟩ := h.ex
  refine sd_cons (N := fun Γ' => ∃ p, Γ' = Γ2.set i (.own p ys)) ?_ (fun _ ⟨p, z⟩ => z ▸ k p)
  intro σ F H D' E L
  refine wS1.of (ps_setLc (i := i) h.hc h.hN hi hy hsw pI ok (g := tgB X scope tg) (te := teB X scope elt) (fun s H0 C cl fp => ⟨fun pins s2 σ H v u Q I r h => h s H0 C cl fp pins s2 u I r⟩) ht (fun s H0 C cl fp => ⟨fun pins s2 σ H Q I h => h s H0 C cl fp pins s2 I⟩) h.hf) (run σ F H _ E fun v F' H' E' s ⟨p, vs, ev, hn, hF, t, r⟩ => ?_)
  have no : ¬ Own Γ2 p := fun z => Own.some (h.sub _ z) E hn
  refine L.nx _ _ F' H' ⟨p, rfl⟩ (E'.set_ent (e := .own p ys) ⟨v, rfl, fun a m => ?_, ev, vs, t, r⟩ fun a m j _ z => ?_) ⟨s, fun a q => ?_⟩
  · cases (List.mem_singleton.mp m); exact ⟨hF, by rw [t]; exact fun z => nomatch z⟩
  · cases (List.mem_singleton.mp m); exact no ⟨j, z⟩
  · rcases own_set_own q with rfl | q
    · exact .inr hn
    · exact .inl (h.sub a q)
theorem sd_setLcG {m : Md} {D : Ax m} {rest : List Stmt} {β : Type} [Rp β] {ys : List β} {y : Str} {py spos : Pos} (i : Nat) (h : LCX X Γ tg iter ifs elt scope ys Γ2) (k : SD X m (Γ2.set i (.is ys)) rest D) (hl : i < Γ2.length := by exact Nat.le_of_ble_eq_true rfl) (hi : X.N[i]? = some y := by rfl) (hy : X.env.scope.names.lookup y = some .local := by rfl)
    (hsw : swapsWith (.ListComp elt [⟨tg, iter, ifs, 0⟩] scope pos) (some (.Name y py)) spos.line X.env = pure true := by exact sw_true rfl rfl rfl (by decide +kernel)) : SD X m Γ (.Assign [.Name y py] (.ListComp elt [⟨tg, iter, ifs, 0⟩] scope pos) spos :: rest) D :=
  sd_setLc i h (fun p => sd_give i (by rw [List.set_set]; exact k) (by rw [List.getElem?_set_self hl])) hi hy hsw
theorem lcx_G {α β : Type} [Rp α] [Rp β] {xs : List α} {ys : List β} {tt : TT} (own : List (Str × Nat)) (hI : IX X Γ tg iter xs Γ1) (ok : BlkOk X.N X.env.scope scope own) (ht : ∀ s H0 C cl fp, PTs (bk X scope s H0 C cl fp) ifs tt)
    (I : Nat → List β → DE → Prop) (h0 : I 0 [] Γ1) (hsub : ∀ i acc Γ', I i acc Γ' → (∀ a, Own Γ' a → Own Γ1 a) ∧ ∀ j ∈ own.map (·.2), adsAt Γ' j = [])
    (hs : ∀ i x acc Γ', xs[i]? = some x → I i acc Γ' → ∃ ts Γ2, (∀ t ∈ ts, t ∈ own.map (·.2)) ∧ (∀ s H0 C cl fp, GX (bk X scope s H0 C cl fp) tg x ts (wipeD Γ' (own.map (·.2))) Γ2) ∧ ∃ z Γ3, TtX X.K tt Γ2 z Γ3 ∧
      if z = true then ∃ y Γ4, (∀ s H0 C cl fp, PX (bk X scope s H0 C cl fp) (sh β) Γ3 elt y Γ4) ∧ acc.length < sizeLine ∧ I (i + 1) (acc ++ [y]) (patch Γ' Γ4 (own.map (·.2))) else I (i + 1) acc (patch Γ' Γ3 (own.map (·.2))))
    (hd : ∀ acc Γ', I xs.length acc Γ' → acc = ys ∧ Γ' = Γ2) (hN : X.N.Nodup) (hs2 : ∀ a, Own Γ2 a → Own Γ1 a) (hc : X.calm = true := by rfl) (hf : ∀ x, foldedSetIterable iter X.env x = pure x := by intro _; rfl) :
    LCX X Γ tg iter ifs elt scope ys Γ2 := by
  refine ⟨fun a q => hI.sub a (hs2 a q), hc, hN, hf, own, tt, ok, ht, fun σ F H Q E q => ?_⟩
  refine hI.run σ F H _ E fun J F1 H1 E1 s1 W => fun D0 hD => ?_
  generalize hvs : own.map (·.2) = vs at *
  have nD : ¬ Own Γ1 D0 := fun z => Own.some z E1 hD
  refine ⟨fun i mm H' => mm = xs.length - i ∧ i ≤ xs.length ∧ ∃ acc Γ' F' ws, I i acc Γ' ∧ Env X.K Γ' σ F' H' ∧ Step (Own Γ) F H F' H' ∧ Same F1 F' ∧ H' D0 = some (.lst ws) ∧ F' D0 = none ∧ RpL X.K F' ws acc, ⟨xs.length, by simp, Nat.zero_le _, [], Γ1, F1, [], h0, E1.new hD, s1.sub (Step.new (O := Own Γ) hD) fun a q => q, Same.refl _, upd_same, E1.free hD, .nil⟩, ?_⟩
  rintro i mm H' ⟨rfl, hi, acc, Γ', F', ws, hi', E', t, up, hw, hFD, rw'⟩
  obtain ⟨sb, vb⟩ := hsub i acc Γ' hi'
  have nD' : ¬ Own Γ' D0 := fun z => nD (sb _ z)
  by_cases hlt : i < xs.length
  · refine .inr ⟨W.go i F' H' up E'.le hlt, fun H2 => ∃ acc Γ3 F3 ws, I (i + 1) acc Γ3 ∧ Env X.K Γ3 σ F3 H2 ∧ Step (Own Γ) F H F3 H2 ∧ Same F1 F3 ∧ H2 D0 = some (.lst ws) ∧ F3 D0 = none ∧ RpL X.K F3 ws acc, fun H2 ⟨acc, Γ3, F3, ws, h⟩ => ⟨xs.length - (i + 1), by omega, rfl, hlt, acc, Γ3, F3, ws, h⟩, fun v H2 y => ?_⟩
    obtain ⟨F2, s2, le2, r2⟩ := W.yld i F' H' v H2 xs[i] up E'.le (List.getElem?_eq_getElem hlt) y
    have E2 : Env X.K Γ' σ F2 H2 := E'.after0 s2 le2 fun _ z => z
    have hw2 : H2 D0 = some (.lst ws) := s2.keep _ _ hw fun z => z
    have hF2 : F2 D0 = none := by
      cases z : F2 D0 with
      | none => rfl
      | some o => rcases s2.fresh D0 hFD (by rw [z]; exact fun z => nomatch z) with z | z
                  · rw [hw] at z; cases z
                  · exact z.elim
    obtain ⟨ts, Γa, hts, g, z, Γb, T, body⟩ := hs i xs[i] acc Γ' (List.getElem?_eq_getElem hlt) hi'
    intro s0 H0 C cl fp
    refine (g s0 H0 C cl fp).run _ F2 H2 v _ (E2.wiped vs) r2 fun σ3 E3 ⟨hl3, ag⟩ => ⟨?_, ?_⟩
    · exact wipe_eq (by rw [hl3, wipe_length]) fun j hj => ag j fun q => hj (hts j q)
    have hw3 : wipe σ3 vs = wipe σ vs := wipe_eq (by rw [hl3, wipe_length]) fun j hj => ag j fun q => hj (hts j q)
    have hl4 : σ3.length = σ.length := by rw [hl3, wipe_length]
    have subA : ∀ a, Own Γa a → Own Γ' a := fun a q => own_wiped ((g s0 H0 C cl fp).sub a q)
    refine T.run σ3 F2 H2 _ E3 fun F4 H4 E4 s4 => ?_
    have nDa : ¬ Own Γa D0 := fun z => nD' (subA _ z)
    have subG : ∀ a, Own Γ' a → Own Γ a := fun a q => hI.sub a (sb a q)
    have hw4 : H4 D0 = some (.lst ws) := s4.keep _ _ hw2 nDa
    have hF4 : F4 D0 = none := by
      cases z : F4 D0 with
      | none => rfl
      | some o => rcases s4.fresh D0 hF2 (by rw [z]; exact fun z => nomatch z) with z | z
                  · rw [hw2] at z; cases z
                  · exact absurd z nDa
    have t4 : Step (Own Γ) F H F4 H4 := (t.sub s2 fun _ z => z.elim).sub s4 fun a q => subG a (subA a q)
    have up4 : Same F' F4 := s2.up.trans s4.up
    cases z with
    | false =>
      simp only [Bool.false_eq_true, if_false] at body ⊢
      exact ⟨acc, _, F4, ws, body, E'.back E4 up4 hw3 hl4 vb, t4, up.trans up4, hw4, hF4, rw'.mono up4⟩
    | true =>
      simp only [if_true] at body ⊢
      obtain ⟨yv, Γc, hy, hz, nx⟩ := body
      intro s5 H5 C5 cl5 fp5
      refine (hy s5 H5 C5 cl5 fp5).run σ3 F4 H4 _ E4 fun u F6 H6 E6 s6 r6 => ?_
      have nDb : ¬ Own Γb D0 := fun z => nDa (T.sub _ z)
      have hw6 : H6 D0 = some (.lst ws) := s6.keep _ _ hw4 nDb
      have hF6 : F6 D0 = none := by
        cases z : F6 D0 with
        | none => rfl
        | some o => rcases s6.fresh D0 hF4 (by rw [z]; exact fun z => nomatch z) with z | z
                    · rw [hw4] at z; cases z
                    · exact absurd z nDb
      have hnD : H D0 = none := s1.there _ hD
      have nDc : ¬ Own Γc D0 := fun z => nDb ((hy s5 H5 C5 cl5 fp5).sub _ z)
      have EB := E'.back E6 (up4.trans s6.up) hw3 hl4 vb
      have hlen : Γc.length = Γ'.length := by rw [← E6.len, hl4, E'.len]
      have nDp : ¬ Own (patch Γ' Γc vs) D0 := fun z => nDc (own_patch hlen vb z)
      have t6 : Step (Own Γ) F H F6 H6 := t4.sub s6 fun a q => subG a (subA a (T.sub a q))
      refine ⟨ws, hw6, by rw [rw'.length]; exact hz, acc ++ [yv], _, F6, ws ++ [u], nx, EB.other hF6 nDp, ⟨t6.up, fun p o e no => ?_, fun p e => ?_, t6.fresh⟩, (up.trans up4).trans s6.up, upd_same, hF6, (rw'.mono (up4.trans s6.up)).snoc r6⟩
      · rw [upd_ne (ne_of_none e hnD)]; exact t6.keep p o e no
      · by_cases q : p = D0
        · rw [q, upd_same] at e; cases e
        · rw [upd_ne q] at e; exact t6.there p e
  · have e : i = xs.length := by omega
    subst e
    obtain ⟨rfl, rfl⟩ := hd acc Γ' hi'
    exact .inl ⟨W.stop _ F' H' up E'.le (Nat.le_refl _), q _ F' H' E' t ⟨D0, ws, rfl, s1.there _ hD, hFD, hw, rw'⟩⟩
/-- [f x for x in xs] -/
theorem lcx {α β : Type} [Rp α] [Rp β] {xs : List α} {f : α → β} {Γt : α → DE} (own : List (Str × Nat)) (ts : List Nat) (hI : IX X Γ tg iter xs Γ1) (hN : X.N.Nodup) (hz : xs.length < sizeLine) (hg : ∀ x, x ∈ xs → ∀ s H0 C cl fp, GX (bk X scope s H0 C cl fp) tg x ts (wipeD Γ1 (own.map (·.2))) (Γt x))
    (he : ∀ x, x ∈ xs → ∀ s H0 C cl fp, PX (bk X scope s H0 C cl fp) (sh β) (Γt x) elt (f x) (Γt x)) (ok : BlkOk X.N X.env.scope scope own := by exact blkOk_by (by kernel_rfl)) (hp : ∀ x, patch Γ1 (Γt x) (own.map (·.2)) = Γ1 := by intro _; rfl)
    (hts : ∀ t ∈ ts, t ∈ own.map (·.2) := by decide) (hv : ((own.map (·.2)).all fun j => (adsAt Γ1 j).isEmpty) = true := by rfl) (hc : X.calm = true := by rfl) (hf : ∀ x, foldedSetIterable iter X.env x = pure x := by intro _; rfl) :
    LCX X Γ tg iter [] elt scope (xs.map f) Γ1 := by
  refine lcx_G own hI ok (fun s H0 C cl fp => pts_nil) (fun i acc Γ' => acc = (xs.take i).map f ∧ Γ' = Γ1) ⟨rfl, rfl⟩ (fun i acc Γ' ⟨_, e⟩ => by subst e; exact ⟨sub_refl, fun j hj => by simpa using List.all_eq_true.mp hv j hj⟩) (fun i x acc Γ' hx ⟨e1, e2⟩ => ?_) (fun acc Γ' ⟨e1, e2⟩ => ⟨by rw [e1, List.take_length], e2⟩) hN sub_refl hc hf
  subst e1 e2
  have hm := List.mem_of_getElem? hx
  refine ⟨ts, Γt x, hts, hg x hm, true, Γt x, ttx_yes, ?_⟩
  rw [if_pos rfl]
  refine ⟨f x, Γt x, he x hm, ?_, ?_, hp x⟩
  · rw [List.length_map, List.length_take]; omega
  · rw [List.take_add_one, hx, List.map_append]; rfl
theorem px_lc {α β : Type} [Rp α] [Rp β] {xs : List α} {f : α → β} {Γt : α → DE} (own : List (Str × Nat)) (ts : List Nat) (hI : IX X Γ tg iter xs Γ1) (hN : X.N.Nodup) (hz : xs.length < sizeLine) (hg : ∀ x, x ∈ xs → ∀ s H0 C cl fp, GX (bk X scope s H0 C cl fp) tg x ts (wipeD Γ1 (own.map (·.2))) (Γt x))
    (he : ∀ x, x ∈ xs → ∀ s H0 C cl fp, PX (bk X scope s H0 C cl fp) (sh β) (Γt x) elt (f x) (Γt x)) (ok : BlkOk X.N X.env.scope scope own := by exact blkOk_by (by kernel_rfl)) (hp : ∀ x, patch Γ1 (Γt x) (own.map (·.2)) = Γ1 := by intro _; rfl)
    (hts : ∀ t ∈ ts, t ∈ own.map (·.2) := by decide) (hv : ((own.map (·.2)).all fun j => (adsAt Γ1 j).isEmpty) = true := by rfl) (hc : X.calm = true := by rfl) (hf : ∀ x, foldedSetIterable iter X.env x = pure x := by intro _; rfl) :
    PX X (nw β) Γ (.ListComp elt [⟨tg, iter, [], 0⟩] scope pos) (xs.map f) Γ1 :=
  (lcx own ts hI hN hz hg he ok hp hts hv hc hf).px
/-- [f x for x in xs if c x] -/
theorem lcx_If {α β : Type} [Rp α] [Rp β] {xs : List α} {f : α → β} {k : α → Bool} {Γt : α → DE} (own : List (Str × Nat)) (ts : List Nat) (hI : IX X Γ tg iter xs Γ1) (hN : X.N.Nodup) (hz : xs.length < sizeLine) (hg : ∀ x, x ∈ xs → ∀ s H0 C cl fp, GX (bk X scope s H0 C cl fp) tg x ts (wipeD Γ1 (own.map (·.2))) (Γt x))
    (ht : ∀ x, x ∈ xs → ∀ s H0 C cl fp, TX (bk X scope s H0 C cl fp) (Γt x) c (k x) (Γt x))
    (he : ∀ x, x ∈ xs → k x = true → ∀ s H0 C cl fp, PX (bk X scope s H0 C cl fp) (sh β) (Γt x) elt (f x) (Γt x)) (ok : BlkOk X.N X.env.scope scope own := by exact blkOk_by (by kernel_rfl)) (hp : ∀ x, patch Γ1 (Γt x) (own.map (·.2)) = Γ1 := by intro _; rfl)
    (hts : ∀ t ∈ ts, t ∈ own.map (·.2) := by decide) (hv : ((own.map (·.2)).all fun j => (adsAt Γ1 j).isEmpty) = true := by rfl) (hc : X.calm = true := by rfl) (hf : ∀ x, foldedSetIterable iter X.env x = pure x := by intro _; rfl) :
    LCX X Γ tg iter [c] elt scope ((xs.filter k).map f) Γ1 := by
  refine lcx_G own hI ok (tt := ttB X scope c) (fun s H0 C cl fp => pts_one ⟨fun pins s2 σ H Q I h => h s H0 C cl fp pins s2 I⟩) (fun i acc Γ' => acc = ((xs.take i).filter k).map f ∧ Γ' = Γ1) ⟨rfl, rfl⟩ (fun i acc Γ' ⟨_, e⟩ => by subst e; exact ⟨sub_refl, fun j hj => by simpa using List.all_eq_true.mp hv j hj⟩) (fun i x acc Γ' hx ⟨e1, e2⟩ => ?_) (fun acc Γ' ⟨e1, e2⟩ => ⟨by rw [e1, List.take_length], e2⟩) hN sub_refl hc hf
  subst e1 e2
  have hm := List.mem_of_getElem? hx
  refine ⟨ts, Γt x, hts, hg x hm, k x, Γt x, ttx_one (ht x hm) sub_refl, ?_⟩
  have e3 : xs.take (i + 1) = xs.take i ++ [x] := by rw [List.take_add_one, hx]; rfl
  by_cases hk : k x = true
  · rw [if_pos hk]
    refine ⟨f x, Γt x, he x hm hk, ?_, ?_, hp x⟩
    · have := List.length_filter_le k (xs.take i)
      rw [List.length_take] at this
      rw [List.length_map]; omega
    · rw [e3, List.filter_append, List.map_append, List.filter_cons, if_pos hk]; rfl
  · rw [if_neg hk]
    refine ⟨?_, hp x⟩
    rw [e3, List.filter_append, List.map_append, List.filter_cons, if_neg hk]; simp
theorem px_lcIf {α β : Type} [Rp α] [Rp β] {xs : List α} {f : α → β} {k : α → Bool} {Γt : α → DE} (own : List (Str × Nat)) (ts : List Nat) (hI : IX X Γ tg iter xs Γ1) (hN : X.N.Nodup) (hz : xs.length < sizeLine) (hg : ∀ x, x ∈ xs → ∀ s H0 C cl fp, GX (bk X scope s H0 C cl fp) tg x ts (wipeD Γ1 (own.map (·.2))) (Γt x))
    (ht : ∀ x, x ∈ xs → ∀ s H0 C cl fp, TX (bk X scope s H0 C cl fp) (Γt x) c (k x) (Γt x))
    (he : ∀ x, x ∈ xs → k x = true → ∀ s H0 C cl fp, PX (bk X scope s H0 C cl fp) (sh β) (Γt x) elt (f x) (Γt x)) (ok : BlkOk X.N X.env.scope scope own := by exact blkOk_by (by kernel_rfl)) (hp : ∀ x, patch Γ1 (Γt x) (own.map (·.2)) = Γ1 := by intro _; rfl)
    (hts : ∀ t ∈ ts, t ∈ own.map (·.2) := by decide) (hv : ((own.map (·.2)).all fun j => (adsAt Γ1 j).isEmpty) = true := by rfl) (hc : X.calm = true := by rfl) (hf : ∀ x, foldedSetIterable iter X.env x = pure x := by intro _; rfl) :
    PX X (nw β) Γ (.ListComp elt [⟨tg, iter, [c], 0⟩] scope pos) ((xs.filter k).map f) Γ1 :=
  (lcx_If own ts hI hN hz hg ht he ok hp hts hv hc hf).px
end
end G
namespace G
open PySem PySem.Spec PyProof.Rows L2
open Rp (rp)
structure DefAt (K : PySem.W.Frag) (mg : Str → Option Value) (x : Str) (st : Stmt) (dvs : List V) (kws : List (Str × V)) : Prop where
  df : ∃ fd, FunD K x x (defArgs st) (defBody st) (defScope st) dvs kws (He.ga K x) fd
  gl : mg x = some (.ref (He.ga K x))
/-- a def that may be called by its name -/
def Can (P : Program) (w : World) (K : PySem.W.Frag) (mg : Str → Option Value) (base : Heap) (CX : CXT) (k : Nat) (x : Str) (ps : List Str) (dvs : List V) (sp : Sp) : Prop :=
  ∃ (f : Addr) (fd : FuncData) (ds : List Value), mg x = some (.ref f) ∧ FnOk P w K mg base CX k f fd ps sp ∧ Binds K fd ps ds ∧ Vals dvs ds ∧ PySem.W.keepIn K (.ref f) = true ∧ ∃ oc od osl, K.lookup f = some ⟨oc, od, .func fd, osl⟩
/-- how the arguments come to the parameters, without defaults -/
def Plain (st : Stmt) (x : Str) (ps : List Str) : Prop := ∀ (kV doc pm : Value) (an : Option Addr) (cdv ct : Value) (us : List Value), us.length = ps.length → bindArgs (PySem.W.fnOf x x (defArgs st) (defBody st) (defScope st) .none kV doc pm an cdv ct) ⟨us, []⟩ = pure (ps.zip us)
section
variable {P : Program} {w : World} {K : PySem.W.Frag} {mg : Str → Option Value} {base : Heap} {x : Str} {sst : Stmt} {N ps : List Str} {k : Nat} {m : Md} {R : DE → m.β → DE → Prop}
abbrev cxN (P : Program) (w : World) (K : PySem.W.Frag) (mg : Str → Option Value) (base : Heap) (N : List Str) (x : Str) (sst : Stmt) (f : Addr) (cdv : Value) (A : Around) (outer : List PySem.Env) (s : Shared) (H : Hp) (E : XK) : Cx := (cxOf CX0 P w K mg base N x (defScope sst) f cdv A outer s H E).nox
/-- what is wanted at a def's end -/
@[reducible] def axD (m : Md) (K : PySem.W.Frag) (x : m.β) (Γ Γ' : DE) : Ax m := { nx := fun Γ'' => (∀ F H F' H', m.ok K F H F' H' .non x) ∧ Fin Γ Γ' Γ'', rt := fun y Γ'' => y = x ∧ Fin Γ Γ' Γ'' }
theorem fnD {dvs : List V} {kws : List (Str × V)} {fd : FuncData} {qual : Str} {f : Addr} (F : FunD K x qual (defArgs sst) (defBody sst) (defScope sst) dvs kws f fd) (S : FnScope N ps (defScope sst))
    (hbody : ∀ (cdv : Value) (A : Around) (outer : List PySem.Env) (s : Shared) (H : Hp) (E : XK) (Γ : DE) (x : m.β) (Γ' : DE), Room k (A.deeper (envOfC qual (defScope sst) s.heap.objs.size f cdv)) → R Γ x Γ' →
      SD (cxOf CX0 P w K mg base N qual (defScope sst) f cdv A outer s H E).nox m (Γ ++ List.replicate (N.length - Γ.length) .no) (defBody sst) (axD m K x Γ Γ')) :
    FnOk P w K mg base CX0 (k + 1) f fd ps (spM K m ps.length R) := by
  refine F.ok S (fun vs H Q E h => h.1) (fun cdv A outer s H vs Q E hr h => ⟨wS _ _, PSs.nox pS, ?_⟩)
  obtain ⟨hl, F0, Γ, y, Γ', hR, E0, q⟩ := h
  have hΓ : Γ.length = ps.length := by rw [← hl]; simpa using E0.len.symm
  refine hbody cdv A outer s H E Γ y Γ' hr hR (L2.start N vs) F0 H _ (start_env E0) ⟨fun Γ'' σ' F' H' h E' t => ?_, fun z Γ'' σ' F' H' v h E' t r => ?_, fun _ _ _ _ h => h.elim, fun _ _ _ _ h => h.elim⟩
  · exact q .non F' H' (h.2.env E0 E' t.st.up) (Step.refl.trans t.st fun p z => .inl (own_start z)) (h.1 _ _ _ _)
  · obtain ⟨rfl, h2⟩ := h
    exact q v F' H' (h2.env E0 E' t.st.up) (Step.refl.trans t.st fun p z => .inl (own_start z)) r
theorem fun_lk {x2 qual : Str} {params : Arguments} {body : List Stmt} {scope : Scope} {dvs : List V} {kws : List (Str × V)} {f : Addr} {fd : FuncData} (F : FunD K x2 qual params body scope dvs kws f fd) : ∃ oc od osl, K.lookup f = some ⟨oc, od, .func fd, osl⟩ := by
  obtain ⟨oc, od, dV, kV, doc, pm, an, cdv, ct, osl, rfl, lk, _⟩ := F.ex
  exact ⟨oc, od, osl, lk⟩
/-- THE RULE: a def without defaults -/
theorem canD (T : DefAt K mg x sst [] []) (S : FnScope N ps (defScope sst)) (b : Plain sst x ps)
    (hbody : ∀ (cdv : Value) (A : Around) (outer : List PySem.Env) (s : Shared) (H : Hp) (E : XK) (Γ : DE) (y : m.β) (Γ' : DE), Room k (A.deeper (envOfC x (defScope sst) s.heap.objs.size (He.ga K x) cdv)) → R Γ y Γ' →
      SD (cxN P w K mg base N x sst (He.ga K x) cdv A outer s H E) m (Γ ++ List.replicate (N.length - Γ.length) .no) (defBody sst) (axD m K y Γ Γ')) :
    Can P w K mg base CX0 (k + 1) x ps [] (spM K m ps.length R) := by
  obtain ⟨fd, F⟩ := T.df
  have lk := fun_lk F
  exact ⟨_, fd, [], T.gl, fnD F S hbody, F.bindsN b, .nil, F.kp, lk⟩
/-- .. with defaults at the end -/
theorem canD1 {dvs : List V} (n j : Nat) (T : DefAt K mg x sst dvs []) (S : FnScope N ps (defScope sst)) (hd : dvs ≠ []) (hn : n + (dvs.length - j) = ps.length)
    (b : ∀ (T : Addr) (kV doc pm : Value) (an : Option Addr) (cdv ct : Value) (us its : List Value), us.length = n → its.length = dvs.length →
      ∃ k, bindArgs (PySem.W.fnOf x x (defArgs sst) (defBody sst) (defScope sst) (.ref T) kV doc pm an cdv ct) ⟨us, []⟩ = seqItems? (.ref T) >>= k ∧ k (some its.toArray) = pure (ps.zip (us ++ its.drop j)))
    (hbody : ∀ (cdv : Value) (A : Around) (outer : List PySem.Env) (s : Shared) (H : Hp) (E : XK) (Γ : DE) (y : m.β) (Γ' : DE), Room k (A.deeper (envOfC x (defScope sst) s.heap.objs.size (He.ga K x) cdv)) → R Γ y Γ' →
      SD (cxN P w K mg base N x sst (He.ga K x) cdv A outer s H E) m (Γ ++ List.replicate (N.length - Γ.length) .no) (defBody sst) (axD m K y Γ Γ')) :
    Can P w K mg base CX0 (k + 1) x ps (dvs.drop j) (spM K m ps.length R) := by
  obtain ⟨fd, F⟩ := T.df
  obtain ⟨ds, hv, hb⟩ := F.binds1 n j hd hn b
  exact ⟨_, fd, ds, T.gl, fnD F S hbody, hb, hv, F.kp, fun_lk F⟩
theorem Can.mono {CX : CXT} {j k : Nat} {dvs : List V} {sp : Sp} (C : Can P w K mg base CX j x ps dvs sp) (h : j ≤ k) : Can P w K mg base CX k x ps dvs sp := by
  obtain ⟨f, fd, ds, g, F, b, v, kp, lk⟩ := C
  exact ⟨f, fd, ds, g, F.mono h, b, v, kp, lk⟩
theorem Can.imp {CX : CXT} {dvs : List V} {sp sp' : Sp} (C : Can P w K mg base CX k x ps dvs sp) (h : ∀ vs H Q E, sp' vs H Q E → sp vs H Q E) : Can P w K mg base CX k x ps dvs sp' := by
  obtain ⟨f, fd, ds, g, F, b, v, kp, lk⟩ := C
  exact ⟨f, fd, ds, g, F.imp h, b, v, kp, lk⟩
end
section
variable {X : Cx} {Γ Γ1 : DE} {e : Expr} {es : List Expr} {pos p : Pos} {nm : Str}
theorem px_c {k : Nat} {ps : List Str} {dvs : List V} {dents ents : DE} {m1 : Md} {R : DE → m1.β → DE → Prop} {x : m1.β} {Γc : DE} 
    (C : Can X.prog X.w X.K X.mg X.base CX0 k nm ps dvs (spM X.K m1 ps.length R)) (hr : Room k X.A) (ha : AX X Γ (e :: es) ents Γ1) (hR : R (ents ++ dents) x Γc) (hdo : DefOk X.K dvs dents) (hn : (ents ++ dents).length = ps.length := by rfl)
    (hi : IsOnly (ents ++ dents) := by rfl) (hg : Gl X nm := by rfl)
    (hdb : (nm == ("__debug__" : Str)) = false := by decide) (he : starEach (e :: es) X.env = (false, eval e X.env) :: starEach es X.env := by rfl) (hpl : (backTo pos (starEach es X.env)).any (·.1) = false := by rfl) :
    PX X m1 Γ (.Call (.Name nm p) (e :: es) [] pos) x Γ1 := by
  obtain ⟨f, fd, ds, g, F, b, v, kp, lk⟩ := C
  exact px_call F hr g kp b v hdo pass0 ha hR hn hi hg hdb he hpl
theorem px_cO {k : Nat} {ps : List Str} {dvs : List V} {dents ents : DE} {m1 : Md} {R : DE → m1.β → DE → Prop} {x : m1.β} {Γc : DE} {α : Type} [Rp α] {ad : Addr} {xs ys : List α} (i : Nat)
    (C : Can X.prog X.w X.K X.mg X.base CX0 k nm ps dvs (spM X.K m1 ps.length R)) (hr : Room k X.A) (ha : AX X Γ (e :: es) (.own ad xs :: ents) Γ1) (h1 : Γ1[i]? = some (.own ad xs)) (hR : R (.own ad xs :: ents ++ dents) x (.own ad ys :: Γc)) (hdo : DefOk X.K dvs dents) (hn : (Ent.own ad xs :: ents ++ dents).length = ps.length := by rfl)
    (hi : IsOnly (ents ++ dents) := by rfl) (hg : Gl X nm := by rfl)
    (hdb : (nm == ("__debug__" : Str)) = false := by decide) (he : starEach (e :: es) X.env = (false, eval e X.env) :: starEach es X.env := by rfl) (hpl : (backTo pos (starEach es X.env)).any (·.1) = false := by rfl) :
    PX X m1 Γ (.Call (.Name nm p) (e :: es) [] pos) x (Γ1.set i (.own ad ys)) := by
  obtain ⟨f, fd, ds, g, F, b, v, kp, lk⟩ := C
  exact px_callO i F hr g kp b v hdo pass0 ha h1 hR hn hi hg hdb he hpl
end
section
variable {X : Cx} {Γ Γ1 Γ2 : DE} {e a b : Expr} {pos p p2 : Pos} {nm : Str}
/-- list(range(a, b)) -/
theorem px_listR2 {n k : Int} (hl : X.mg "list" = none) (hm : X.mg "range" = none) (h : PX X (sh Int) Γ a n Γ1) (h' : PX X (sh Int) Γ1 b k Γ2) (ok : RgOk n k)
    (hp : X.mg "list" = none → X.mg "range" = none → PE X (.Call (.Name "list" p) [.Call (.Name "range" p2) [a, b] [] pos] [] pos2) (tLstRg (tRg2 (wE X a) (wE X b))) := by intro hl hm; exact pe_listRg rfl rfl hl (prg_2 rfl hm pE pE)) :
    PX X (nw Int) Γ (.Call (.Name "list" p) [.Call (.Name "range" p2) [a, b] [] pos] [] pos2) (rng n (k - n).toNat) Γ2 :=
  ⟨fun p q => h.sub p (h'.sub p q), fun σ F H Q E q => wE.of (hp hl hm) (h.run σ F H _ E fun v F1 H1 E1 s1 r1 => h'.run σ F1 H1 _ E1 fun w F2 H2 E2 s2 r2 => ⟨n, k, r1, r2, ok, fun q2 hq => q _ F2 _ (E2.new hq) ((s1.sub s2 h.sub).sub (Step.new (O := Own Γ) hq) fun a z => z) ⟨q2, _, rfl, s1.there _ (s2.there _ hq), E2.free hq, upd_same, by
    unfold rng
    have go : ∀ l : List Nat, RpL X.K F2 (l.map fun i => V.int (n + (i : Nat))) (l.map fun (i : Nat) => n + (i : Int)) := fun l => by
      induction l with
      | nil => exact .nil
      | cons i r ih => exact .cons rfl ih
    exact go _⟩⟩)⟩
theorem px_isiI {T : String} {z : Bool} {n : Int} (hm : X.mg "isinstance" = none) (h : PX X (sh Int) Γ a n Γ1) (hb : PX X (sh V) Γ1 b (V.ty T) Γ1) (hk : kitB "int" T = some z)
    (hp : X.mg "isinstance" = none → ∀ {r : List V → Hp → VK → Prop} {t : TA}, CallR X (.builtin "isinstance") r → PA X [a, b] t → PE X (.Call (.Name "isinstance" p) [a, b] [] pos) (tCB r t) := by intro hm r t h1 h2; exact pe_callB h1 (by rfl) hm (by decide +kernel) h2) (ha : PA X [a, b] (tCons (wE X a) (tCons (wE X b) tNil)) := by exact pa_cons pE (pa_cons pE pa_nil)) :
    PX X (sh Bool) Γ (.Call (.Name "isinstance" p) [a, b] [] pos) z Γ1 :=
  px_isi (m1 := sh Int) hm h hb (.ty T) (kit_ty hk) (fun F0 H0 F H v F2 H2 r s le => by rw [show v = V.int n from r]; exact .base (.int n)) hp ha
end
structure KX (X : Cx) (Γ : DE) (kws : List Keyword) (ents : DE) (Γ' : DE) : Prop where
  sub : ∀ a, Own Γ' a → Own Γ a
  run : ∃ t : TA, PK X kws t ∧ ∀ σ F H (Q : List V → Hp → Prop), Env X.K Γ σ F H → (∀ vs F' H', Env X.K Γ' σ F' H' → Step (Own Γ) F H F' H' → EntsOk X.K F' H' vs ents → Q vs H') → t σ H Q
section
variable {X : Cx} {Γ Γ1 Γ2 : DE} {e a b : Expr} {pos p p2 kpos : Pos} {nm : Str} {kws : List Keyword} {on : Option Str}
end
end G
namespace G
open PySem PySem.Spec PyProof.Rows L2
open Rp (rp)
theorem rpl_ints {K : PySem.W.Frag} {F : Hp} : ∀ ns : List Int, RpL K F (ns.map V.int) ns
  | [] => .nil
  | _ :: r => .cons rfl (rpl_ints r)
theorem hsp_law {K : PySem.W.Frag} {R : DE → Bool → DE → Prop} (hR : ∀ xs : Scr Int, xs.l.length ≤ 63 → R [.is xs] true [.is xs]) (H : Hp) (a : Addr) (ns : List Int) (hl : ns.length ≤ 63) (hS : SqL K H a (ns.map V.int)) :
    spM K (sh Bool) 1 R [.ref a] H (fun v _ => v = .bl true) fun _ _ _ => False := by
  refine ⟨rfl, H, _, true, _, hR ⟨ns⟩ hl, ⟨Same.refl _, rfl, fun i e q => ?_, fun i j b q r => ?_⟩, fun v F' H' _ _ r => r⟩
  · cases i with
    | zero =>
      cases q
      exact ⟨_, rfl, _, rfl, a, _, rfl, hS, rpl_ints ns⟩
    | succ i => simp at q
  · cases i with
    | zero => cases q
    | succ i => exact absurd (show b ∈ adsAt [] i from q) ads_nil
theorem fn_law {P : Program} {w : World} {K : PySem.W.Frag} {mg : Str → Option Value} {base : Heap} {k : Nat} {x : Str} {ps : List Str} {sp : Sp} {f : Addr} {fd : FuncData} {x2 qual : Str} {params : Arguments} {body : List Stmt} {scope : Scope} {dvs : List V} {kws : List (Str × V)} (g : mg x = some (.ref f)) (F : FunD K x2 qual params body scope dvs kws f fd)
    (C : Can P w K mg base CX0 k x ps [] sp) : FnOk P w K mg base CX0 k f fd ps sp := by
  obtain ⟨f', fd', ds, g', Ff, _, _, _, oc, od, osl, lk⟩ := C
  rw [g] at g'
  cases g'
  obtain ⟨oc2, od2, osl2, lk2⟩ := fun_lk F
  rw [lk] at lk2
  cases lk2
  exact Ff
end G
namespace G
open PySem PySem.Spec PyProof.Rows L2
/-- the texts of a list, each once -/
def once : List Str → List Str → List Str
  | acc, [] => acc
  | acc, x :: r => once (if acc.any (· == x) then acc else acc ++ [x]) r
def onceOf (xs : List Str) (i : Nat) : List Str := once [] (xs.take i)
theorem once_app : ∀ (a xs : List Str) (x : Str), once a (xs ++ [x]) = if (once a xs).any (· == x) then once a xs else once a xs ++ [x]
  | a, [], x => rfl
  | a, y :: r, x => once_app _ r x
theorem onceOf_next {xs : List Str} {i : Nat} (hi : i < xs.length) : onceOf xs (i + 1) = if (onceOf xs i).any (· == xs.getD i Str.empty) then onceOf xs i else onceOf xs i ++ [xs.getD i Str.empty] := by
  unfold onceOf
  rw [List.take_add_one, List.getElem?_eq_getElem hi, Option.toList_some, once_app]
  simp [List.getD_eq_getElem?_getD, List.getElem?_eq_getElem hi]
theorem onceOf_len {xs : List Str} : ∀ {i : Nat}, i ≤ xs.length → (onceOf xs i).length ≤ i
  | 0, _ => by simp [onceOf, once]
  | i + 1, h => by
    have ih := onceOf_len (xs := xs) (i := i) (by omega)
    rw [onceOf_next (by omega)]
    split
    · omega
    · simp; omega
theorem onceOf_mem {xs : List Str} : ∀ {i : Nat}, i ≤ xs.length → ∀ y, y ∈ onceOf xs i ↔ y ∈ xs.take i
  | 0, _, y => by simp [onceOf, once]
  | i + 1, h, y => by
    have ih := onceOf_mem (xs := xs) (i := i) (by omega)
    rw [onceOf_next (by omega), List.take_add_one, List.getElem?_eq_getElem (show i < xs.length by omega), Option.toList_some]
    have e : xs.getD i Str.empty = xs[i] := by simp [List.getD_eq_getElem?_getD, List.getElem?_eq_getElem (show i < xs.length by omega)]
    rw [e]
    split
    · rename_i q
      obtain ⟨z, hz, ez⟩ := List.any_eq_true.mp q
      have ez : z = xs[i] := by simpa using ez
      rw [List.mem_append, ih y]
      constructor
      · exact .inl
      · rintro (z | z)
        · exact z
        · rw [List.mem_singleton.mp z, ← ez]; exact (ih _).mp hz
    · rw [List.mem_append, List.mem_append, ih y]
theorem onceOf_full {xs : List Str} : ∀ {i : Nat}, i ≤ xs.length → ((onceOf xs i).length = i ↔ (xs.take i).Nodup)
  | 0, _ => by simp [onceOf, once]
  | i + 1, h => by
    have hi : i < xs.length := by omega
    have ih := onceOf_full (xs := xs) (i := i) (by omega)
    have le := onceOf_len (xs := xs) (i := i) (by omega)
    have e : xs.getD i Str.empty = xs[i] := by simp [List.getD_eq_getElem?_getD, List.getElem?_eq_getElem hi]
    rw [onceOf_next hi, e, List.take_add_one, List.getElem?_eq_getElem hi, Option.toList_some]
    have q : (onceOf xs i).any (· == xs[i]) = true ↔ xs[i] ∈ xs.take i := by
      rw [← onceOf_mem (by omega)]
      simp [List.any_eq_true]
    by_cases m : xs[i] ∈ xs.take i
    · rw [if_pos (q.mpr m)]
      constructor
      · intro z; omega
      · intro z
        have := List.nodup_append.mp z
        exact absurd rfl (this.2.2 _ m _ List.mem_cons_self)
    · rw [if_neg (fun z => m (q.mp z))]
      rw [List.length_append, List.length_singleton, List.nodup_append]
      constructor
      · intro z
        exact ⟨ih.mp (by omega), by simp, fun a ha b hb e => m (by rw [List.mem_singleton.mp hb] at e; exact e ▸ ha)⟩
      · intro z
        have := ih.mpr z.1
        omega
theorem onceOf_all {xs : List Str} : (onceOf xs xs.length).length = xs.length ↔ xs.Nodup := by
  have := onceOf_full (xs := xs) (Nat.le_refl _)
  rwa [List.take_length] at this
/-- how many unlike ones -/
def unlike (xs : List Str) : Nat := (onceOf xs xs.length).length
theorem unlike_le {xs : List Str} : unlike xs ≤ xs.length := onceOf_len (Nat.le_refl _)
theorem unlike_eq {xs : List Str} : unlike xs = xs.length ↔ xs.Nodup := onceOf_all
section
variable {prog : Program} {w : World} {A : Around}
abbrev SetTx (prog : Program) (w : World) (h : Heap) (S : Addr) (l : List Str) : Prop := h.SetOf (PySem.strKind prog w) S (fun k => l.any (· == k)) l.length
theorem setTx_add {h : Heap} {S : Addr} {l : List Str} {x : Str} (q : h.SetOf (PySem.strKind prog w) S (fun k => l.any (· == k) || decide (k = x)) (if l.any (· == x) then l.length else l.length + 1)) :
    SetTx prog w h S (if l.any (· == x) then l else l ++ [x]) := by
  refine SetOf_congr q (fun k => ?_) ?_ <;> by_cases z : l.any (· == x) = true
  · rw [if_pos z]
    by_cases e : k = x
    · subst e; rw [z]; rfl
    · rw [decide_eq_false e, Bool.or_false]
  · rw [if_neg z, List.any_append]
    by_cases e : k = x
    · subst e; simp
    · have : (x == k) = false := beq_eq_false_iff_ne.mpr fun z => e z.symm
      simp [this, e]
  · rw [if_pos z, if_pos z]
  · rw [if_neg z, if_neg z, List.length_append]; rfl
/-- the loop that puts them in -/
theorem set_turns {R : Result → Shared → Prop} {I S : Addr} {fp wr : List Addr} {Gg : Array GenState → Array GenState → Prop} {n : Nat} {P : Nat → Value → Prop} {St : Nat → Shared → Prop} {xs : List Str}
    (W : WalksS prog w A.in1 I fp wr Gg n P St) (nS : S ∉ fp) (hn : xs.length = n) (hb : n + 1 < scanBound) (hv : ∀ i v, P i v → ∃ t, v = .str (xs.getD i Str.empty) t) : ∀ (left i : Nat) (s : Shared), i + left = n → St i s → SetTx prog w s.heap S (onceOf xs i) →
      (∀ s2, Moved (S :: wr) Gg s s2 → SetTx prog w s2.heap S (onceOf xs n) → R (.ok (.ret .none)) s2) → codeAny (model prog w) A (.builtin "set.update.loop" ⟨[.ref S, .ref I], []⟩) R s
  | 0, i, s, hk, st, hS, k => by
    obtain rfl : i = n := hk
    refine codeAny_builtin (PyProof.Rows.F.entry_set_update_loop) ?_
    rw [Around.under_plainId (PyProof.Rows.F.plain_set_update_loop) _]
    refine wpAny_bind (m := pyNext (.ref I)) (W.done s _ _ st fun s2 mv => wpAny_pure (k s2 (mv.mono fun b z => .tail _ z) ?_))
    obtain ⟨o, es, ep, t, h1, h2⟩ := hS
    exact ⟨o, es, ep, t, mv.heap S _ (fun z => nS (W.sub _ z)) h1, h2⟩
  | left + 1, i, s, hk, st, hS, k => by
    have lt : i < n := by omega
    refine codeAny_builtin (PyProof.Rows.F.entry_set_update_loop) ?_
    rw [Around.under_plainId (PyProof.Rows.F.plain_set_update_loop) _]
    refine wpAny_bind (m := pyNext (.ref I)) (W.item i s _ _ lt st fun v s2 hP st2 mv => ?_)
    obtain ⟨t, rfl⟩ := hv i v hP
    have h2 : SetTx prog w s2.heap S (onceOf xs i) := by
      obtain ⟨o, es, ep, t, h1, h2⟩ := hS
      exact ⟨o, es, ep, t, mv.heap S _ (fun z => nS (W.sub _ z)) h1, h2⟩
    have room : (onceOf xs i).length + 1 < scanBound := by
      have := onceOf_len (xs := xs) (i := i) (by omega)
      omega
    refine wpAny_bind (m := holding [Value.str (xs.getD i Str.empty) t] (setAdd S (.str (xs.getD i Str.empty) t))) (wpAny_holding ?_)
    unfold setAdd
    refine wpAny_holding (wpAny_bind ((PySem.strKind prog w).pyHash (k := xs.getD i Str.empty) (strKind_is _ _ _ _) ?_))
    refine wpAny_setAddHashed_of (knd := PySem.strKind prog w) (s := { s2 with toks := s2.toks + 1 }) (strKind_is _ _ _ _) rfl h2 room fun h3 same h4 => ?_
    have h5 : SetTx prog w h3 S (onceOf xs (i + 1)) := by rw [onceOf_next (by omega)]; exact setTx_add h4
    have other : ∀ b, b ≠ S → h3.get? b = s2.heap.get? b := same.2
    refine wpAny_pure ⟨plainId_quiet (PyProof.Rows.F.plain_set_update_loop) _, set_turns W nS hn hb hv left (i + 1) _ (by omega) (W.frame _ s2 _ _ st2 (Nat.le_succ _) fun b z o e => by
      rw [other b fun q => nS (q ▸ z)]; exact e) h5 fun s3 mv3 h6 => ?_⟩
    refine k s3 (Moved.trans W.gtrans ((mv.mono fun b z => .tail _ z).then_heap (Nat.le_succ _) fun b o z e => ?_) mv3) h6
    rw [other b fun q => z (q ▸ List.mem_cons_self)]; exact e
end
section
variable {prog : Program} {w : World} {A : Around} {E : Value → Shared → Prop} {s : Shared}
/-- the object that set() lays -/
abbrev noSet (led : Bool) : Obj := ⟨.type "set", none, .set #[] 0 (.fresh 0 0 led), #[]⟩
/-- a list's walk -/
abbrev LW (prog : Program) (w : World) (A : Around) (I l : Addr) (items : Array Value) : Prop := WalksS prog w A I [I, l] [I] (fun a b => b = a) items.size (fun i v => items[i]? = some v) (fun i (s : Shared) => s.heap.IsListIter I l i ∧ s.heap.IsList l items)
set_option maxHeartbeats 3200000 in
/-- set(l): its loop is told apart -/
theorem set_of_list {l : Addr} {items : Array Value} {Fin : Heap → Prop} {Q : Value → Shared → Prop} (hh : A.handled = none) (hl : s.heap.IsList l items)
    (loop : ∀ (I0 : Addr) (s0 : Shared) (R : Result → Shared → Prop), LW prog w A.in1.in1.in1 I0 l items → s.heap.objs.size ∉ [I0, l] → s0.heap.IsListIter I0 l 0 ∧ s0.heap.IsList l items → s0.heap.get? s.heap.objs.size = some (noSet (!w.params.followText "set-order")) →
      (∀ t3, Moved [s.heap.objs.size, I0] (fun a b => b = a) s0 t3 → Fin t3.heap → R (.ok (.ret .none)) t3) → codeAny (model prog w) A.in1.in1 (.builtin "set.update.loop" ⟨[.ref s.heap.objs.size, .ref I0], []⟩) R s0)
    (k : ∀ (h2 : Heap) (tk : Nat), Fin h2 → (∀ b o, b < s.heap.objs.size → s.heap.get? b = some o → h2.get? b = some o) → Q (.ref s.heap.objs.size) { s with heap := h2, toks := tk }) :
    wpAny (model prog w) A (call (.type "set") [.ref l]) Q E s := by
  have z1 := PySem.F.called_set.made; have z2 := PySem.F.called_set.sub; have z3 := PySem.F.called_set.notType
  have z4 := PySem.F.called_set.canCreate; have z5 := PySem.F.typeCall_set_1 (.ref l)
  obtain ⟨c0, tl0, z6⟩ := PySem.F.called_set.mro
  refine wpAny_call (codeAny_of_tree ?_); show wpAny _ _ (callAny (.type "set") _) _ _ _
  refine wpAny_pure ⟨Code.quiet_builtin _ (by decide +kernel), codeAny_builtin PySem.F.entry_type_call ?_⟩; rw [Around.under_plain (weight_type_call_type "set" [.ref l] []) (rfl)]
  repeat (any_goals (first | assumption | wp_step))
  -- the object laid
  generalize hled : (!w.params.followText "set-order") = led at loop
  refine codeAny_mono (L2.code_set_led1 (.ref l) (E := E) (Q₁ := fun v t => v = .ref s.heap.objs.size ∧ t = { s with heap := s.heap.push (noSet led) }) ⟨rfl, by rw [← hled]⟩) fun r t hr => ?_
  match r, hr with
  | .error e, hr => exact hr
  | .ok (.ret v), ⟨e1, e2⟩ =>
    subst e1 e2
    have at0 : (s.heap.push (noSet led)).get? s.heap.objs.size = some (noSet led) := Heap.get?_push_size _ rfl
    have y1 : Shared.TypeIs { s with heap := s.heap.push (noSet led) } (.ref s.heap.objs.size) "set" := ⟨_, at0, rfl⟩
    have y2 := PySem.F.called_set.init.lookup; have y3 := PySem.F.called_set.init.bind (.ref s.heap.objs.size)
    repeat (any_goals (first | assumption | wp_step))
    have nl : l < s.heap.objs.size := (fun ⟨o, e, _⟩ => Heap.lt_size e : s.heap.IsList l items → _) hl
    generalize hI : (s.heap.push (noSet led)).objs.size = I0
    have eI : I0 = s.heap.objs.size + 1 := by rw [← hI, Heap.size_push]
    refine codeAny_mono (codeAny_call_builtin (R := wants (fun v t => v = .none ∧ ∃ h2 tk, t = { s with heap := h2, toks := tk } ∧ Fin h2 ∧ ∀ b o, b < s.heap.objs.size → s.heap.get? b = some o → h2.get? b = some o) E)
      PySem.F.called_set.init.plain PySem.F.entry_set_init (check_set_init_1 y1 ?_)) fun r2 t2 hr2 => ?_
    · have x1 := PySem.F.sub_list_set; have x2 := PySem.F.sub_list_frozenset
      have x3 : (Value.type "list" == Value.type "dict") = false := by decide
      obtain ⟨⟨cl, di, da, sl⟩, x4, x5, nn, x6⟩ := hl
      dsimp only at x5 x6
      subst x5 x6
      have x7 : (s.heap.push (noSet led)).get? l = some ⟨.type "list", di, .seq items nn, sl⟩ := Heap.get?_push_of_some _ x4
      have x8 : (s.heap.push (noSet led)).IsList l items := ⟨_, x7, rfl, nn, rfl⟩
      unfold Builtin.«set.__init__» noKeywords Builtin.Frozenset.updateFrom
      generalize gPI : pyIter = PI0
      wp_walk
      subst gPI
      refine wpAny_pyIter_list x8 (wpAny_bind (wpAny_runValue ?_))
      have ne1 : l ≠ I0 := fun z => by
        exact absurd (z.trans eI) (Nat.ne_of_lt (Nat.lt_succ_of_lt nl))
      have ne2 : s.heap.objs.size ∉ [I0, l] := by
        intro z
        rcases List.mem_cons.mp z with y | y
        · exact absurd (y.trans eI) (Nat.ne_of_lt (Nat.lt_succ_self _))
        · exact absurd (List.mem_singleton.mp y) (Nat.ne_of_gt nl)
      rw [hI]
      refine loop I0 _ _ ((Walks.list (A := A.in1.in1.in1) (by simp [hh]) I0 l ne1 items).toS) ne2 ?_ (Heap.get?_push_of_some _ at0) fun t3 mv fin => ?_
      · subst hI
        exact ⟨⟨_, Heap.get?_push_size _ rfl, rfl, rfl⟩, x8.push _⟩
      · obtain ⟨h4, g4, d4, tk4, os4⟩ := t3
        obtain rfl : g4 = s.gens := mv.gens
        obtain rfl : d4 = s.drawn := mv.drawn
        obtain rfl : os4 = s.os := mv.os
        refine wpAny_pure (wpAny_pure ⟨rfl, h4, tk4, rfl, fin, fun b o z e => mv.heap b o (fun q => ?_) (Heap.get?_push_of_some _ (Heap.get?_push_of_some _ e))⟩)
        rcases List.mem_cons.mp q with q | q
        · exact absurd q (Nat.ne_of_lt z)
        · exact absurd ((List.mem_singleton.mp q).trans eI) (Nat.ne_of_lt (Nat.lt_succ_of_lt z))
    · match r2, hr2 with
      | .error e, hr2 => exact hr2
      | .ok (.ret v), ⟨e1, h2, tk, e2, q1, q2⟩ =>
        subst e1 e2
        repeat (any_goals (first | assumption | wp_step))
        exact k _ _ q1 q2
theorem set_of_texts {l : Addr} {items : Array Value} {xs : List Str} {Q : Value → Shared → Prop} (hh : A.handled = none) (hl : s.heap.IsList l items) (hi : PyProof.Rows.StrsAre items.toList xs) (hb : xs.length + 1 < scanBound)
    (k : ∀ (h2 : Heap) (tk : Nat), SetTx prog w h2 s.heap.objs.size (onceOf xs xs.length) → (∀ b o, b < s.heap.objs.size → s.heap.get? b = some o → h2.get? b = some o) → Q (.ref s.heap.objs.size) { s with heap := h2, toks := tk }) :
    wpAny (model prog w) A (call (.type "set") [.ref l]) Q E s := by
  have len : xs.length = items.size := by rw [← StrsAre.len_eq hi, Array.length_toList]
  refine set_of_list (Fin := fun h2 => SetTx prog w h2 s.heap.objs.size (onceOf xs xs.length)) hh hl (fun I0 s0 R W nS st at1 go => ?_) k
  exact set_turns W nS len (by rw [← len]; exact hb) (fun i v hv => SS.strs_at hi i v (by rw [Array.getElem?_toList]; exact hv)) items.size 0 _ (by omega) st (SetOf_congr ((PyProof.Rows.setObjOf_fresh (knd := PySem.strKind prog w) _).setOf at1 (by unfold scanBound; omega)) (fun _ => rfl) (rfl)) fun t3 mv fin => go t3 mv (by rw [len]; exact fin)
end
end G
namespace G
open PySem PySem.Spec PyProof.Rows L2
theorem strsAre_vals : ∀ {xs : List Str} {us : List Value}, Vals (xs.map V.str) us → PyProof.Rows.StrsAre us xs
  | [], _, .nil => .nil
  | x :: r, _, .cons ⟨t, e⟩ q => e ▸ .cons x t (strsAre_vals q)
def tUnlike (K : PySem.W.Frag) (ta : TE) : TE := fun σ H Q => ta σ H fun x H1 => ∃ (l : Addr) (xs : List Str), x = .ref l ∧ SqL K H1 l (xs.map V.str) ∧ xs.length ≤ 4000 ∧ Q (.int (unlike xs : Nat)) H1
theorem pe_unlike {X : Cx} {a : Expr} {ta : TE} {p p2 q pos : Pos} (h1 : X.mg "len" = none) (h2 : X.mg "set" = none) (ha : PE X a ta) (hc : X.calm = true := by rfl) (g1 : Gl X "len" := by rfl) (g2 : Gl X "set" := by rfl)
    (na : starEach [a] X.env = (false, eval a X.env) :: starEach [] X.env := by rfl) : PE X (.Call (.Name "len" p) [.Call (.Name "set" p2) [a] [] q] [] pos) (tUnlike X.K ta) := ⟨fun pins s σ H Q I h => by
  refine Call_ (ld_blt I g1 h1 PySem.boot_len (PyProof.Rows.callWith_builtin1 (PyProof.Rows.args_cons (Call_ (ld_blt I g2 h2 (show bootBuiltins "set" = some (.type "set") by decide +kernel) ?_)) rfl) rfl rfl))
  refine PyProof.Rows.callWith_type1 (PyProof.Rows.args_cons (thn (ha.run pins s σ H _ I h) fun v s1 ⟨x, H1, I1, r1, l, xs, e, hq, le, q1⟩ => PyProof.Rows.args_nil ?_) na) na rfl
  subst e
  cases r1
  obtain ⟨its, r, pl, hz⟩ := I1.list hq
  refine set_of_texts (I1.ok.hd hc) pl.isList (by simpa using strsAre_vals r) (by unfold scanBound; omega) fun h2 tk q2 kp => PyProof.Rows.args_nil ?_
  obtain ⟨o, es, ep, t, ho, hex, hd, _, _, _, hf, hn⟩ := q2
  have I2 : L2.Inv X pins σ H1 { s1 with heap := h2, toks := tk } := I1.kept fun b o e => kp b o (Heap.lt_size e) e
  have := unlike_le (xs := xs)
  have hn : es.size = unlike xs := hn
  exact call_len_set ho hex hd hf (by rw [hn]; omega) ⟨.int (unlike xs : Nat), H1, I2.tok _, ⟨_, by rw [hn]⟩, q1⟩⟩
def top : Int → List Int → Int
  | d, [] => d
  | _, n :: r => r.foldl max n
theorem foldl_max : ∀ (r : List Int) (n : Int), (r.foldl max n = n ∨ r.foldl max n ∈ r) ∧ n ≤ r.foldl max n ∧ ∀ y ∈ r, y ≤ r.foldl max n
  | [], n => ⟨.inl rfl, Int.le_refl _, fun y h => by cases h⟩
  | x :: r, n => by
    obtain ⟨a, b, c⟩ := foldl_max r (max n x)
    rw [List.foldl_cons]
    refine ⟨?_, by omega, fun y h => ?_⟩
    · rcases a with a | a
      · rcases Int.le_total n x with z | z
        · exact .inr (by rw [a, Int.max_eq_right z]; exact List.mem_cons_self)
        · exact .inl (by rw [a, Int.max_eq_left z])
      · exact .inr (List.mem_cons_of_mem _ a)
    · rcases List.mem_cons.mp h with rfl | h
      · omega
      · exact c y h
theorem top_of {d : Int} {ns : List Int} (hn : 0 < ns.length) : top d ns ∈ ns ∧ ∀ y ∈ ns, y ≤ top d ns := by
  cases ns with
  | nil => simp at hn
  | cons n r =>
    obtain ⟨a, b, c⟩ := foldl_max r n
    refine ⟨?_, fun y h => ?_⟩
    · rcases a with a | a
      · show r.foldl max n ∈ _
        rw [a]; exact List.mem_cons_self
      · exact List.mem_cons_of_mem _ a
    · rcases List.mem_cons.mp h with rfl | h
      · exact b
      · exact c y h
theorem top_eq {d : Int} {ns : List Int} {m : Int} (h1 : m ∈ ns) (h2 : ∀ y ∈ ns, y ≤ m) : top d ns = m := by
  obtain ⟨a, b⟩ := top_of (d := d) (List.length_pos_of_mem h1)
  exact Int.le_antisymm (h2 _ a) (b _ h1)
theorem argTop {ns : List Int} {d : Int} {k : Nat} (hk : ns.length = k + 1) : ns.getD (argBest (fun i j => decide (ns.getD i 0 > ns.getD j 0)) k) 0 = top d ns := by
  obtain ⟨a, b⟩ := argBest_gt (fun i => ns.getD i 0) k
  refine (top_eq ?_ fun y hy => ?_).symm
  · have h : argBest (fun i j => decide (ns.getD i 0 > ns.getD j 0)) k < ns.length := by omega
    rw [List.getD_eq_getElem?_getD, List.getElem?_eq_getElem h]
    exact List.getElem_mem h
  · obtain ⟨i, hi, rfl⟩ := List.mem_iff_getElem.mp hy
    have := b i (by omega)
    have this : ns.getD i 0 ≤ ns.getD (argBest (fun i j => decide (ns.getD i 0 > ns.getD j 0)) k) 0 := this
    rw [List.getD_eq_getElem?_getD, List.getElem?_eq_getElem hi] at this
    exact this
theorem walks_len {prog : Program} {w : World} {A : Around} {I : Addr} {fp wr : List Addr} {Gg : Array GenState → Array GenState → Prop} {n m : Nat} {P : Nat → Value → Prop} {St : Nat → Shared → Prop} (W : WalksS prog w A I fp wr Gg n P St) (e : n = m) : WalksS prog w A I fp wr Gg m P St := e ▸ W
section
variable {X : Cx}
/-- what the walk needs of its things -/
theorem max_dflt {x d : Value} {pins : List (Addr × Obj)} {σ : L2.St} {H : Hp} {s : Shared} {Q : VK} {ns : List Int} {dv : Int} (I : L2.Inv X pins σ H s) (hd : ∃ t, d = .int dv t) (q : Q (.int (top dv ns)) H)
    (w : ∀ (Q1 : Value → Shared → Prop) (E1 : Value → Shared → Prop), (∀ it s2 (fp wr : List Addr) (P : Nat → Value → Prop) (St : Nat → Shared → Prop), WalksS X.prog X.w X.A.in1 it fp wr (fun a b => b = a) ns.length P St → St 0 s2 → (∀ b ∈ fp, b < s2.heap.objs.size) → (∀ b o, s.heap.get? b = some o → b ∉ wr) → (∀ b o, s.heap.get? b = some o → s2.heap.get? b = some o) →
      (∀ i v, P i v → ∃ t, v = .int (ns.getD i 0) t) → s2.gens = s.gens → s2.drawn = s.drawn → s2.os = s.os → Q1 (.ref it) s2) → wpAny (model X.prog X.w) X.A.in1 (pyIter x) Q1 E1 s) :
    wpAny (model X.prog X.w) X.A (call (.builtin "max") [x] [(Str.ofString "default", d)]) (EP X pins σ Q) X.xe s := by
  refine call_max_walkD (w _ _ fun it s2 fp wr P St W st hfp hw hk hv e1 e2 e3 => ⟨it, fp, wr, _, ns.length, P, St, s.heap, fun i j => decide (ns.getD i 0 > ns.getD j 0), rfl, W, st, hfp, hw, hk, fun hz s3 mv => ?_, fun hp => ⟨fun i j vi vj s Q E _ hi hj => CmpOf.ints_gt (fun i => ns.getD i 0) hv i j vi vj s Q E hi hj, fun v s3 hP mv => ?_⟩⟩)
  all_goals
    have kp : ∀ b o, s.heap.get? b = some o → s3.heap.get? b = some o := fun b o e => mv.heap b o (hw b o e) (hk b o e)
    obtain ⟨h3, g3, d3, tk3, os3⟩ := s3
    obtain rfl : g3 = s.gens := Eq.trans (show g3 = s2.gens from mv.gens) e1
    obtain rfl : d3 = s.drawn := Eq.trans (show d3 = s2.drawn from mv.drawn) e2
    obtain rfl : os3 = s.os := Eq.trans (show os3 = s2.os from mv.os) e3
  · obtain rfl : ns = [] := List.eq_nil_of_length_eq_zero hz
    exact ⟨.int (top dv []), H, I.kept kp, hd, q⟩
  · obtain ⟨t, rfl⟩ := hv _ v hP
    obtain ⟨k, hk2⟩ : ∃ k, ns.length = k + 1 := ⟨ns.length - 1, by omega⟩
    refine ⟨.int (top dv ns), H, I.kept kp, ⟨t, ?_⟩, q⟩
    rw [show ns.length - 1 = k by omega, argTop (d := dv) hk2]
def rTopL (K : PySem.W.Frag) : List V → List V → Hp → VK → Prop := fun xs zs H Q => ∃ (a : Addr) (ns : List Int) (d : Int), xs = [.ref a] ∧ zs = [.int d] ∧ SqL K H a (ns.map V.int) ∧ Q (.int (top d ns)) H
def rTopD : List V → List V → Hp → VK → Prop := fun xs zs H Q => ∃ (a : Addr) (kvs : List (Key × V)) (ns : List Int) (d : Int), xs = [.ref a] ∧ zs = [.int d] ∧ H a = some (.dK kvs) ∧ kvs.map (·.1) = ns.map Sum.inl ∧ Q (.int (top d ns)) H
theorem call_topL (hc : X.calm = true) : CallRK X (.builtin "max") ["default"] (rTopL X.K) := by
  intro pins s σ H xs zs us ws Q I r1 r2 ⟨a, ns, d, e1, e2, hq, q⟩
  subst e1 e2
  rw [Vals.ref1 r1]
  cases r2 with
  | cons hd t =>
  cases t
  obtain ⟨its, rv, pl, hz⟩ := I.list hq
  have hi : PyProof.Rows.IntsAre its ns := rv.ints
  have hl : its.toArray.size = ns.length := by rw [List.size_toArray, hi.length]
  refine max_dflt I hd q fun Q1 E1 k => PySem.W.iter_listW (A := X.A.in1) (by simp [I.ok.hd hc]) pl.isList fun s2 e W st hfp hw hk => ?_
  subst e
  refine k _ _ _ _ _ _ (hl ▸ W) st hfp hw hk (fun i v hv => IntsAre.int_at hi i v (by simpa using hv)) rfl rfl rfl
theorem call_topD (hc : X.calm = true) : CallRK X (.builtin "max") ["default"] rTopD := by
  intro pins s σ H xs zs us ws Q I r1 r2 ⟨a, kvs, ns, d, e1, e2, hq, hk, q⟩
  subst e1 e2
  rw [Vals.ref1 r1]
  cases r2 with
  | cons hd t =>
  cases t
  obtain ⟨z, sysn, vs, rel, dd⟩ := dk_of I.hok hq
  obtain ⟨o, es, ep, ho, h2, h3, h4, h5, h6⟩ := id dd
  have at1 : s.heap.DictAt (mixKind X.prog X.w) a vs ep := ⟨o, es, ho, h2, h3, h4, h5, h6⟩
  have len : vs.length = ns.length := by
    have := congrArg List.length hk
    rw [List.length_map, List.length_map] at this
    rw [← rel.length]; exact this
  have ne : a ≠ s.heap.objs.size := Nat.ne_of_lt (Heap.lt_size ho)
  refine max_dflt I hd q fun Q1 E1 k => wpAny_pyIter_dict sysn at1 ?_
  have old : ∀ b (o : Obj), s.heap.get? b = some o → b ≠ s.heap.objs.size := fun b o e => Nat.ne_of_lt (Heap.lt_size e)
  refine k _ _ _ _ _ _ (walks_len (Walks.dictKeys (A := X.A.in1) (by simp [I.ok.hd hc]) s.heap.objs.size a ne vs ep).toS len) ⟨⟨_, Heap.get?_push_size _ rfl, rfl, rfl⟩, at1.at' fun o e => Heap.get?_push_of_some _ e⟩ (fun b hb => ?_) (fun b o e hb => ?_) (fun b o e => Heap.get?_push_of_some _ e) (fun i v hv => ?_) rfl rfl rfl
  · rw [Heap.size_push]
    rcases List.mem_cons.mp hb with e | hb
    · rw [e]; exact Nat.lt_succ_self _
    · rw [List.mem_singleton.mp hb]; exact Nat.lt_succ_of_lt (Heap.lt_size ho)
  · exact old b o e (List.mem_singleton.mp hb)
  · obtain ⟨k0, x, e, hk0⟩ := hv
    have e1 : (kvs.map (·.1))[i]? = some k0 := by rw [KV.keys rel, List.getElem?_map, e]; rfl
    rw [hk, List.getElem?_map] at e1
    cases e2 : ns[i]? with
    | none => rw [e2] at e1; cases e1
    | some n =>
      rw [e2] at e1
      cases e1
      rw [List.getD_eq_getElem?_getD, e2]
      rcases keyIs_shape (k := Sum.inl n) (v := v) hk0 with ⟨j, t, e3, e4⟩ | ⟨y, t, e3, e4⟩
      · cases e3; exact ⟨t, e4⟩
      · cases e3
end
end G
namespace G
open PySem PySem.Spec PyProof.Rows L2
theorem dictSetT {X : Cx} {pins : List (Addr × Obj)} {σ : L2.St} {H : Hp} {s : Shared} {Er : Value → Shared → Prop} {d b : Addr} {kvs : List (List Key × V)} {ks : List Key} {y : V} {u : Value} {Q : Unit → Shared → Prop} (hu : X.A.units + 1 < cLine) (I : L2.Inv X pins σ H s)
    (e1 : H d = some (.dT kvs)) (e2 : H b = some (.tup (ks.map kV))) (hz : kvs.length < sizeLine) (ry : L2.RelV y u) (k : ∀ t, L2.Inv X pins σ (upd H d (.dT (putK kvs ks y))) t → Q () t) : wpAny (model X.prog X.w) X.A (dictSet d (.ref b) u) Q Er s := by
  obtain ⟨z1, z2, xs, rel, dd⟩ := dt_of I.hok e1
  have z3 : xs.length ≤ sizeLine := by rw [← Paired.length rel]; exact z1
  have z4 : (putK kvs ks y).length ≤ sizeLine := by have := length_putK kvs ks y; omega
  refine wpAny_dictSet_heap (hsz := z3) (Nat.lt_of_succ_lt hu) (key_of I.hok e2) dd fun h2 d2 same => k _ ?_
  obtain ⟨o, es, ep, y1, y2, y3, y4, _, y5⟩ := d2
  refine d_write I (by rw [e1]; trivial) same ⟨o, y1⟩ ⟨z4, z2, _, (rel.put ks e2 ry).keeps fun c l ec => ?_, o, es, ep, y1, y2, y3, y4, y5⟩
  rw [upd_ne (ne_of ec e1 (fun z => nomatch z))]; exact ec
section
variable {X : Cx}
/-- the reading: D is the new dict -/
def tDct (wi : TI) (g : TG) (tt : TT) (tk tv : TE) (vs : List Nat) : TE := fun σ H Q => wi σ H fun J H1 => ∀ D, H1 D = none → ∃ W : Nat → Nat → Hp → Prop, (∃ m, W 0 m (upd H1 D (.dT []))) ∧ ∀ i m H2, W i m H2 →
  J.stop i H2 ∧ Q (.ref D) H2 ∨ J.go i H2 ∧ ∃ Nx : Hp → Prop, (∀ H3, Nx H3 → ∃ m2, m2 < m ∧ W (i + 1) m2 H3) ∧ ∀ x H3, J.yld i H2 x H3 → g x (wipe σ vs) H3 fun σ4 H4 => wipe σ4 vs = wipe σ vs ∧ tt σ4 H4 fun z H5 =>
    if z = true then tk σ4 H5 fun y H6 => tv σ4 H6 fun u H7 => ∃ kvs ks b, y = .ref b ∧ H7 b = some (.tup (ks.map kV)) ∧ H7 D = some (.dT kvs) ∧ kvs.length < sizeLine ∧ Nx (upd H7 D (.dT (putK kvs ks u))) else Nx H5
theorem pe_dct {kx vx tg iter : Expr} {ifs : List Expr} {sc : Scope} {own : List (Str × Nat)} {pos : Pos} {wi : TI} {g : TG} {tt : TT} {tk tv : TE} (hu : X.A.units + 1 < cLine) (hc : X.calm = true) (hN : X.N.Nodup) (hi : PI X tg iter wi) (ok : BlkOk X.N X.env.scope sc own)
    (hg : ∀ s H C cl fp, PG (X.blk s H sc (compEnvC sc cl C X.env) fp) tg g) (ht : ∀ s H C cl fp, PTs (X.blk s H sc (compEnvC sc cl C X.env) fp) ifs tt) (hk : ∀ s H C cl fp, PE (X.blk s H sc (compEnvC sc cl C X.env) fp) kx tk) (hv : ∀ s H C cl fp, PE (X.blk s H sc (compEnvC sc cl C X.env) fp) vx tv)
    (hs : ∀ x, foldedSetIterable iter X.env x = pure x := by intro _; rfl) : PE X (.DictComp kx vx [⟨tg, iter, ifs, 0⟩] sc pos) (tDct wi g tt tk tv (own.map (·.2))) := by
  refine ⟨fun pins s σ H Q I h => ?_⟩
  rw [arm_eval_DictComp]
  generalize hvs : own.map (·.2) = vs at h ⊢
  have frees : ∀ y ∈ sc.names, y.2 = .free → ∃ c, X.env.cells.lookup y.1 = some c := fun y m e => (ok.free y m e).elim (fun z => I.ok.has _ (.inl z)) fun z => I.ok.has _ (.inr z)
  refine wpAny_comprehension_free rfl hs (closure_ok frees) ok.kind (fun y m e => by rw [ok.uniq y m, e]) ?_
  refine thn (hi.run pins s σ H _ I h) fun xv sA hx => thn hx fun itv sB ⟨it, fp, tn, J, HB, e0, IB, T, stB, fB, q⟩ => ?_
  subst e0
  refine wpAny_newObj_type (newEnv_comp ?_)
  obtain ⟨D, hD⟩ : ∃ D, D = sB.heap.objs.size := ⟨_, rfl⟩
  have dn : HB D = none := IB.hok.fresh (Nat.le_of_eq hD.symm)
  obtain ⟨W, ⟨m0, w0⟩, turn⟩ := q D dn
  obtain ⟨sC, hC⟩ : ∃ sC : Shared, sC = { sB with heap := sB.heap.push { cls := .type "dict", data := .dict #[] } } := ⟨_, rfl⟩
  obtain ⟨HC, hHC⟩ : ∃ HC : Hp, HC = upd HB D (.dT []) := ⟨_, rfl⟩
  have IC : L2.Inv X pins σ HC sC := by
    rw [hC, hHC]
    refine IB.laid (t' := sB.toks) (fun b o e => Heap.get?_push_of_some _ e) (Nat.le_of_eq hD.symm) ?_
    rw [hD]; exact dt_empty sB.heap IB.big
  have kB : ∀ b o, sB.heap.get? b = some o → sC.heap.get? b = some o := fun b o e => by rw [hC]; exact Heap.get?_push_of_some _ e
  have inB : ∀ b ∈ fp, b < sB.heap.objs.size := fun b m => (fun ⟨o, e, _⟩ => Heap.lt_size e : _ → _) (T.obj _ _ stB b m)
  have fC : ∀ b ∈ fp, FpOk X pins HC b ∧ b < sC.heap.objs.size := fun b m => by
    refine ⟨⟨?_, (fB b m).2⟩, ?_⟩
    · rw [hHC, upd_ne (fun z : b = D => absurd (z.trans hD) (Nat.ne_of_lt (inB b m)))]; exact (fB b m).1
    · rw [hC]; show b < (sB.heap.push _).objs.size; rw [Heap.size_push]; exact Nat.lt_succ_of_lt (inB b m)
  have stC : tn 0 sC.heap := T.keep _ _ _ stB fun b _ o e => kB b o e
  have ID := block_start IC ok hN fC
  rw [hvs] at ID
  have none0 : ∀ b ∈ fp, HC b = none := fun b m => (fC b m).1.1
  obtain ⟨cl, hcl⟩ : ∃ cl, cl = cellsFrom (sC.heap.objs.size + 1) sc.names (cloFrom X.env.cells sc.names []) := ⟨_, rfl⟩
  rw [← hC, ← hD]
  show codeAny _ _ (.compStart (.DictComp kx vx [⟨tg, iter, ifs, 0⟩] sc pos) 0 (.ref it) (.ref D) (compEnvC sc (cellsFrom (sC.heap.objs.size + 1) sc.names (cloFrom X.env.cells sc.names [])) sC.heap.objs.size X.env)) (compPost (model X.prog X.w) X.A X.xe none (EP X pins σ Q) (.ref D) sC.heap.objs.size) { sC with heap := pushCells (sC.heap.push { cls := .type "dict", data := .dict #[] }) sc.names }
  rw [← hcl] at ID ⊢
  obtain ⟨ce, hce⟩ : ∃ ce, ce = compEnvC sc cl sC.heap.objs.size X.env := ⟨_, rfl⟩
  have pG := hg sC HC sC.heap.objs.size cl fp; have pT := ht sC HC sC.heap.objs.size cl fp; have pK := hk sC HC sC.heap.objs.size cl fp; have pV := hv sC HC sC.heap.objs.size cl fp
  rw [← hce] at ID pG pT pK pV ⊢
  have locs : ce.locals = sC.heap.objs.size := by rw [hce]; rfl
  obtain ⟨sD, hsD⟩ : ∃ sD : Shared, sD = { sC with heap := pushCells (sC.heap.push { cls := .type "dict", data := .dict #[] }) sc.names } := ⟨_, rfl⟩
  rw [← hsD] at ID ⊢
  have stD : tn 0 sD.heap := T.keep _ _ _ stC fun b _ o e => by rw [hsD]; exact pushCells_keeps _ _ _ _ (Heap.get?_push_of_some _ e)
  have fix : ∀ {σ2 : L2.St} {H2 : Hp} {s2 : Shared}, L2.Inv (X.blk sC HC sc ce fp) [] σ2 H2 s2 → (∀ b ∈ fp, H2 b = none) → ∀ b ∈ fp, FpOk (X.blk sC HC sc ce fp) [] H2 b := fun I2 n2 b m =>
    ⟨n2 b m, (I2.ok.exf b m).1, I2.ok.exfs b m, .inl m, fun x c e => (I2.ok.exf b m).2 x c e, fun p hp => absurd hp (by show ¬ p ∈ ([] : List (Addr × Obj)) ++ []; simp)⟩
  have loop : codeAny (model X.prog X.w) X.A (.compLoop (.DictComp kx vx [⟨tg, iter, ifs, 0⟩] sc pos) 0 (.ref it) (.ref D) ce) (compPost (model X.prog X.w) X.A X.xe none (EP X pins σ Q) (.ref D) sC.heap.objs.size) sD := by
    refine compLoop_anyD (fun n t => ∃ i Ht, L2.Inv (X.blk sC HC sc ce fp) [] (wipe σ vs) Ht t ∧ tn i t.heap ∧ (∀ b ∈ fp, Ht b = none) ∧ W i n Ht) (fun n t ⟨i, Ht, It, stt, nt, wt⟩ => ?_) m0 ⟨0, HC, ID, stD, none0, by rw [hHC]; exact w0⟩
    rcases turn i n Ht wt with ⟨stop, fin⟩ | ⟨go, Nx, hNx, step⟩
    · refine thnF (T.done (X.blk sC HC sc ce fp) rfl rfl rfl hc i [] t _ Ht (fun _ _ => False) It (fix It nt) stt stop) fun r u ⟨hr, Iu⟩ => ?_
      subst hr
      have back : L2.Inv X pins σ Ht u := IC.call' (ch := fp) Iu.os Iu.base Iu.hok Iu.bare fun b m => (fun z : FpOk X pins HC b => ⟨z.2.2.2.1, z.2.1, z.2.2.2.2.1, z.2.2.2.2.2⟩) (fC b m).1
      obtain ⟨mm, hn, _⟩ := Iu.loc
      have hn : u.heap.Ns ce.locals mm := hn
      have nC : Ht ce.locals = none := Iu.free
      rw [locs] at hn nC
      obtain ⟨f0, f1, f2, f3, f4, f5⟩ := IC.fpOk (Nat.le_refl _) nC
      exact ⟨mm, hn, fun h9 sb => ⟨.ref D, Ht, back.turned (t' := u.toks) (fun b o hb e => (sb.2 b hb).trans e) f0 f1 f3 f4 f5, rfl, fin⟩⟩
    · refine thnF (T.item (X.blk sC HC sc ce fp) rfl rfl rfl hc i [] t _ Ht (fun _ _ => False) It (fix It nt) stt go) fun r u ⟨v, hr, hv9⟩ => ?_
      subst hr
      refine thnF hv9 fun _ a ⟨x, Ha, Ia, ra, ya, sta, na⟩ => ?_
      have Ip := Ia.pinned (fix Ia na) (T.obj _ _ sta)
      refine thnF (pG.run _ a _ Ha x v _ Ip ra (step x Ha ya)) fun _ b ⟨σb, Hb, Ib, wb, qb⟩ => thnF (pT.run _ b σb Hb _ Ib qb) fun z c ⟨Hc, Ic, qc⟩ => ?_
      have fin : ∀ {t2 : Shared} {H2 : Hp}, L2.Inv (X.blk sC HC sc ce fp) ([] ++ pinsAt fp a.heap) σb H2 t2 → Nx H2 → ∃ m, m < n ∧ ∃ i H2, L2.Inv (X.blk sC HC sc ce fp) [] (wipe σ vs) H2 t2 ∧ tn i t2.heap ∧ (∀ b ∈ fp, H2 b = none) ∧ W i m H2 := fun {t2 H2} I2 nx => by
        obtain ⟨m2, lt2, w2⟩ := hNx H2 nx
        have pin : ∀ p ∈ fp, ∀ o, a.heap.get? p = some o → t2.heap.get? p = some o ∧ H2 p = none := fun p hp o e => (fun y => ⟨y.1, y.2.1⟩ : _ → _) (I2.pin (p, o) (List.mem_append_right _ (List.mem_append_right _ (mem_pinsAt hp e))))
        refine ⟨m2, lt2, i + 1, H2, (I2.unpinned (pins := [])).weak (by rw [← wb, wipe_length]) (fun j y e => ?_), T.keep _ _ _ sta fun p hp o e => (pin p hp o e).1, fun p hp => ?_, w2⟩
        · rw [← wb] at e; exact (wipe_some e).1
        · obtain ⟨o, e, _⟩ := T.obj _ _ sta p hp
          exact (pin p hp o e).2
      cases z with
      | false => exact fin Ic qc
      | true =>
        refine thnF (pK.run _ c σb Hc _ Ic qc) fun y d ⟨yk, Hd, Id, rd, qd⟩ => thnF (pV.run _ d σb Hd _ Id qd) fun y2 e ⟨yv, He, Ie, re, kvs, ks, bk, e1, e2, e3, e4, nx⟩ => ?_
        subst e1
        cases rd
        exact dictSetT (X := X.blk sC HC sc ce fp) hu Ie e3 e2 e4 re fun f If => fin If nx
  exact codeAny_compStart_dict loop (T.self X.A 0 _ _ _ stD loop)
end
end G
namespace G
open PySem PySem.Spec PyProof.Rows L2
open Rp (rp)
section
variable {X : Cx} {m : Md} {Γ Γ1 Γ2 Γ3 : DE} {e a b c tg iter elt : Expr} {pos p p2 : Pos} {nm : Str}
theorem tx_chain {op op' : CmpOp} {x y z : Int} {u v : Bool} (h1 : CR X op x (sh Int) y u) (h2 : CR X op' y (sh Int) z v) (ha : PX X (sh Int) Γ a x Γ1) (hb : PX X (sh Int) Γ1 b y Γ2) (hc : PX X (sh Int) Γ2 c z Γ2) (hm : lastMarks [op, op'] [b, c] = false := by first | rfl | decide) :
    TX X Γ (.Compare a [op, op'] [b, c] pos) (u && v) Γ2 := by
  obtain ⟨r, ho, hr⟩ := h1
  obtain ⟨r', ho', hr'⟩ := h2
  refine ⟨fun p h => ha.sub p (hb.sub p h), fun σ F H Q E q => wT.of (pt_chain ho ho' pE pE pE hm) ?_⟩
  refine ha.run σ F H _ E fun w1 F1 H1 E1 s1 r1 => hb.run σ F1 H1 _ E1 fun w2 F2 H2 E2 s2 r2 => ?_
  refine hr F1 H1 F2 H2 w1 w2 _ E2.le (Rp.mono s2.up r1) r2 ⟨u, rfl, ?_⟩
  cases u with
  | false => exact ⟨false, rfl, q F2 H2 E2 (s1.sub s2 ha.sub)⟩
  | true =>
    rw [if_pos rfl]
    refine hc.run σ F2 H2 _ E2 fun w3 F3 H3 E3 s3 r3 => hr' F2 H2 F3 H3 w2 w3 _ E3.le (Rp.mono s3.up (show rp X.K F2 w2 y from r2)) r3 ⟨v, rfl, ?_⟩
    exact q F3 H3 E3 ((s1.sub s2 ha.sub).sub s3 fun p h => ha.sub p (hb.sub p h))
/-- the signs of a text -/
def letters (x : Str) : List Str := x.cps.toList.map fun c => ⟨#[c]⟩
theorem letters_get {x : Str} {i : Nat} {y : Str} (h : (letters x)[i]? = some y) : ∃ c, x.cps[i]? = some c ∧ y = ⟨#[c]⟩ := by
  unfold letters at h
  rw [List.getElem?_map, Array.getElem?_toList] at h
  cases q : x.cps[i]? with
  | none => rw [q] at h; cases h
  | some c => rw [q] at h; exact ⟨c, rfl, (Option.some.inj h).symm⟩
theorem it_str {x : Str} (h : PX X (sh Str) Γ e x Γ1) : IX X Γ tg e (letters x) Γ1 :=
  ⟨h.sub, fun σ F H R E q => wI.of (pi_str pE) (h.run σ F H _ E fun v F' H' E' s r => ⟨x, r, q _ F' H' E' s (by
    have len : (letters x).length = x.cps.size := by simp [letters]
    refine ⟨fun i F2 H2 h1 h2 hi => by rw [len] at hi; exact hi, fun i F2 H2 v H3 y h1 h2 hy ⟨e1, c, e2, e3⟩ => ?_, fun i F2 H2 h1 h2 hi => by rw [len] at hi; exact hi⟩
    subst e1
    obtain ⟨c', e4, rfl⟩ := letters_get hy
    rw [e2] at e4; cases e4
    exact ⟨F2, Step.refl, h2, e3⟩)⟩)⟩
theorem cr_inSign {k : Nat} {y : Str} : CR X .In (⟨#[k]⟩ : Str) (sh Str) y (decide (k ∈ y.cps.toList)) := ⟨_, op_in_sign, fun _ _ _ _ _ _ _ _ hv hw q => ⟨k, y, hv, hw, q⟩⟩
class Fl (α : Type) [Rp α] [DecidableEq α] [Sc α] where
  flat : ∀ x : α, flatV (Sc.val x) = true
  eqv : ∀ x y : α, eqV (Sc.val x) (Sc.val y) = decide (x = y)
instance : Fl Int := ⟨fun _ => rfl, fun x y => by show (x == y) = _; by_cases h : x = y <;> simp [h]⟩
instance : Fl Str := ⟨fun _ => rfl, fun x y => by show (x == y) = _; by_cases h : x = y <;> simp [h]⟩
theorem flat_all {α : Type} [Rp α] [DecidableEq α] [Sc α] [Fl α] {K : PySem.W.Frag} {F : Hp} {vs : List V} {xs : List α} (r : RpL K F vs xs) : vs = xs.map Sc.val ∧ vs.all flatV = true := by
  induction r with
  | nil => exact ⟨rfl, rfl⟩
  | cons h _ ih => rw [Sc.val_of h, List.map_cons, List.all_cons, Fl.flat, ih.2, ← ih.1]; exact ⟨rfl, rfl⟩
theorem inV_map {α : Type} [Rp α] [DecidableEq α] [Sc α] [Fl α] {x : α} : ∀ {xs : List α}, inV (Sc.val x) (xs.map Sc.val) = decide (x ∈ xs)
  | [] => by simp [inV]
  | y :: r => by
    have ih := inV_map (x := x) (xs := r)
    unfold inV at ih ⊢
    rw [List.map_cons, List.any_cons, ih, Fl.eqv]
    by_cases h : y = x
    · simp [h]
    · have h2 : ¬ x = y := fun z => h z.symm
      simp [h, h2]
theorem cr_inT {α : Type} [Rp α] [DecidableEq α] [Sc α] [Fl α] {x : α} {y : Tup α} : CR X .In x (sh (Tup α)) y (decide (x ∈ y.l)) := ⟨_, op_in_seq, fun _ _ F H _ _ _ le hv ⟨l, vs, ev, t, r⟩ q => by
  obtain ⟨e1, e2⟩ := flat_all r
  refine ⟨l, vs, ev, .inr (.inl (.inl (le _ _ t))), by rw [Sc.val_of hv]; exact Fl.flat x, e2, ?_⟩
  rw [Sc.val_of hv, e1, inV_map]; exact q⟩
theorem cr_notInT {α : Type} [Rp α] [DecidableEq α] [Sc α] [Fl α] {x : α} {y : Tup α} : CR X .NotIn x (sh (Tup α)) y (!decide (x ∈ y.l)) := ⟨_, op_notIn_seq, fun _ _ F H _ _ _ le hv ⟨l, vs, ev, t, r⟩ q => by
  obtain ⟨e1, e2⟩ := flat_all r
  refine ⟨l, vs, ev, .inr (.inl (.inl (le _ _ t))), by rw [Sc.val_of hv]; exact Fl.flat x, e2, ?_⟩
  rw [Sc.val_of hv, e1, inV_map]; exact q⟩
theorem cr_inL {α : Type} [Rp α] [DecidableEq α] [Sc α] [Fl α] {x : α} {y : List α} : CR X .In x (br α) y (decide (x ∈ y)) := ⟨_, op_in_seq, fun _ _ F H _ _ _ le hv ⟨l, vs, ev, t, r⟩ q => by
  obtain ⟨e1, e2⟩ := flat_all r
  refine ⟨l, vs, ev, .inl t, by rw [Sc.val_of hv]; exact Fl.flat x, e2, ?_⟩
  rw [Sc.val_of hv, e1, inV_map]; exact q⟩
theorem cr_notInL {α : Type} [Rp α] [DecidableEq α] [Sc α] [Fl α] {x : α} {y : List α} : CR X .NotIn x (br α) y (!decide (x ∈ y)) := ⟨_, op_notIn_seq, fun _ _ F H _ _ _ le hv ⟨l, vs, ev, t, r⟩ q => by
  obtain ⟨e1, e2⟩ := flat_all r
  refine ⟨l, vs, ev, .inl t, by rw [Sc.val_of hv]; exact Fl.flat x, e2, ?_⟩
  rw [Sc.val_of hv, e1, inV_map]; exact q⟩
theorem bools_of {K : PySem.W.Frag} {F : Hp} {vs : List V} {xs : List Bool} (r : RpL K F vs xs) : vs = xs.map V.bl := by
  induction r with
  | nil => rfl
  | cons h _ ih => rw [List.map_cons, ← ih, show _ = V.bl _ from h]
theorem ints_of {K : PySem.W.Frag} {F : Hp} {vs : List V} {xs : List Int} (r : RpL K F vs xs) : vs = xs.map V.int := by
  induction r with
  | nil => rfl
  | cons h _ ih => rw [List.map_cons, ← ih, show _ = V.int _ from h]
theorem strs_of {K : PySem.W.Frag} {F : Hp} {vs : List V} {xs : List Str} (r : RpL K F vs xs) : vs = xs.map V.str := by
  induction r with
  | nil => rfl
  | cons h _ ih => rw [List.map_cons, ← ih, show _ = V.str _ from h]
theorem px_all {xs : List Bool} (hm : X.mg "all" = none) (h : PX X (br Bool) Γ e xs Γ1) (hc : X.calm = true := by rfl)
    (hp : X.mg "all" = none → ∀ {r : List V → Hp → VK → Prop} {t : TA}, CallR X (.builtin "all") r → PA X [e] t → PE X (.Call (.Name "all" p) [e] [] pos) (tCB r t) := by intro hm r t h1 h2; exact pe_callB h1 (by rfl) hm (by decide +kernel) h2) (ha : PA X [e] (tCons (wE X e) tNil) := by exact pa_cons pE pa_nil) :
    PX X (sh Bool) Γ (.Call (.Name "all" p) [e] [] pos) (xs.all id) Γ1 :=
  ⟨h.sub, fun σ F H Q E q => wE.of (hp hm (cr_all hc) ha) (h.run σ F H _ E fun v F' H' E' s ⟨l, vs, ev, t, r⟩ => ⟨l, xs, by rw [ev], by rw [← bools_of r]; exact t, q _ F' H' E' s rfl⟩)⟩
theorem px_sum {xs : List Int} (hm : X.mg "sum" = none) (h : PX X (br Int) Γ e xs Γ1) (hc : X.calm = true := by rfl)
    (hp : X.mg "sum" = none → ∀ {r : List V → Hp → VK → Prop} {t : TA}, CallR X (.builtin "sum") r → PA X [e] t → PE X (.Call (.Name "sum" p) [e] [] pos) (tCB r t) := by intro hm r t h1 h2; exact pe_callB h1 (by rfl) hm (by decide +kernel) h2) (ha : PA X [e] (tCons (wE X e) tNil) := by exact pa_cons pE pa_nil) :
    PX X (sh Int) Γ (.Call (.Name "sum" p) [e] [] pos) xs.sum Γ1 :=
  ⟨h.sub, fun σ F H Q E q => wE.of (hp hm (cr_sum hc) ha) (h.run σ F H _ E fun v F' H' E' s ⟨l, vs, ev, t, r⟩ => ⟨l, xs, by rw [ev], by rw [← ints_of r]; exact t, q _ F' H' E' s rfl⟩)⟩
theorem px_unlike {xs : List Str} (h1 : X.mg "len" = none) (h2 : X.mg "set" = none) (h : PX X (br Str) Γ e xs Γ1) (hl : xs.length ≤ 4000)
    (hp : X.mg "len" = none → X.mg "set" = none → PE X (.Call (.Name "len" p) [.Call (.Name "set" p2) [e] [] pos2] [] pos) (tUnlike X.K (wE X e)) := by intro h1 h2; exact pe_unlike h1 h2 pE) :
    PX X (sh Int) Γ (.Call (.Name "len" p) [.Call (.Name "set" p2) [e] [] pos2] [] pos) (unlike xs : Nat) Γ1 :=
  ⟨h.sub, fun σ F H Q E q => wE.of (hp h1 h2) (h.run σ F H _ E fun v F' H' E' s ⟨l, vs, ev, t, r⟩ => ⟨l, xs, ev, by rw [← strs_of r]; exact t, hl, q _ F' H' E' s rfl⟩)⟩
theorem px_topL {xs : List Int} {d : Int} {kpos : Pos} (hm : X.mg "max" = none) (h : PX X (br Int) Γ e xs Γ1) (hc : X.calm = true := by rfl)
    (hk : ∀ σ F H (Q : VK), Env X.K Γ1 σ F H → Q (.int d) H → wE X a σ H Q)
    (hp : X.mg "max" = none → ∀ {r : List V → List V → Hp → VK → Prop} {t tk : TA}, CallRK X (.builtin "max") ["default"] r → PA X [e] t → PK X [⟨some "default", a, kpos⟩] tk → PE X (.Call (.Name "max" p) [e] [⟨some "default", a, kpos⟩] pos) (tCKw r t tk) := by intro hm r t tk h1 h2 h3; exact pe_callBK h1 (by rfl) hm (by decide +kernel) h2 h3)
    (ha : PA X [e] (tCons (wE X e) tNil) := by exact pa_cons pE pa_nil) (hkw : PK X [⟨some "default", a, kpos⟩] (tCons (wE X a) tNil) := by exact pk_cons pE pk_nil) :
    PX X (sh Int) Γ (.Call (.Name "max" p) [e] [⟨some "default", a, kpos⟩] pos) (top d xs) Γ1 :=
  ⟨h.sub, fun σ F H Q E q => wE.of (hp hm (call_topL hc) ha hkw) (h.run σ F H _ E fun v F' H' E' s ⟨l, vs, ev, t, r⟩ => hk σ F' H' _ E' ⟨l, xs, d, by rw [ev], rfl, by rw [← ints_of r]; exact t, q _ F' H' E' s rfl⟩)⟩
theorem px_list {α : Type} [Rp α] {xs : List α} (hm : X.mg "list" = none) (h : PX X (br α) Γ e xs Γ1)
    (hp : X.mg "list" = none → ∀ {r : List V → Hp → VK → Prop} {t : TA}, CallR X (.type "list") r → PA X [e] t → PE X (.Call (.Name "list" p) [e] [] pos) (tCB r t) := by intro hm r t h1 h2; exact pe_callTy h1 (by rfl) hm (by decide +kernel) h2) (ha : PA X [e] (tCons (wE X e) tNil) := by exact pa_cons pE pa_nil) :
    PX X (nw α) Γ (.Call (.Name "list" p) [e] [] pos) xs Γ1 :=
  ⟨h.sub, fun σ F H Q E q => wE.of (hp hm call_list_of ha) (h.run σ F H _ E fun v F' H' E' s ⟨l, vs, ev, t, r⟩ => ⟨l, vs, by rw [ev], .inl t, fun l2 hl2 => q _ F' _ (E'.new hl2) (s.sub (Step.new (O := Own Γ) hl2) fun a z => z) ⟨l2, vs, rfl, s.there _ hl2, E'.free hl2, upd_same, r⟩⟩)⟩
def enum {α : Type} (xs : List α) : List (Int × α) := (rng 0 xs.length).zip xs
theorem enum_get {α : Type} {xs : List α} {i : Nat} {y : Int × α} (h : (enum xs)[i]? = some y) : y.1 = i ∧ xs[i]? = some y.2 := by
  unfold enum at h
  rw [List.getElem?_zip_eq_some] at h
  obtain ⟨h1, h2⟩ := h
  exact ⟨by rw [(rng_get h1).2]; omega, h2⟩
theorem enum_len {α : Type} {xs : List α} : (enum xs).length = xs.length := by simp [enum, rng_len]
theorem enum_at {α : Type} {xs : List α} {i : Nat} {x : α} (h : xs[i]? = some x) : (enum xs)[i]? = some ((i : Int), x) := by
  unfold enum
  rw [List.getElem?_zip_eq_some]
  have hi : i < xs.length := (List.getElem?_eq_some_iff.mp h).1
  refine ⟨?_, h⟩
  unfold rng
  rw [List.getElem?_map, List.getElem?_range hi]
  simp
theorem tup_yld {K : PySem.W.Frag} {F H : Hp} {T : Addr} {vs : List V} (le : Same F H) (hT : H T = none) : Step (fun _ => False) F H (upd F T (.tup vs)) (upd H T (.tup vs)) ∧ Same (upd F T (.tup vs)) (upd H T (.tup vs)) ∧ Same F (upd F T (.tup vs)) := by
  have hF : F T = none := Same.free le hT
  have sF := same_upd (o := HO.tup vs) hF
  refine ⟨⟨sF, fun b x e _ => same_upd hT b x e, fun b e => ?_, fun b h1 h2 => ?_⟩, fun b x e => ?_, sF⟩
  · by_cases z : b = T
    · rw [z, upd_same] at e; cases e
    · rw [upd_ne z] at e; exact e
  · by_cases z : b = T
    · subst z; exact .inl hT
    · rw [upd_ne z] at h2; exact absurd h1 h2
  · by_cases z : b = T
    · subst z; rw [upd_same] at e ⊢; exact e
    · rw [upd_ne z] at e ⊢; exact le b x e
theorem it_enum {α : Type} [Rp α] {xs : List α} {elts : List Expr} {kk : Nat} {tpos : Pos} (hm : X.mg "enumerate" = none) (h : PX X (sh (List α)) Γ e xs Γ1) (hg : Gl X "enumerate" := by rfl) (hs : starEach [e] X.env = [(false, eval e X.env)] := by rfl) (hp : PA X [e] (tCons (wE X e) tNil) := by exact pa_cons pE pa_nil) :
    IX X Γ (.Tuple elts kk tpos) (.Call (.Name "enumerate" p) [e] [] pos) (enum xs) Γ1 :=
  ⟨h.sub, fun σ F H R E q => wI.of (pi_enum hg hm hp hs) (h.run σ F H _ E fun v F' H' E' s ⟨l, vs, ev, t, r⟩ => ⟨l, vs, by rw [ev], .inl (.inl (E'.le _ _ t)), q _ F' H' E' s (by
    have sq : ∀ F2 H2, Same F' F2 → Same F2 H2 → SqL X.K H2 l vs := fun F2 H2 h1 h2 => .inl (.inl (h2 _ _ (h1 _ _ t)))
    have n1 : vs.length = xs.length := r.length
    refine ⟨fun i F2 H2 h1 h2 hi => ?_, fun i F2 H2 v H3 y h1 h2 hy ⟨T, x, e1, e2, e3, e4⟩ => ?_, fun i F2 H2 h1 h2 hi => ⟨vs, sq F2 H2 h1 h2, by rw [n1, ← enum_len]; exact hi⟩⟩
    · rw [enum_len, ← n1] at hi
      exact ⟨vs, vs[i], sq F2 H2 h1 h2, List.getElem?_eq_getElem hi⟩
    · subst e1 e3
      obtain ⟨y1, y2⟩ := enum_get hy
      have hx := e4 vs (sq F2 H2 h1 h2)
      obtain ⟨v', hv, rr⟩ := r.get y2
      rw [hx] at hv; cases hv
      obtain ⟨s1, s2, s3⟩ := tup_yld (K := X.K) (vs := [V.int (i : Nat), x]) h2 e2
      exact ⟨_, s1, s2, T, _, _, rfl, upd_same, by rw [y1]; rfl, Rp.mono (h1.trans s3) rr⟩)⟩)⟩
def tiB (X : Cx) (scope : Scope) (tg e : Expr) : TI := fun σ H R => ∀ s H0 C cl fp, wI (bk X scope s H0 C cl fp) tg e σ H R
end
section
variable {X : Cx} {Γ Γ1 Γ2 : DE} {tg iter tg1 iter1 elt : Expr} {pos : Pos} {scope : Scope}
theorem px_lc2 {α β γ : Type} [Rp α] [Rp β] [Rp γ] {xs : List α} {ys : α → List β} {f : α → β → γ} {Γt : α → DE} {Γu : α → β → DE} {vs1 : List Nat} (own : List (Str × Nat)) (ts ts1 : List Nat) (hI : IX X Γ tg iter xs Γ1) (hN : X.N.Nodup) (hz : (xs.flatMap ys).length < sizeLine)
    (hg : ∀ x, x ∈ xs → ∀ s H0 C cl fp, GX (bk X scope s H0 C cl fp) tg x ts (wipeD Γ1 (own.map (·.2))) (Γt x)) (hI1 : ∀ x, x ∈ xs → ∀ s H0 C cl fp, IX (bk X scope s H0 C cl fp) (Γt x) tg1 iter1 (ys x) (Γt x))
    (hg1 : ∀ x, x ∈ xs → ∀ y, y ∈ ys x → ∀ s H0 C cl fp, GX (bk X scope s H0 C cl fp) tg1 y ts1 (wipeD (Γt x) vs1) (Γu x y)) (he : ∀ x, x ∈ xs → ∀ y, y ∈ ys x → ∀ s H0 C cl fp, PX (bk X scope s H0 C cl fp) (sh γ) (Γu x y) elt (f x y) (Γu x y))
    (ok : BlkOk X.N X.env.scope scope own := by exact blkOk_by (by kernel_rfl)) (hv1 : ∀ i ∈ vs1, i ∈ own.map (·.2) := by decide)
    (hp : ∀ x, patch Γ1 (Γt x) (own.map (·.2)) = Γ1 := by intro _; rfl) (hp1 : ∀ x y, patch (Γt x) (Γu x y) vs1 = Γt x := by intro _ _; rfl)
    (hts : ∀ t ∈ ts, t ∈ own.map (·.2) := by decide) (hts1 : ∀ t ∈ ts1, t ∈ vs1 := by decide) (hv : ((own.map (·.2)).all fun j => (adsAt Γ1 j).isEmpty) = true := by rfl) (hvt : ∀ x, (vs1.all fun j => (adsAt (Γt x) j).isEmpty) = true := by intro _; rfl) (hc : X.calm = true := by rfl) (hf : ∀ x, foldedSetIterable iter X.env x = pure x := by intro _; rfl)
    (hf1 : ∀ env x, foldedSetIterable iter1 env x = pure x := by intro _ _; rfl) :
    PX X (nw γ) Γ (.ListComp elt [⟨tg, iter, [], 0⟩, ⟨tg1, iter1, [], 0⟩] scope pos) (xs.flatMap fun x => (ys x).map (f x)) Γ1 := by
  refine ⟨hI.sub, fun σ F H Q E q => ?_⟩
  refine wE.of (pe_lc2 hc hN pI ok hv1 (g := tgB X scope tg) (g1 := tgB X scope tg1) (wi1 := tiB X scope tg1 iter1) (te := teB X scope elt) (fun s H0 C cl fp => ⟨fun pins s2 σ H v u Q I r h => h s H0 C cl fp pins s2 u I r⟩) (fun s H0 C cl fp => pts_nil) (fun s H0 C cl fp => ⟨fun pins s2 σ H R I h => h s H0 C cl fp pins s2 I⟩)
    (fun s H0 C cl fp => ⟨fun pins s2 σ H v u Q I r h => h s H0 C cl fp pins s2 u I r⟩) (fun s H0 C cl fp => pts_nil) (fun s H0 C cl fp => ⟨fun pins s2 σ H Q I h => h s H0 C cl fp pins s2 I⟩) hf hf1) ?_
  refine hI.run σ F H _ E fun J F1 H1 E1 s1 W => fun D0 hD => ?_
  have hn1 : ∀ j ∈ own.map (·.2), adsAt Γ1 j = [] := fun j hj => by simpa using List.all_eq_true.mp hv j hj
  generalize hvs : own.map (·.2) = vs at *
  have nD : ¬ Own Γ1 D0 := fun z => Own.some z E1 hD
  have bound : ∀ i, ((xs.take i).flatMap fun x => (ys x).map (f x)).length ≤ (xs.flatMap ys).length := fun i => by
    have e : ∀ l : List α, (l.flatMap fun x => (ys x).map (f x)).length = (l.flatMap ys).length := fun l => by
      induction l with
      | nil => rfl
      | cons x r ih => rw [List.flatMap_cons, List.flatMap_cons, List.length_append, List.length_append, ih, List.length_map]
    rw [e]
    conv => rhs; rw [← List.take_append_drop i xs, List.flatMap_append, List.length_append]
    omega
  refine ⟨fun i mm H' => mm = xs.length - i ∧ i ≤ xs.length ∧ ∃ F' ws, Env X.K Γ1 σ F' H' ∧ Step (Own Γ) F H F' H' ∧ Same F1 F' ∧ H' D0 = some (.lst ws) ∧ F' D0 = none ∧ RpL X.K F' ws ((xs.take i).flatMap fun x => (ys x).map (f x)), ⟨xs.length, by simp, Nat.zero_le _, F1, [], E1.new hD, s1.sub (Step.new (O := Own Γ) hD) fun a q => q, Same.refl _, upd_same, E1.free hD, .nil⟩, ?_⟩
  rintro i mm H' ⟨rfl, hi, F', ws, E', t, up, hw, hFD, rw'⟩
  by_cases hlt : i < xs.length
  · obtain ⟨x, hx⟩ : ∃ x, xs[i]? = some x := ⟨xs[i], List.getElem?_eq_getElem hlt⟩
    have mx := List.mem_of_getElem? hx
    have e3 : xs.take (i + 1) = xs.take i ++ [x] := by rw [List.take_add_one, hx]; rfl
    have stays : ∀ {O : Addr → Prop} {Fa Ha Fb Hb ws}, Step O Fa Ha Fb Hb → ¬ O D0 → Ha D0 = some (.lst ws) → Fa D0 = none → Hb D0 = some (.lst ws) ∧ Fb D0 = none := fun {O Fa Ha Fb Hb ws} s no h1 h2 => by
      have := s.same (by rw [h1]; exact fun z => nomatch z) h2 no
      exact ⟨this.1.trans h1, this.2⟩
    refine .inr ⟨W.go i F' H' up E'.le hlt, fun H2 => ∃ F3 ws, Env X.K Γ1 σ F3 H2 ∧ Step (Own Γ) F H F3 H2 ∧ Same F1 F3 ∧ H2 D0 = some (.lst ws) ∧ F3 D0 = none ∧ RpL X.K F3 ws ((xs.take (i + 1)).flatMap fun x => (ys x).map (f x)), fun H2 ⟨F3, ws, h⟩ => ⟨xs.length - (i + 1), by omega, rfl, hlt, F3, ws, h⟩, fun v H2 y => ?_⟩
    obtain ⟨F2, s2, le2, r2⟩ := W.yld i F' H' v H2 x up E'.le hx y
    have E2 : Env X.K Γ1 σ F2 H2 := E'.after0 s2 le2 fun _ z => z
    obtain ⟨hw2, hF2⟩ := stays s2 (fun z => z) hw hFD
    intro s0 H0 C cl fp
    refine (hg x mx s0 H0 C cl fp).run _ F2 H2 v _ (E2.wiped vs) r2 fun σ3 E3 ⟨hl3, ag⟩ => ?_
    have hw3 : wipe σ3 vs = wipe σ vs := wipe_eq (by rw [hl3, wipe_length]) fun j hj => ag j fun q => hj (hts j q)
    have hl4 : σ3.length = σ.length := by rw [hl3, wipe_length]
    have subA : ∀ a, Own (Γt x) a → Own Γ1 a := fun a q => own_wiped ((hg x mx s0 H0 C cl fp).sub a q)
    have subG : ∀ a, Own (Γt x) a → Own Γ a := fun a q => hI.sub a (subA a q)
    have nDa : ¬ Own (Γt x) D0 := fun z => nD (subA _ z)
    refine ⟨hw3, ?_⟩
    refine (ttx_yes (K := X.K)).run σ3 F2 H2 _ E3 fun Fy Hy Ey sy => ?_
    rw [if_pos rfl]
    obtain ⟨hwy, hFy⟩ := stays sy nDa hw2 hF2
    intro s5 H5 C5 cl5 fp5
    refine (hI1 x mx s5 H5 C5 cl5 fp5).run σ3 Fy Hy _ Ey fun J1 F4 H4 E4 s4 W1 => ?_
    obtain ⟨hw4, hF4⟩ := stays s4 nDa hwy hFy
    have t4 : Step (Own Γ) F H F4 H4 := ((t.sub s2 fun _ z => z.elim).sub sy subG).sub s4 subG
    have up4 : Same F' F4 := (s2.up.trans sy.up).trans s4.up
    refine ⟨fun j k Hc => k = (ys x).length - j ∧ j ≤ (ys x).length ∧ ∃ Fc ws, Env X.K (Γt x) σ3 Fc Hc ∧ Step (Own Γ) F H Fc Hc ∧ Same F' Fc ∧ Same F4 Fc ∧ Hc D0 = some (.lst ws) ∧ Fc D0 = none ∧ RpL X.K Fc ws (((xs.take i).flatMap fun x => (ys x).map (f x)) ++ ((ys x).take j).map (f x)), ⟨(ys x).length, by simp, Nat.zero_le _, F4, ws, E4, t4, up4, Same.refl _, hw4, hF4, by simpa using rw'.mono up4⟩, ?_⟩
    rintro j k Hc ⟨rfl, hj, Fc, wc, Ec, tc, upc, upc4, hwc, hFc, rwc⟩
    by_cases hl : j < (ys x).length
    · obtain ⟨y1, hy1⟩ : ∃ y1, (ys x)[j]? = some y1 := ⟨(ys x)[j], List.getElem?_eq_getElem hl⟩
      have my := List.mem_of_getElem? hy1
      have e4 : (ys x).take (j + 1) = (ys x).take j ++ [y1] := by rw [List.take_add_one, hy1]; rfl
      refine .inr ⟨W1.go j Fc Hc upc4 Ec.le hl, fun H7 => ∃ F7 ws, Env X.K (Γt x) σ3 F7 H7 ∧ Step (Own Γ) F H F7 H7 ∧ Same F' F7 ∧ Same F4 F7 ∧ H7 D0 = some (.lst ws) ∧ F7 D0 = none ∧ RpL X.K F7 ws (((xs.take i).flatMap fun x => (ys x).map (f x)) ++ ((ys x).take (j + 1)).map (f x)), fun H7 ⟨F7, ws, h⟩ => ⟨(ys x).length - (j + 1), by omega, rfl, hl, F7, ws, h⟩, fun u H7 yy => ?_⟩
      obtain ⟨F7, s7, le7, r7⟩ := W1.yld j Fc Hc u H7 y1 upc4 Ec.le hy1 yy
      have E7 : Env X.K (Γt x) σ3 F7 H7 := Ec.after0 s7 le7 fun _ z => z
      obtain ⟨hw7, hF7⟩ := stays s7 (fun z => z) hwc hFc
      intro s6 H6 C6 cl6 fp6
      refine (hg1 x mx y1 my s6 H6 C6 cl6 fp6).run _ F7 H7 u _ (E7.wiped vs1) r7 fun σ8 E8 ⟨hl8, ag8⟩ => ?_
      have hw8 : wipe σ8 vs1 = wipe σ3 vs1 := wipe_eq (by rw [hl8, wipe_length]) fun j hj => ag8 j fun q => hj (hts1 j q)
      have hl9 : σ8.length = σ3.length := by rw [hl8, wipe_length]
      have subB : ∀ a, Own (Γu x y1) a → Own (Γt x) a := fun a q => own_wiped ((hg1 x mx y1 my s6 H6 C6 cl6 fp6).sub a q)
      have nDb : ¬ Own (Γu x y1) D0 := fun z => nDa (subB _ z)
      refine ⟨hw8, ?_⟩
      refine (ttx_yes (K := X.K)).run σ8 F7 H7 _ E8 fun Fz Hz Ez sz => ?_
      rw [if_pos rfl]
      obtain ⟨hwz, hFz⟩ := stays sz nDb hw7 hF7
      intro s9 H9 C9 cl9 fp9
      refine (he x mx y1 my s9 H9 C9 cl9 fp9).run σ8 Fz Hz _ Ez fun w9 Fe He Ee se re => ?_
      obtain ⟨hwe, hFe⟩ := stays se nDb hwz hFz
      have EB := Ec.back Ee ((s7.up.trans sz.up).trans se.up) hw8 hl9 (fun i hi => by simpa using List.all_eq_true.mp (hvt x) i hi)
      rw [hp1] at EB
      have upe : Same Fc Fe := (s7.up.trans sz.up).trans se.up
      have te : Step (Own Γ) F H Fe He := ((tc.sub s7 fun _ z => z.elim).sub sz fun a q => subG a (subB a q)).sub se fun a q => subG a (subB a q)
      have hnD : H D0 = none := s1.there _ hD
      refine ⟨wc, hwe, ?_, Fe, wc ++ [w9], EB.other hFe nDa, ⟨te.up, fun p o e no => ?_, fun p e => ?_, te.fresh⟩, upc.trans upe, upc4.trans upe, upd_same, hFe, ?_⟩
      · rw [rwc.length, List.length_append, List.length_map, List.length_take]
        have b1 := bound (i + 1)
        rw [e3, List.flatMap_append, List.length_append] at b1
        simp only [List.flatMap_cons, List.flatMap_nil, List.append_nil, List.length_map] at b1
        omega
      · rw [upd_ne (ne_of_none e hnD)]; exact te.keep p o e no
      · by_cases q : p = D0
        · rw [q, upd_same] at e; cases e
        · rw [upd_ne q] at e; exact te.there p e
      · rw [e4, List.map_append, ← List.append_assoc]
        exact (rwc.mono upe).snoc re
    · have e : j = (ys x).length := by omega
      subst e
      rw [List.take_length] at rwc
      refine .inl ⟨W1.stop _ Fc Hc upc4 Ec.le (Nat.le_refl _), ?_⟩
      have EB := E'.back Ec upc hw3 hl4 hn1
      rw [hp] at EB
      exact ⟨Fc, wc, EB, tc, up.trans upc, hwc, hFc, by rw [e3, List.flatMap_append]; simpa using rwc⟩
  · have e : i = xs.length := by omega
    subst e
    rw [List.take_length] at rw'
    exact .inl ⟨W.stop _ F' H' up E'.le (Nat.le_refl _), q _ F' H' E' t ⟨D0, ws, rfl, s1.there _ hD, hFD, hw, rw'⟩⟩
end
theorem px_isiV {X : Cx} {Γ Γ1 : DE} {a b : Expr} {p pos : Pos} {α : Type} [Rp α] {x : α} {T t : String} {z : Bool} (hm : X.mg "isinstance" = none) (h : PX X (sh α) Γ a x Γ1) (hb : PX X (sh V) Γ1 b (V.ty T) Γ1) (hk : kitB t T = some z) (ty : ∀ K F H v, rp K F v x → Same F H → TyX K H v (.type t))
    (hp : X.mg "isinstance" = none → ∀ {r : List V → Hp → VK → Prop} {t : TA}, CallR X (.builtin "isinstance") r → PA X [a, b] t → PE X (.Call (.Name "isinstance" p) [a, b] [] pos) (tCB r t) := by intro hm r t h1 h2; exact pe_callB h1 (by rfl) hm (by decide +kernel) h2) (ha : PA X [a, b] (tCons (wE X a) (tCons (wE X b) tNil)) := by exact pa_cons pE (pa_cons pE pa_nil)) :
    PX X (sh Bool) Γ (.Call (.Name "isinstance" p) [a, b] [] pos) z Γ1 :=
  px_isi (m1 := sh α) hm h hb (.ty T) (kit_ty hk) (fun F0 H0 F H v F2 H2 r s le => ty _ F2 H2 v (Rp.mono s.up r) le) hp ha
theorem px_lenStr {X : Cx} {Γ Γ1 : DE} {e : Expr} {p pos : Pos} {z : Str} (hm : X.mg "len" = none) (h : PX X (sh Str) Γ e z Γ1) (hz : z.length ≤ sizeLine)
    (hp : X.mg "len" = none → ∀ {r : List V → Hp → VK → Prop} {t : TA}, CallR X (.builtin "len") r → PA X [e] t → PE X (.Call (.Name "len" p) [e] [] pos) (tCB r t) := by intro hm r t h1 h2; exact pe_callB h1 (by rfl) hm PySem.boot_len h2) (ha : PA X [e] (tCons (wE X e) tNil) := by exact pa_cons pE pa_nil) :
    PX X (sh Int) Γ (.Call (.Name "len" p) [e] [] pos) (z.length : Int) Γ1 :=
  ⟨h.sub, fun σ F H Q E q => wE.of (hp hm call_len_str ha) (h.run σ F H _ E fun v F' H' E' s r => ⟨z, by rw [show v = V.str z from r], hz, q _ F' H' E' s rfl⟩)⟩
theorem px_gStr {X : Cx} {Γ : DE} {nm z : Str} {pos : Pos} (hm : ∃ t, X.mg nm = some (.str z t)) (hg : Gl X nm := by rfl) (hd : (nm == ("__debug__" : Str)) = false := by decide) : PX X (sh Str) Γ (.Name nm pos) z Γ := by
  obtain ⟨t, ht⟩ := hm
  exact px_glob hg ht (v := .str z) ⟨t, rfl⟩ (fun _ => rfl) hd
theorem px_gInt {X : Cx} {Γ : DE} {nm : Str} {z : Int} {pos : Pos} (hm : ∃ t, X.mg nm = some (.int z t)) (hg : Gl X nm := by rfl) (hd : (nm == ("__debug__" : Str)) = false := by decide) : PX X (sh Int) Γ (.Name nm pos) z Γ := by
  obtain ⟨t, ht⟩ := hm
  exact px_glob hg ht (v := .int z) ⟨t, rfl⟩ (fun _ => rfl) hd
theorem ty_str {K : PySem.W.Frag} {F H : Hp} {v : V} {x : Str} (r : rp K F v x) : TyX K H v (.type "str") := by rw [show v = V.str x from r]; exact .base (.str x)
theorem ty_lst {α : Type} [Rp α] {K : PySem.W.Frag} {F H : Hp} {v : V} {x : List α} (r : rp K F v x) (le : Same F H) : TyX K H v (.type "list") := by
  obtain ⟨a, vs, rfl, h, _⟩ := r
  exact .base (.lst (le _ _ h))
end G
namespace G
open PySem PySem.Spec PyProof.Rows L2
open Rp (rp)
inductive Fld : Type 1
  | sh {α : Type} [Rp α] (x : α)
  | res (r : Res)
def Fld.ads : Fld → List Addr
  | .res r => r.ads
  | _ => []
def Fld.ok (K : PySem.W.Frag) (F H : Hp) (v : V) : Fld → Prop
  | @Fld.sh _ _ x => rp K F v x
  | .res r => r.ok K F H v
abbrev Flds := List (Str × Fld)
def Flds.ads : Flds → List Addr
  | [] => []
  | (_, f) :: r => f.ads ++ Flds.ads r
/-- the fields' values -/
inductive FldsOk (K : PySem.W.Frag) (F H : Hp) : List (Str × V) → Flds → Prop
  | nil : FldsOk K F H [] []
  | cons {n : Str} {v : V} {f : Fld} {vs : List (Str × V)} {fs : Flds} : f.ok K F H v → FldsOk K F H vs fs → FldsOk K F H ((n, v) :: vs) ((n, f) :: fs)
theorem FldsOk.mono {K : PySem.W.Frag} {F F' H : Hp} {vs : List (Str × V)} {fs : Flds} (h : Same F F') (r : FldsOk K F H vs fs) : FldsOk K F' H vs fs := by
  induction r with
  | nil => exact .nil
  | @cons n v f vs fs k _ ih =>
    refine .cons ?_ ih
    cases f with
    | sh x => exact Rp.mono h k
    | res r => exact r.mono h k
theorem FldsOk.frame {K : PySem.W.Frag} {F H H' : Hp} {vs : List (Str × V)} {fs : Flds} (h : ∀ a ∈ Flds.ads fs, H' a = H a) (r : FldsOk K F H vs fs) : FldsOk K F H' vs fs := by
  induction r with
  | nil => exact .nil
  | @cons n v f vs fs k _ ih =>
    refine .cons ?_ (ih fun a m => h a (List.mem_append_right _ m))
    cases f with
    | sh x => exact k
    | res r => exact r.frame (fun a m => h a (List.mem_append_left _ m)) k
@[reducible] def Res.obj (C a dx : Addr) (fs : Flds) : Res where
  ads := a :: Flds.ads fs
  ok := fun K F H v => v = .ref a ∧ a ∉ Flds.ads fs ∧ (Flds.ads fs).Nodup ∧ ∃ vs, H a = some (.ins C dx vs) ∧ FldsOk K F H vs fs
  mono := fun h ⟨e, n, d, vs, t, r⟩ => ⟨e, n, d, vs, t, r.mono h⟩
  frame := fun h ⟨e, n, d, vs, t, r⟩ => ⟨e, n, d, vs, by rw [h _ List.mem_cons_self]; exact t, r.frame fun a m => h a (List.mem_cons_of_mem _ m)⟩
/-- a dict of one's own, its keys ints or texts -/
class Ky (κ : Type) where
  ky : κ → Key
  inj : ∀ a b, ky a = ky b → a = b
instance : Ky Int := ⟨.inl, fun _ _ h => by injection h⟩
instance : Ky Str := ⟨.inr, fun _ _ h => by injection h⟩
abbrev KvL {κ α : Type} [Ky κ] [Rp α] (K : PySem.W.Frag) (F : Hp) (kvs : List (Key × V)) (xs : List (κ × α)) : Prop := Paired (fun p q => p.1 = Ky.ky q.1 ∧ rp K F p.2 q.2) kvs xs
abbrev KtL {α : Type} [Rp α] (K : PySem.W.Frag) (F : Hp) (kvs : List (List Key × V)) (xs : List ((Int × Int) × α)) : Prop := Paired (fun p q => p.1 = [.inl q.1.1, .inl q.1.2] ∧ rp K F p.2 q.2) kvs xs
theorem KvL.mono {κ α : Type} [Ky κ] [Rp α] {K : PySem.W.Frag} {F F' : Hp} {kvs : List (Key × V)} {xs : List (κ × α)} (h : Same F F') (r : KvL K F kvs xs) : KvL K F' kvs xs := Paired.mapP r fun _ _ ⟨a, b⟩ => ⟨a, Rp.mono h b⟩
theorem KtL.mono {α : Type} [Rp α] {K : PySem.W.Frag} {F F' : Hp} {kvs : List (List Key × V)} {xs : List ((Int × Int) × α)} (h : Same F F') (r : KtL K F kvs xs) : KtL K F' kvs xs := Paired.mapP r fun _ _ ⟨a, b⟩ => ⟨a, Rp.mono h b⟩
@[reducible] def Res.dk {κ α : Type} [Ky κ] [Rp α] (a : Addr) (xs : List (κ × α)) : Res where
  ads := [a]
  ok := fun K F H v => v = .ref a ∧ ∃ kvs, H a = some (.dK kvs) ∧ KvL K F kvs xs
  mono := fun h ⟨e, vs, e3, r⟩ => ⟨e, vs, e3, r.mono h⟩
  frame := fun h ⟨e, vs, e3, r⟩ => ⟨e, vs, by rw [h a List.mem_cons_self]; exact e3, r⟩
@[reducible] def Res.dt {α : Type} [Rp α] (a : Addr) (xs : List ((Int × Int) × α)) : Res where
  ads := [a]
  ok := fun K F H v => v = .ref a ∧ ∃ kvs, H a = some (.dT kvs) ∧ KtL K F kvs xs
  mono := fun h ⟨e, vs, e3, r⟩ => ⟨e, vs, e3, r.mono h⟩
  frame := fun h ⟨e, vs, e3, r⟩ => ⟨e, vs, by rw [h a List.mem_cons_self]; exact e3, r⟩
/-- dicts that are shared -/
structure Dk (κ α : Type) where
  l : List (κ × α)
structure Dt (α : Type) where
  l : List ((Int × Int) × α)
theorem KvL.lk {κ α : Type} [Ky κ] [Rp α] {K : PySem.W.Frag} {F F' : Hp} {kvs : List (Key × V)} {xs : List (κ × α)} (h : Alk F F') (r : KvL K F kvs xs) : KvL K F' kvs xs := Paired.mapP r fun _ _ ⟨a, b⟩ => ⟨a, Rp.lk h b⟩
theorem KtL.lk {α : Type} [Rp α] {K : PySem.W.Frag} {F F' : Hp} {kvs : List (List Key × V)} {xs : List ((Int × Int) × α)} (h : Alk F F') (r : KtL K F kvs xs) : KtL K F' kvs xs := Paired.mapP r fun _ _ ⟨a, b⟩ => ⟨a, Rp.lk h b⟩
instance {κ α : Type} [Ky κ] [Rp α] : Rp (Dk κ α) := ⟨fun K F v x => ∃ a kvs, v = .ref a ∧ Rd F a (.dK kvs) ∧ KvL K F kvs x.l, fun h ⟨a, vs, e, s, r⟩ => ⟨a, vs, e, h.rd trivial s, r.lk h⟩⟩
instance {α : Type} [Rp α] : Rp (Dt α) := ⟨fun K F v x => ∃ a kvs, v = .ref a ∧ Rd F a (.dT kvs) ∧ KtL K F kvs x.l, fun h ⟨a, vs, e, s, r⟩ => ⟨a, vs, e, h.rd trivial s, r.lk h⟩⟩
theorem Same.rd {F F' : Hp} {a : Addr} {d : HO} (h : Same F F') (e : Rd F a d) : Rd F' a d := by
  rcases e with e | ⟨o, e⟩
  · exact .inl (h _ _ e)
  · exact .inr ⟨o, h _ _ e⟩
def look {κ α : Type} [DecidableEq κ] (xs : List (κ × α)) (k : κ) : Option α := (xs.find? fun p => decide (p.1 = k)).map (·.2)
def put {κ α : Type} [DecidableEq κ] (xs : List (κ × α)) (k : κ) (v : α) : List (κ × α) := if (xs.any fun p => decide (p.1 = k)) = true then xs.map fun p => if p.1 = k then (p.1, v) else p else xs ++ [(k, v)]
theorem KvL.look {κ α : Type} [DecidableEq κ] [Ky κ] [Rp α] {K : PySem.W.Frag} {F : Hp} {kvs : List (Key × V)} {xs : List (κ × α)} (r : KvL K F kvs xs) (k : κ) :
    (G.look xs k = none ∧ valV kvs (Ky.ky k) = none) ∨ ∃ x v, G.look xs k = some x ∧ valV kvs (Ky.ky k) = some v ∧ rp K F v x := by
  induction r with
  | nil => exact .inl ⟨rfl, rfl⟩
  | @cons p q ps qs h _ ih =>
    by_cases z : q.1 = k
    · refine .inr ⟨q.2, p.2, ?_, ?_, h.2⟩
      · unfold G.look; rw [List.find?_cons_of_pos (by simpa using z)]; rfl
      · unfold valV; rw [List.find?_cons_of_pos (by rw [h.1, z]; simp)]; rfl
    · have z2 : ¬ p.1 = Ky.ky k := fun e => z (Ky.inj _ _ (h.1.symm.trans e))
      have e1 : G.look (q :: qs) k = G.look qs k := by unfold G.look; rw [List.find?_cons_of_neg (by simpa using z)]
      have e2 : valV (p :: ps) (Ky.ky k) = valV ps (Ky.ky k) := by unfold valV; rw [List.find?_cons_of_neg (by simpa using z2)]
      rw [e1, e2]; exact ih
theorem KtL.look {α : Type} [Rp α] {K : PySem.W.Frag} {F : Hp} {kvs : List (List Key × V)} {xs : List ((Int × Int) × α)} (r : KtL K F kvs xs) (k : Int × Int) :
    (G.look xs k = none ∧ valV kvs [Sum.inl k.1, Sum.inl k.2] = none) ∨ ∃ x v, G.look xs k = some x ∧ valV kvs [Sum.inl k.1, Sum.inl k.2] = some v ∧ rp K F v x := by
  induction r with
  | nil => exact .inl ⟨rfl, rfl⟩
  | @cons p q ps qs h _ ih =>
    by_cases z : q.1 = k
    · refine .inr ⟨q.2, p.2, ?_, ?_, h.2⟩
      · unfold G.look; rw [List.find?_cons_of_pos (by simpa using z)]; rfl
      · unfold valV; rw [List.find?_cons_of_pos (by rw [h.1, z]; simp)]; rfl
    · have z2 : ¬ p.1 = [Sum.inl k.1, Sum.inl k.2] := fun e => z (by
        have e := h.1.symm.trans e
        injection e with e1 e2
        injection e2 with e2 _
        injection e1 with e1
        injection e2 with e2
        exact Prod.ext e1 e2)
      have e1 : G.look (q :: qs) k = G.look qs k := by unfold G.look; rw [List.find?_cons_of_neg (by simpa using z)]
      have e2 : valV (p :: ps) [Sum.inl k.1, Sum.inl k.2] = valV ps [Sum.inl k.1, Sum.inl k.2] := by unfold valV; rw [List.find?_cons_of_neg (by simpa using z2)]
      rw [e1, e2]; exact ih
end G
namespace G
open PySem PySem.Spec PyProof.Rows L2
open Rp (rp)
structure Crs where
  rows : List (List (List Str))
  begin_ : Int
  deedDays : List Int
  ringBy : Dk Str (Int × Int)
  nameBy : Dt Str
  greatest : Int
abbrev crsA (K : PySem.W.Frag) : Addr := He.ga K "Course"
instance : Rp Crs := ⟨fun K F v c => ∃ a dx v1 v2 v3 v4 v5 v6, v = .ref a ∧ F a = some (.ins (crsA K) dx [("rows", v1), ("begin", v2), ("deed_days", v3), ("ring_by", v4), ("name_by", v5), ("greatest", v6)]) ∧
    rp K F v1 c.rows ∧ rp K F v2 c.begin_ ∧ rp K F v3 c.deedDays ∧ rp K F v4 c.ringBy ∧ rp K F v5 c.nameBy ∧ rp K F v6 c.greatest,
  fun h ⟨a, dx, v1, v2, v3, v4, v5, v6, e, t, r1, r2, r3, r4, r5, r6⟩ => ⟨a, dx, v1, v2, v3, v4, v5, v6, e, h.ins t, Rp.lk h r1, Rp.lk h r2, Rp.lk h r3, Rp.lk h r4, Rp.lk h r5, Rp.lk h r6⟩⟩
section
variable {X : Cx} {m : Md} {Γ Γ1 Γ2 Γ3 : DE} {e a b o k : Expr} {es : List Expr} {pos p p2 apos cpos : Pos} {nm : Str} {c : Crs}
/-- a field of a course -/
theorem px_fld {α : Type} [Rp α] {x : α} {f : Str} (h : PX X (sh Crs) Γ e c Γ1) (hc : Cls X.K (crsA X.K)) (hn : NoAttr X.K (crsA X.K) f)
    (hf : ∀ F v1 v2 v3 v4 v5 v6, rp X.K F v1 c.rows → rp X.K F v2 c.begin_ → rp X.K F v3 c.deedDays → rp X.K F v4 c.ringBy → rp X.K F v5 c.nameBy → rp X.K F v6 c.greatest →
      ∃ v, List.lookup f [(("rows" : Str), v1), ("begin", v2), ("deed_days", v3), ("ring_by", v4), ("name_by", v5), ("greatest", v6)] = some v ∧ rp X.K F v x)
    (hb : attributeBase e f X.env (eval e X.env) = eval e X.env := by rfl) : PX X (sh α) Γ (.Attribute e f pos) x Γ1 :=
  ⟨h.sub, fun σ F H Q E q => wE.of (pe_fld pE hb) (h.run σ F H _ E fun v F' H' E' s ⟨ad, dx, v1, v2, v3, v4, v5, v6, ev, t, r1, r2, r3, r4, r5, r6⟩ => by
    obtain ⟨w, hw, r⟩ := hf F' v1 v2 v3 v4 v5 v6 r1 r2 r3 r4 r5 r6
    exact ⟨ad, _, dx, _, w, ev, E'.le _ _ t, hc, hn, hw, q w F' H' E' s r⟩)⟩
theorem px_rows (hc : Cls X.K (crsA X.K)) (hn : NoAttr X.K (crsA X.K) "rows") (h : PX X (sh Crs) Γ e c Γ1) (hb : attributeBase e "rows" X.env (eval e X.env) = eval e X.env := by rfl) : PX X (sh (List (List (List Str)))) Γ (.Attribute e "rows" pos) c.rows Γ1 :=
  px_fld h hc hn (fun F v1 v2 v3 v4 v5 v6 r1 r2 r3 r4 r5 r6 => ⟨v1, rfl, r1⟩) hb
theorem px_ringBy (hc : Cls X.K (crsA X.K)) (hn : NoAttr X.K (crsA X.K) "ring_by") (h : PX X (sh Crs) Γ e c Γ1) (hb : attributeBase e "ring_by" X.env (eval e X.env) = eval e X.env := by rfl) : PX X (sh (Dk Str (Int × Int))) Γ (.Attribute e "ring_by" pos) c.ringBy Γ1 :=
  px_fld h hc hn (fun F v1 v2 v3 v4 v5 v6 r1 r2 r3 r4 r5 r6 => ⟨v4, rfl, r4⟩) hb
theorem px_nameBy (hc : Cls X.K (crsA X.K)) (hn : NoAttr X.K (crsA X.K) "name_by") (h : PX X (sh Crs) Γ e c Γ1) (hb : attributeBase e "name_by" X.env (eval e X.env) = eval e X.env := by rfl) : PX X (sh (Dt Str)) Γ (.Attribute e "name_by" pos) c.nameBy Γ1 :=
  px_fld h hc hn (fun F v1 v2 v3 v4 v5 v6 r1 r2 r3 r4 r5 r6 => ⟨v5, rfl, r5⟩) hb
theorem px_greatest (hc : Cls X.K (crsA X.K)) (hn : NoAttr X.K (crsA X.K) "greatest") (h : PX X (sh Crs) Γ e c Γ1) (hb : attributeBase e "greatest" X.env (eval e X.env) = eval e X.env := by rfl) : PX X (sh Int) Γ (.Attribute e "greatest" pos) c.greatest Γ1 :=
  px_fld h hc hn (fun F v1 v2 v3 v4 v5 v6 r1 r2 r3 r4 r5 r6 => ⟨v6, rfl, r6⟩) hb
/-- d.get((i, j)) of a shared dict with pairs as keys -/
theorem px_dget1T {α : Type} [Rp α] {d : Dt α} {i : Int × Int} (hu : X.A.units + 1 < cLine) (ho : PX X (sh (Dt α)) Γ o d Γ1) (hk : PX X (sh (Int × Int)) Γ1 k i Γ2)
    (hm : M1 X o "get" apos k cpos := by exact ⟨rfl, rfl, rfl, rfl⟩) :
    PX X (sh (Option α)) Γ (.Call (.Attribute o "get" apos) [k] [] cpos) (look d.l i) Γ2 :=
  ⟨fun p q => ho.sub p (hk.sub p q), fun σ F H Q E q => wE.of (pe_dget1 hu pE pE hm) (ho.run σ F H _ E fun v F1 H1 E1 s1 ⟨ad, kvs, ev, t, r⟩ => ⟨ad, ev, .inr ⟨kvs, Same.rd E1.le t⟩, hk.run σ F1 H1 _ E1 fun w F2 H2 E2 s2 ⟨b, w1, w2, ew, t2, q1, q2⟩ => by
    have g1 := Same.rd E2.le (Same.rd s2.up t)
    have g2 := E2.le _ _ t2
    rw [show w1 = V.int i.1 from q1, show w2 = V.int i.2 from q2] at g2
    subst ew
    refine ⟨valV kvs [Sum.inl i.1, Sum.inl i.2], .inr ⟨kvs, [.inl i.1, .inl i.2], b, g1, rfl, g2, rfl⟩, q _ F2 H2 E2 (s1.sub s2 ho.sub) ?_⟩
    rcases KtL.look (r.mono s2.up) i with ⟨e1, e2⟩ | ⟨x, u, e1, e2, r3⟩
    · rw [e1, e2]; rfl
    · rw [e1, e2]; exact r3⟩)⟩
end
def PlainM (st : Stmt) (x qual : Str) (ps : List Str) : Prop := ∀ (kV doc pm : Value) (an : Option Addr) (cdv ct : Value) (us : List Value), us.length = ps.length → bindArgs (PySem.W.fnOf x qual (defArgs st) (defBody st) (defScope st) .none kV doc pm an cdv ct) ⟨us, []⟩ = pure (ps.zip us)
abbrev crsM (K : PySem.W.Frag) (x : Str) : Addr := He.ma K (crsA K) x
/-- a method that may be called -/
def CanM (P : Program) (w : World) (K : PySem.W.Frag) (mg : Str → Option Value) (base : Heap) (CX : CXT) (k : Nat) (x : Str) (ps : List Str) (sp : Sp) : Prop :=
  Cls K (crsA K) ∧ Meth K (crsA K) x (crsM K x) ∧ ∃ fd : FuncData, FnOk P w K mg base CX k (crsM K x) fd ps sp ∧ Binds K fd ps []
section
variable {P : Program} {w : World} {K : PySem.W.Frag} {mg : Str → Option Value} {base : Heap} {x qual : Str} {sst : Stmt} {N ps : List Str} {k : Nat} {m : Md} {R : DE → m.β → DE → Prop}
theorem CanM.mono {CX : CXT} {j k : Nat} {sp : Sp} (C : CanM P w K mg base CX j x ps sp) (h : j ≤ k) : CanM P w K mg base CX k x ps sp := by
  obtain ⟨c, me, fd, F, b⟩ := C
  exact ⟨c, me, fd, F.mono h, b⟩
abbrev cxM (P : Program) (w : World) (K : PySem.W.Frag) (mg : Str → Option Value) (base : Heap) (N : List Str) (qual : Str) (sst : Stmt) (f : Addr) (cdv : Value) (A : Around) (outer : List PySem.Env) (s : Shared) (H : Hp) (E : XK) : Cx := (cxOf CX0 P w K mg base N qual (defScope sst) f cdv A outer s H E).nox
theorem canM (cl : Cls K (crsA K)) (me : Meth K (crsA K) x (crsM K x)) (T : ∃ fd, FunD K x qual (defArgs sst) (defBody sst) (defScope sst) [] [] (crsM K x) fd) (S : FnScope N ps (defScope sst)) (b : PlainM sst x qual ps)
    (hbody : ∀ (cdv : Value) (A : Around) (outer : List PySem.Env) (s : Shared) (H : Hp) (E : XK) (Γ : DE) (y : m.β) (Γ' : DE), Room k (A.deeper (envOfC qual (defScope sst) s.heap.objs.size (crsM K x) cdv)) → R Γ y Γ' →
      SD (cxM P w K mg base N qual sst (crsM K x) cdv A outer s H E) m (Γ ++ List.replicate (N.length - Γ.length) .no) (defBody sst) (axD m K y Γ Γ')) :
    CanM P w K mg base CX0 (k + 1) x ps (spM K m ps.length R) := by
  obtain ⟨fd, F⟩ := T
  exact ⟨cl, me, fd, fnD F S hbody, F.bindsN b⟩
end
section
variable {X : Cx} {Γ Γ1 Γ2 : DE} {o e : Expr} {es : List Expr} {apos cpos : Pos} {x : Str} {k : Nat} {ps : List Str} {ents : DE} {m1 : Md} {R : DE → m1.β → DE → Prop} {y : m1.β} {Γc : DE} {c : Crs}
/-- o.m(e, ..) -/
theorem px_m {pl : Sem Bool} (C : CanM X.prog X.w X.K X.mg X.base CX0 k x ps (spM X.K m1 ps.length R)) (hr : Room k X.A) (ho : PX X (sh Crs) Γ o c Γ1) (ha : AX X Γ1 (e :: es) ents Γ2) (hR : R (.is c :: ents) y Γc) (hn : (Ent.is c :: ents).length = ps.length := by rfl) (hi : IsOnly (Ent.is c :: ents) := by rfl)
    (hl : ∀ v1 v2 v3 v4 v5 v6 : V, List.lookup x [(("rows" : Str), v1), ("begin", v2), ("deed_days", v3), ("ring_by", v4), ("name_by", v5), ("greatest", v6)] = none := by intro _ _ _ _ _ _; rfl)
    (he : starEach (e :: es) X.env = (false, eval e X.env) :: starEach es X.env := by rfl) (hpl : (backTo cpos (starEach es X.env)).any (·.1) = false := by rfl)
    (heq : eval (.Call (.Attribute o x apos) (e :: es) [] cpos) X.env = (do
      let ov ← eval o X.env
      standAt (Pos.atName apos)
      let (f, first) ← holding [ov] (getMethod ov x pl)
      callWith cpos f first (backTo cpos (starEach (e :: es) X.env)) (backToKw cpos (keywordEach [] X.env))) := by rfl) :
    PX X m1 Γ (.Call (.Attribute o x apos) (e :: es) [] cpos) y Γ2 := by
  obtain ⟨cl, me, fd, F, b⟩ := C
  have no := hi.no
  refine ⟨fun a q => ho.sub a (ha.sub a q), fun σ F0 H Q E0 q => wE.of (pe_meth pE cl me F hr b .nil pass0 pA he hpl heq) ?_⟩
  refine ho.run σ F0 H _ E0 fun v Fa Ha Ea sa ⟨ad, dx, v1, v2, v3, v4, v5, v6, ev, t, r1, r2, r3, r4, r5, r6⟩ => ⟨ad, dx, _, ev, Ea.le _ _ t, hl _ _ _ _ _ _, ?_⟩
  refine ha.run σ Fa Ha _ Ea fun vs F1 H1 E1 s1 ra => ?_
  have self : rp X.K F1 v c := Rp.mono s1.up (⟨ad, dx, v1, v2, v3, v4, v5, v6, ev, t, r1, r2, r3, r4, r5, r6⟩ : rp X.K Fa v c)
  have ok : EntsOk X.K F1 H1 (v :: (vs ++ [])) (.is c :: ents) := by
    rw [List.append_nil]
    refine ⟨by simp [ra.1], fun i e q => ?_⟩
    cases i with
    | zero => simp at q; subst q; exact ⟨v, rfl, v, rfl, self⟩
    | succ i => simpa using ra.2 i e (by simpa using q)
  refine ⟨by rw [ok.1, hn], F1, _, y, Γc, hR, entsEnv E1.le ok (fun i j a q _ => (no i a q).elim), fun v F' H' E' s r => ?_⟩
  have on : ∀ a, ¬ Own (.is c :: ents) a := fun a ⟨i, z⟩ => no i a z
  refine q v F' H' (E1.after0 s E'.le on) ((sa.sub s1 ho.sub).sub (s.sub Step.refl (fun p h => h)) fun p z => absurd z (on p)) (m1.pre (fun p h => sa.there p (s1.there p h)) r)
end
end G
namespace G
open PySem PySem.Spec PyProof.Rows L2
open Rp (rp)
/-- slot i's thing changes, and may have taken in what no slot owned -/
theorem Env.chg2 {K : PySem.W.Frag} {Γ : DE} {σ : L2.St} {F H F' H' : Hp} {i : Nat} {e e' : Ent} (E : Env K Γ σ F H) (h : Γ[i]? = some e) (s : Step (· ∈ e.ads) F H F' H') (le : Same F' H') (ok : ∀ o, σ[i]? = some o → e'.ok K F' H' o) (ads : ∀ a ∈ e'.ads, a ∈ e.ads ∨ ¬ Own Γ a) :
    Env K (Γ.set i e') σ F' H' ∧ Step (Own Γ) F H F' H' := by
  have own : ∀ a, a ∈ e.ads → a ∈ adsAt Γ i := fun a m => by rw [adsAt_of h]; exact m
  have other : ∀ j a, j ≠ i → a ∈ adsAt Γ j → a ∉ e.ads := fun j a n m z => n (E.sep j i a m (own a z))
  refine ⟨⟨le, by simpa using E.len, fun j e2 q => ?_, fun j k p q q' => ?_⟩, ⟨s.up, fun p o hp no => s.keep p o hp fun z => no ⟨i, own p z⟩, s.there, fun p h1 h2 => (s.fresh p h1 h2).imp id fun z => ⟨i, own p z⟩⟩⟩
  · rcases get_set q with ⟨rfl, rfl, hi⟩ | ⟨n, q'⟩
    · obtain ⟨o, ho, _⟩ := E.ent j e h
      exact ⟨o, ho, ok o ho⟩
    · obtain ⟨o, ho, r'⟩ := E.ent j e2 q'
      have st : ∀ a ∈ e2.ads, H' a = H a ∧ F' a = none := fun a m => s.same (r'.free m).2 (r'.free m).1 (other j a n (by rw [adsAt_of q']; exact m))
      exact ⟨o, ho, r'.move s.up (fun a m => (st a m).1) fun a m => (st a m).2⟩
  · have new : ∀ j a, j ≠ i → a ∈ e'.ads → a ∉ adsAt Γ j := fun j a n m z => by
      rcases ads a m with y | y
      · exact other j a n z y
      · exact y ⟨j, z⟩
    rcases adr_set q with ⟨e1, z⟩ | ⟨n, z⟩ <;> rcases adr_set q' with ⟨e2, z'⟩ | ⟨n', z'⟩
    · rw [e1, e2]
    · exact absurd z' (new k p n' z)
    · exact absurd z (new j p n z')
    · exact E.sep j k p z z'
theorem FldsOk.names {K : PySem.W.Frag} {F H : Hp} {vs : List (Str × V)} {fs : Flds} (r : FldsOk K F H vs fs) : vs.map (·.1) = fs.map (·.1) := by
  induction r with
  | nil => rfl
  | cons _ _ ih => rw [List.map_cons, List.map_cons, ih]
theorem FldsOk.at_ {K : PySem.W.Frag} {F H : Hp} {vs : List (Str × V)} {fs : Flds} (r : FldsOk K F H vs fs) {n : Str} {f : Fld} (h : fs.lookup n = some f) : ∃ v, vs.lookup n = some v ∧ f.ok K F H v := by
  induction r with
  | nil => cases h
  | @cons n' v f' vs fs k _ ih =>
    rw [List.lookup_cons] at h ⊢
    cases q : n == n' with
    | true => rw [q] at h; cases h; exact ⟨v, rfl, k⟩
    | false => rw [q] at h; exact ih h
theorem ads_app (fs gs : Flds) : Flds.ads (fs ++ gs) = Flds.ads fs ++ Flds.ads gs := by
  induction fs with
  | nil => rfl
  | cons p r ih => show p.2.ads ++ Flds.ads (r ++ gs) = _; rw [ih, ← List.append_assoc]; rfl
theorem FldsOk.app {K : PySem.W.Frag} {F H : Hp} {vs ws : List (Str × V)} {fs gs : Flds} (r : FldsOk K F H vs fs) (t : FldsOk K F H ws gs) : FldsOk K F H (vs ++ ws) (fs ++ gs) := by
  induction r with
  | nil => exact t
  | cons k _ ih => exact .cons k ih
section
variable {X : Cx} {Γ Γ1 : DE} {e : Expr} {pos p : Pos} {nm : Str} {C a dx : Addr} {fs : Flds}
/-- self.f, a list of its own, read at once -/
theorem px_fldB {α : Type} [Rp α] {xs : List α} {ad : Addr} {f : Str} (i : Nat) (h : Γ[i]? = some (.res (.obj C a dx fs)) := by rfl) (hl : fs.lookup f = some (.res (.lst ad xs)) := by rfl) (hc : Cls X.K C) (hn : NoAttr X.K C f) (hN : X.N[i]? = some nm := by rfl) (hv : Vis X.env.scope nm := by first | exact Or.inl rfl | exact Or.inr (Or.inl rfl) | exact Or.inr (Or.inr rfl))
    (hd : (nm == ("__debug__" : Str)) = false := by decide) (hcd : (nm == ("__classdict__" : Str)) = false := by decide) (hb : attributeBase (.Name nm p) f X.env (eval (.Name nm p) X.env) = eval (.Name nm p) X.env := by rfl) : PX X (br α) Γ (.Attribute (.Name nm p) f pos) xs Γ :=
  px_of fun σ F H Q E q => by
    obtain ⟨o, ho, v, rfl, fr, rfl, _, _, vs, t, r⟩ := E.ent i _ h
    obtain ⟨u, hu, e1, ws, t2, r2⟩ := r.at_ hl
    exact wE.of (pe_fld (pe_var hN hv hd hcd) hb) ⟨_, ho, a, C, dx, vs, u, rfl, t, hc, hn, hu, q u ⟨ad, ws, e1, .inl (.inl t2), r2⟩⟩
end
theorem putF_new {f : Str} {v : V} : ∀ {vs : List (Str × V)}, f ∉ vs.map (·.1) → putF f v vs = vs ++ [(f, v)]
  | [], _ => rfl
  | (g, x) :: r, h => by
    unfold putF
    rw [if_neg (fun z => h (by rw [List.map_cons, z]; exact List.mem_cons_self)), putF_new fun m => h (List.mem_cons_of_mem _ m)]
    rfl
section
variable {X : Cx} {m : Md} {D : Ax m} {rest : List Stmt} {Γ Γ1 : DE} {e : Expr} {pos p apos : Pos} {nm : Str} {C a dx : Addr} {fs : Flds}
/-- an object takes in a field -/
theorem Env.field {K : PySem.W.Frag} {σ : L2.St} {F H : Hp} {i : Nat} {f : Str} {fl : Fld} {v : V} (E : Env K Γ σ F H) (h : Γ[i]? = some (.res (.obj C a dx fs))) (hf : f ∉ fs.map (·.1)) (ok : fl.ok K F H v) (hnd : fl.ads.Nodup) (fr : ∀ b ∈ fl.ads, ¬ Own Γ b ∧ F b = none ∧ H b ≠ none) :
    ∃ vs, H a = some (.ins C dx vs) ∧ vs.length = fs.length ∧ σ[i]? = some (some (.ref a)) ∧ Env K (Γ.set i (.res (.obj C a dx (fs ++ [(f, fl)])))) σ F (upd H a (.ins C dx (putF f v vs))) ∧ Step (Own Γ) F H F (upd H a (.ins C dx (putF f v vs))) := by
  obtain ⟨o, ho, w, rfl, fr0, rfl, na, nd, vs, t, r⟩ := E.ent i _ h
  have own : ∀ b ∈ (Res.obj C a dx fs).ads, Own Γ b := fun b mb => ⟨i, by rw [adsAt_of h]; exact mb⟩
  have hFa : F a = none := (fr0 a List.mem_cons_self).1
  have e1 : Flds.ads [(f, fl)] = fl.ads := by show fl.ads ++ [] = _; rw [List.append_nil]
  have ads : ∀ b, b ∈ Flds.ads (fs ++ [(f, fl)]) → b ∈ Flds.ads fs ∨ b ∈ fl.ads := fun b mb => by
    rw [ads_app, e1] at mb; exact List.mem_append.mp mb
  have na2 : a ∉ Flds.ads (fs ++ [(f, fl)]) := fun z => (ads a z).elim na fun z => (fr a z).1 (own a List.mem_cons_self)
  have len : vs.length = fs.length := by have := congrArg List.length r.names; simpa using this
  have le : Same F (upd H a (.ins C dx (putF f v vs))) := fun b x e => by rw [upd_ne (ne_of_none e hFa)]; exact E.le _ _ e
  have hv : f ∉ vs.map (·.1) := by rw [r.names]; exact hf
  obtain ⟨E2, s2⟩ := E.chg2 (e' := .res (.obj C a dx (fs ++ [(f, fl)]))) h (step_upd (O := (· ∈ (Ent.res (.obj C a dx fs)).ads)) List.mem_cons_self) le (fun o ho' => by
    rw [ho] at ho'; cases ho'
    refine ⟨_, rfl, fun b mb => ?_, rfl, na2, ?_, vs ++ [(f, v)], by rw [upd_same, putF_new hv], ?_⟩
    · rcases List.mem_cons.mp mb with rfl | mb
      · exact ⟨hFa, by rw [upd_same]; exact fun z => nomatch z⟩
      · have nb : b ≠ a := fun z => na2 (z ▸ mb)
        rw [upd_ne nb]
        rcases ads b mb with y | y
        · exact fr0 b (List.mem_cons_of_mem _ y)
        · exact (fr b y).2
    · rw [ads_app, e1, List.nodup_append]
      exact ⟨nd, hnd, fun b hb c hc z => (fr c hc).1 (own c (List.mem_cons_of_mem _ (z ▸ hb)))⟩
    · refine (FldsOk.app r (.cons ok .nil)).frame fun b mb => ?_
      exact upd_ne fun z => na2 (z ▸ mb)) (fun b mb => by
    rcases List.mem_cons.mp mb with rfl | mb
    · exact .inl List.mem_cons_self
    · rcases ads b mb with y | y
      · exact .inl (List.mem_cons_of_mem _ y)
      · exact .inr (fr b y).1)
  exact ⟨vs, t, len, ho, E2, s2⟩
theorem own_field {i : Nat} {f : Str} {fl : Fld} (h : Γ[i]? = some (.res (.obj C a dx fs))) {b : Addr} (q : Own (Γ.set i (.res (.obj C a dx (fs ++ [(f, fl)])))) b) : b ∈ fl.ads ∨ Own Γ b := by
  rcases own_set q with z | z
  · rcases List.mem_cons.mp z with rfl | z
    · exact .inr ⟨i, by rw [adsAt_of h]; exact List.mem_cons_self⟩
    · rw [ads_app] at z
      rcases List.mem_append.mp z with z | z
      · exact .inr ⟨i, by rw [adsAt_of h]; exact List.mem_cons_of_mem _ z⟩
      · exact .inl (by have : b ∈ fl.ads ++ [] := z; simpa using this)
  · exact .inr z
/-- self.f = e, f new, e shared -/
theorem sd_fldS {α : Type} [Rp α] {x : α} {f : Str} (i : Nat) (he : PX X (sh α) Γ e x Γ1) (h : Γ1[i]? = some (.res (.obj C a dx fs))) (hf : f ∉ fs.map (·.1)) (hl : fs.length < 100) (k : SD X m (Γ1.set i (.res (.obj C a dx (fs ++ [(f, .sh x)])))) rest D) (hc : Cls X.K C) (hn : NoAttr X.K C f) (hN : X.N[i]? = some nm := by rfl)
    (hv : Vis X.env.scope nm := by first | exact Or.inl rfl | exact Or.inr (Or.inl rfl) | exact Or.inr (Or.inr rfl)) (hs : swapsWith e (some (.Attribute (.Name nm p) f apos)) pos.line X.env = pure false := by rfl) (hd : (nm == ("__debug__" : Str)) = false := by decide) (hcd : (nm == ("__classdict__" : Str)) = false := by decide) :
    SD X m Γ (.Assign [.Attribute (.Name nm p) f apos] e pos :: rest) D :=
  sd_c1 (fun σ F H D' E L => wS1.of (ps_fld (pe_var hN hv hd hcd) pE hs) (he.run σ F H _ E fun v F1 H1 E1 s1 r1 => by
    obtain ⟨vs, t, len, ho, E2, s2⟩ := E1.field (fl := .sh x) (v := v) h hf r1 List.nodup_nil (fun b mb => by cases mb)
    exact ⟨_, ho, a, C, dx, vs, rfl, t, hc, hn, by omega, L.nx _ σ F1 _ rfl E2 ⟨s1.sub s2 he.sub, fun b q => .inl (he.sub b ((own_field h q).elim (fun z => by cases z) id))⟩⟩)) k
/-- .. e something new of its own -/
theorem sd_fldR {Pr : Res → Prop} {f : Str} (i : Nat) (he : PX X (nr Pr) Γ e () Γ1) (h : Γ1[i]? = some (.res (.obj C a dx fs))) (hf : f ∉ fs.map (·.1)) (hl : fs.length < 100) (hnd : ∀ r, Pr r → r.ads.Nodup) (k : ∀ r, Pr r → SD X m (Γ1.set i (.res (.obj C a dx (fs ++ [(f, .res r)])))) rest D) (hc : Cls X.K C) (hn : NoAttr X.K C f) (hN : X.N[i]? = some nm := by rfl)
    (hv : Vis X.env.scope nm := by first | exact Or.inl rfl | exact Or.inr (Or.inl rfl) | exact Or.inr (Or.inr rfl)) (hs : swapsWith e (some (.Attribute (.Name nm p) f apos)) pos.line X.env = pure false := by rfl) (hd : (nm == ("__debug__" : Str)) = false := by decide) (hcd : (nm == ("__classdict__" : Str)) = false := by decide) :
    SD X m Γ (.Assign [.Attribute (.Name nm p) f apos] e pos :: rest) D := by
  refine sd_cons (N := fun Γ' => ∃ r, Pr r ∧ Γ' = Γ1.set i (.res (.obj C a dx (fs ++ [(f, .res r)])))) ?_ (fun _ ⟨r, hr, z⟩ => z ▸ k r hr)
  exact fun σ F H D' E L => wS1.of (ps_fld (pe_var hN hv hd hcd) pE hs) (he.run σ F H _ E fun v F1 H1 E1 s1 ⟨r, hr, fr, ok⟩ => by
    obtain ⟨vs, t, len, ho, E2, s2⟩ := E1.field (fl := .res r) (v := v) h hf ok (hnd r hr) (fun b mb => ⟨fun z => Own.some (he.sub _ z) E (fr b mb).1, (fr b mb).2⟩)
    exact ⟨_, ho, a, C, dx, vs, rfl, t, hc, hn, by omega, L.nx _ σ F1 _ ⟨r, hr, rfl⟩ E2 ⟨s1.sub s2 he.sub, fun b q => (own_field h q).elim (fun z => .inr (fr b z).1) fun z => .inl (he.sub b z)⟩⟩)
end
theorem FldsOk.ix {K : PySem.W.Frag} {F H : Hp} {vs : List (Str × V)} {fs : Flds} (r : FldsOk K F H vs fs) : ∀ {j : Nat} {n : Str} {f : Fld}, fs[j]? = some (n, f) → ∃ v, vs[j]? = some (n, v) ∧ f.ok K F H v := by
  induction r with
  | nil => intro j n f h; simp at h
  | @cons n' v f' vs fs k _ ih =>
    intro j n f h
    cases j with
    | zero => simp at h; obtain ⟨rfl, rfl⟩ := h; exact ⟨v, rfl, k⟩
    | succ j => simpa using ih (by simpa using h)
theorem ads_set : ∀ {fs : Flds} {j : Nat} {n : Str} {f f' : Fld}, fs[j]? = some (n, f) → f'.ads = f.ads → Flds.ads (fs.set j (n, f')) = Flds.ads fs
  | [], j, n, f, f', h, _ => by simp at h
  | (n', g) :: r, 0, n, f, f', h, e => by
    simp at h; obtain ⟨rfl, rfl⟩ := h
    show f'.ads ++ Flds.ads r = g.ads ++ Flds.ads r
    rw [e]
  | (n', g) :: r, j + 1, n, f, f', h, e => by
    show g.ads ++ Flds.ads (r.set j (n, f')) = g.ads ++ Flds.ads r
    rw [ads_set (by simpa using h) e]
theorem ads_ix : ∀ {fs : Flds} {j : Nat} {n : Str} {f : Fld}, fs[j]? = some (n, f) → ∀ b ∈ f.ads, b ∈ Flds.ads fs
  | [], j, n, f, h, _, _ => by simp at h
  | (n', g) :: r, 0, n, f, h, b, m => by simp at h; obtain ⟨rfl, rfl⟩ := h; exact List.mem_append_left _ m
  | (n', g) :: r, j + 1, n, f, h, b, m => List.mem_append_right _ (ads_ix (fs := r) (j := j) (by simpa using h) b m)
/-- .. the others stand -/
theorem FldsOk.chg {K : PySem.W.Frag} {F H F' H' : Hp} {r r' : Res} (up : Same F F') (heq : r'.ads = r.ads) (same : ∀ b, b ∉ r.ads → H' b = H b ∨ H b = none) (ok : ∀ v, r.ok K F H v → r'.ok K F' H' v) :
    ∀ {vs : List (Str × V)} {fs : Flds} {j : Nat} {n : Str}, FldsOk K F H vs fs → (Flds.ads fs).Nodup → (∀ b ∈ Flds.ads fs, H b ≠ none) → fs[j]? = some (n, .res r) → FldsOk K F' H' vs (fs.set j (n, .res r'))
  | _, _, _, _, .nil, _, _, h => by simp at h
  | _, _, 0, _, @FldsOk.cons _ _ _ n' v f vs fs k t, nd, hh, h => by
    simp at h
    obtain ⟨rfl, rfl⟩ := h
    have nd2 := List.nodup_append.mp (show (r.ads ++ Flds.ads fs).Nodup from nd)
    refine .cons (ok v k) ((t.mono up).frame fun b m => ?_)
    rcases same b (fun z => nd2.2.2 b z b m rfl) with e | e
    · exact e
    · exact absurd e (hh b (List.mem_append_right _ m))
  | _, _, j + 1, nn, @FldsOk.cons _ _ _ n' v f vs fs k t, nd, hh, h => by
    have nd2 := List.nodup_append.mp (show (f.ads ++ Flds.ads fs).Nodup from nd)
    have h : fs[j]? = some (nn, .res r) := by simpa using h
    refine .cons ?_ (FldsOk.chg up heq same ok t nd2.2.1 (fun b m => hh b (List.mem_append_right _ m)) h)
    have fr : ∀ b ∈ f.ads, H' b = H b := fun b m => by
      rcases same b (fun z => nd2.2.2 b m b (ads_ix h b z) rfl) with e | e
      · exact e
      · exact absurd e (hh b (List.mem_append_left _ m))
    cases f with
    | sh x => exact Rp.mono up k
    | res r2 => exact r2.frame fr (r2.mono up k)
theorem Env.fieldChg {K : PySem.W.Frag} {Γ : DE} {σ : L2.St} {F H F' H' : Hp} {i j : Nat} {C a dx : Addr} {fs : Flds} {n : Str} {r r' : Res} (E : Env K Γ σ F H) (h : Γ[i]? = some (.res (.obj C a dx fs))) (hj : fs[j]? = some (n, .res r)) (heq : r'.ads = r.ads) (s : Step (· ∈ r.ads) F H F' H') (hF : ∀ b ∈ r.ads, F' b = none) (le : Same F' H') (ok : ∀ v, r.ok K F H v → r'.ok K F' H' v) :
    Env K (Γ.set i (.res (.obj C a dx (fs.set j (n, .res r'))))) σ F' H' ∧ Stp Γ F H (Γ.set i (.res (.obj C a dx (fs.set j (n, .res r'))))) F' H' := by
  have ea : Flds.ads (fs.set j (n, .res r')) = Flds.ads fs := ads_set (f := .res r) (f' := .res r') hj heq
  obtain ⟨o, ho, v, rfl, fr, rfl, na, nd, vs, t, rr⟩ := E.ent i _ h
  have inn : ∀ b ∈ r.ads, b ∈ Flds.ads fs := ads_ix hj
  have s2 : Step (· ∈ (Ent.res (.obj C a dx fs)).ads) F H F' H' := ⟨s.up, fun p o e no => s.keep p o e fun z => no (List.mem_cons_of_mem _ (inn p z)), s.there, fun p h1 h2 => (s.fresh p h1 h2).imp id fun z => List.mem_cons_of_mem _ (inn p z)⟩
  have same : ∀ b, b ∉ r.ads → H' b = H b ∨ H b = none := fun b nb => by
    cases q : H b with
    | none => exact .inr rfl
    | some o => exact .inl (s.keep b o q nb)
  have ha : H' a = H a := (same a fun z => na (inn a z)).resolve_right (by rw [t]; exact fun z => nomatch z)
  refine E.chg (e' := .res (.obj C a dx (fs.set j (n, .res r')))) h s2 le (fun o ho' => ?_) (fun b m => .inl ?_)
  · rw [ho] at ho'; cases ho'
    refine ⟨_, rfl, fun b m => ?_, rfl, by rw [ea]; exact na, by rw [ea]; exact nd, vs, by rw [ha]; exact t, FldsOk.chg s.up heq same ok rr nd (fun b m => (fr b (List.mem_cons_of_mem _ m)).2) hj⟩
    have m2 : b ∈ (Res.obj C a dx fs).ads := by
      rcases List.mem_cons.mp m with rfl | m
      · exact List.mem_cons_self
      · rw [ea] at m; exact List.mem_cons_of_mem _ m
    refine ⟨?_, fun z => (fr b m2).2 (s.there b z)⟩
    by_cases q : b ∈ r.ads
    · exact hF b q
    · exact (s.same (fr b m2).2 (fr b m2).1 q).2
  · rcases List.mem_cons.mp m with rfl | m
    · exact List.mem_cons_self
    · rw [ea] at m; exact List.mem_cons_of_mem _ m
section
variable {X : Cx} {m : Md} {D : Ax m} {rest : List Stmt} {Γ Γ1 : DE} {e : Expr} {pos p fpos apos cpos : Pos} {nm : Str} {C a dx : Addr} {fs fs0 : Flds}
/-- self.f.append(e) -/
theorem sd_fldAppend {α : Type} [Rp α] {y : α} {xs xs0 : List α} {ad : Addr} {f : Str} (i j : Nat) (he : PX X (sh α) Γ e y Γ1) (h1 : Γ1[i]? = some (.res (.obj C a dx fs))) (hj : fs[j]? = some (f, .res (.lst ad xs))) (hz : xs.length < sizeLine)
    (k : SD X m (Γ1.set i (.res (.obj C a dx (fs.set j (f, .res (.lst ad (xs ++ [y]))))))) rest D) (h0 : Γ[i]? = some (.res (.obj C a dx fs0)) := by rfl) (hl : fs0.lookup f = some (.res (.lst ad xs0)) := by rfl) (hc : Cls X.K C) (hn : NoAttr X.K C f) (hN : X.N[i]? = some nm := by rfl)
    (hv : Vis X.env.scope nm := by first | exact Or.inl rfl | exact Or.inr (Or.inl rfl) | exact Or.inr (Or.inr rfl)) (hd : (nm == ("__debug__" : Str)) = false := by decide) (hcd : (nm == ("__classdict__" : Str)) = false := by decide)
    (hb : attributeBase (.Name nm p) f X.env (eval (.Name nm p) X.env) = eval (.Name nm p) X.env := by rfl)
    (hp : ∀ {to : TE} {t : TA}, PE X (.Attribute (.Name nm p) f fpos) to → PA X [e] t → PE X (.Call (.Attribute (.Attribute (.Name nm p) f fpos) "append" apos) [e] [] cpos) (tBM X.K "list" rAppend to t) := by intro to t h1 h2; exact pe_bm PySem.F.plainAttrs_list PySem.F.slot_list_append PySem.F.type_list_append mt_append h1 h2)
    (ha : PA X [e] (tCons (wE X e) tNil) := by exact pa_cons pE pa_nil) (hs : swapsWith (.Call (.Attribute (.Attribute (.Name nm p) f fpos) "append" apos) [e] [] cpos) none pos.line X.env = pure false := by rfl) :
    SD X m Γ (.Expr (.Call (.Attribute (.Attribute (.Name nm p) f fpos) "append" apos) [e] [] cpos) pos :: rest) D :=
  sd_c1 (fun σ F H D' E L => by
    obtain ⟨o, ho, v, rfl, fr, rfl, na, nd, vs, t, r⟩ := E.ent i _ h0
    obtain ⟨u, hu, e1, ws, t2, r2⟩ := r.at_ hl
    subst e1
    refine wS1.of (ps_expr (hp (pe_fld (pe_var hN hv hd hcd) hb) ha) hs) ⟨_, ho, a, C, dx, vs, _, rfl, t, hc, hn, hu, .inl ⟨rfl, ws, .inl (.inl t2)⟩, he.run σ F H _ E fun w F1 H1 E1 s1 r1 => ?_⟩
    obtain ⟨o', ho', v', rfl, fr', ev', na', nd', vs', t', rr⟩ := E1.ent i _ h1
    obtain ⟨u', hu', e1', ws', t2', r2'⟩ := rr.ix hj
    have mad : ad ∈ Flds.ads fs := ads_ix hj ad List.mem_cons_self
    have hFad : F1 ad = none := (fr' ad (List.mem_cons_of_mem _ mad)).1
    obtain ⟨E2, t9⟩ := E1.fieldChg (r' := .lst ad (xs ++ [y])) (F' := F1) (H' := upd H1 ad (.lst (ws' ++ [w]))) h1 hj rfl (step_upd (O := (· ∈ [ad])) List.mem_cons_self) (fun b mb => by rw [List.mem_singleton.mp mb]; exact hFad) (fun b x e => by rw [upd_ne (ne_of_none e hFad)]; exact E1.le _ _ e) (fun v ⟨e, _⟩ => ⟨e, ws' ++ [w], upd_same, r2'.snoc r1⟩)
    exact ⟨ad, ws', w, rfl, rfl, t2', by rw [r2'.length]; exact hz, L.nx _ σ F1 _ rfl E2 ((he.stp s1).trans t9)⟩) k
end
end G
namespace G
open PySem PySem.Spec PyProof.Rows L2
open Rp (rp)
class KyV (κ : Type) [Rp κ] [Ky κ] : Prop where
  val : ∀ {K : PySem.W.Frag} {F : Hp} {v : V} {k : κ}, rp K F v k → v = kV (Ky.ky k)
instance : KyV Int := ⟨fun h => h⟩
instance : KyV Str := ⟨fun h => h⟩
theorem KvL.put {κ α : Type} [DecidableEq κ] [Ky κ] [Rp α] {K : PySem.W.Frag} {F : Hp} {kvs : List (Key × V)} {xs : List (κ × α)} (r : KvL K F kvs xs) (k : κ) {v : V} {y : α} (h : rp K F v y) : KvL K F (putK kvs (Ky.ky k) v) (G.put xs k y) := by
  have any : (kvs.any fun kv => decide (kv.1 = Ky.ky k)) = xs.any fun p => decide (p.1 = k) := by
    induction r with
    | nil => rfl
    | @cons p q ps qs h _ ih =>
      rw [List.any_cons, List.any_cons, ih, h.1]
      congr 1
      by_cases z : q.1 = k
      · rw [z]; simp
      · rw [decide_eq_false z, decide_eq_false fun e => z (Ky.inj _ _ e)]
  unfold putK G.put
  rw [any]
  by_cases z : (xs.any fun p => decide (p.1 = k)) = true
  · rw [if_pos z, if_pos z]
    clear any z
    induction r with
    | nil => exact .nil
    | @cons p q ps qs h2 _ ih =>
      refine .cons ?_ ih
      show (if p.1 = Ky.ky k then (p.1, v) else p).1 = Ky.ky (if q.1 = k then (q.1, y) else q).1 ∧ rp K F (if p.1 = Ky.ky k then (p.1, v) else p).2 (if q.1 = k then (q.1, y) else q).2
      by_cases z : q.1 = k
      · rw [if_pos z, if_pos (by rw [h2.1, z])]; exact ⟨h2.1, h⟩
      · rw [if_neg z, if_neg fun e => z (Ky.inj _ _ (h2.1.symm.trans e))]; exact h2
  · rw [if_neg z, if_neg z]
    exact pair_append r (.cons ⟨rfl, h⟩ .nil)
theorem put_len {κ α : Type} [DecidableEq κ] {xs : List (κ × α)} {k : κ} {y : α} : (put xs k y).length ≤ xs.length + 1 := by
  unfold put; split <;> simp
section
variable {X : Cx} {m : Md} {D : Ax m} {rest : List Stmt} {Γ Γ1 : DE} {e ix : Expr} {pos p fpos spos : Pos} {nm : Str} {C a dx : Addr} {fs : Flds}
/-- self.f[k] = e -/
theorem sd_fldPut {κ α : Type} [DecidableEq κ] [Rp κ] [Ky κ] [KyV κ] [Rp α] {y : α} {k : κ} {xs : List (κ × α)} {ad : Addr} {f : Str} (i j : Nat) (hu : X.A.units + 1 < cLine) (he : PX X (sh α) Γ e y Γ) (hi : PX X (sh κ) Γ ix k Γ) (h1 : Γ[i]? = some (.res (.obj C a dx fs))) (hj : fs[j]? = some (f, .res (.dk ad xs))) (hl : fs.lookup f = some (.res (.dk ad xs))) (hz : xs.length < sizeLine)
    (kk : SD X m (Γ.set i (.res (.obj C a dx (fs.set j (f, .res (.dk ad (put xs k y))))))) rest D) (hc : Cls X.K C) (hn : NoAttr X.K C f) (hN : X.N[i]? = some nm := by rfl)
    (hv : Vis X.env.scope nm := by first | exact Or.inl rfl | exact Or.inr (Or.inl rfl) | exact Or.inr (Or.inr rfl)) (hd : (nm == ("__debug__" : Str)) = false := by decide) (hcd : (nm == ("__classdict__" : Str)) = false := by decide)
    (hb : attributeBase (.Name nm p) f X.env (eval (.Name nm p) X.env) = eval (.Name nm p) X.env := by rfl) (hs : swapsWith e (some (.Subscript (.Attribute (.Name nm p) f fpos) ix spos)) pos.line X.env = pure false := by rfl) :
    SD X m Γ (.Assign [.Subscript (.Attribute (.Name nm p) f fpos) ix spos] e pos :: rest) D :=
  sd_c1 (fun σ F H D' E L => wS1.of (ps_dput hu (pe_fld (pe_var hN hv hd hcd) hb) pE pE hs) (he.run σ F H _ E fun v F1 H1 E1 s1 r1 => by
    obtain ⟨o, ho, w, rfl, fr, rfl, na, nd, vs, t, r⟩ := E1.ent i _ h1
    obtain ⟨u, hu2, e1, kvs, t2, r2⟩ := r.at_ hl
    subst e1
    refine ⟨_, ho, a, C, dx, vs, _, rfl, t, hc, hn, hu2, hi.run σ F1 H1 _ E1 fun z F2 H2 E2 s2 rz => ?_⟩
    obtain ⟨o', ho', w', ew', fr', ev', na', nd', vs', t', rr⟩ := E2.ent i _ h1
    obtain ⟨u', hu', e1', kvs', t2', r2'⟩ := rr.ix hj
    have mad : ad ∈ Flds.ads fs := ads_ix hj ad List.mem_cons_self
    have hFad : F2 ad = none := (fr' ad (List.mem_cons_of_mem _ mad)).1
    have ln : kvs'.length = xs.length := Paired.length r2'
    obtain ⟨E3, t9⟩ := E2.fieldChg (r' := .dk ad (put xs k y)) (F' := F2) (H' := upd H2 ad (.dK (putK kvs' (Ky.ky k) v))) h1 hj rfl (step_upd (O := (· ∈ [ad])) List.mem_cons_self) (fun b mb => by rw [List.mem_singleton.mp mb]; exact hFad) (fun b x e => by rw [upd_ne (ne_of_none e hFad)]; exact E2.le _ _ e) (fun v' ⟨e, kvs2, t3, _⟩ => ⟨e, _, upd_same, r2'.put k (Rp.mono s2.up r1)⟩)
    exact ⟨ad, _, rfl, .inl ⟨kvs', Ky.ky k, t2', KyV.val rz, by rw [ln]; exact hz, rfl⟩, L.nx _ σ F2 _ rfl E3 (((he.stp s1).trans (hi.stp s2)).trans t9)⟩)) kk
end
end G
namespace G
open PySem PySem.Spec PyProof.Rows L2
open Rp (rp)
theorem paired_get {α β : Type} {R : α → β → Prop} : ∀ {l : List α} {k : List β} {n : Nat} {y : β}, Paired R l k → k[n]? = some y → ∃ x, l[n]? = some x ∧ R x y
  | _, _, n, y, .nil, h => by simp at h
  | _, _, 0, y, .cons r _, h => by simp at h; subst h; exact ⟨_, rfl, r⟩
  | _, _, n + 1, y, .cons _ t, h => by simpa using paired_get t (by simpa using h)
/-- keys and values exchanged -/
def turned (xs : List (Str × (Int × Int))) : List ((Int × Int) × Str) := xs.foldl (fun acc p => put acc p.2 p.1) []
theorem KtL.put {α : Type} [Rp α] {K : PySem.W.Frag} {F : Hp} {kvs : List (List Key × V)} {xs : List ((Int × Int) × α)} (r : KtL K F kvs xs) (k : Int × Int) {v : V} {y : α} (h : rp K F v y) : KtL K F (putK kvs [.inl k.1, .inl k.2] v) (G.put xs k y) := by
  have inj : ∀ q : Int × Int, ([.inl q.1, .inl q.2] : List Key) = [.inl k.1, .inl k.2] → q = k := fun q e => by
    injection e with e1 e2
    injection e2 with e2 _
    injection e1 with e1
    injection e2 with e2
    exact Prod.ext e1 e2
  have any : (kvs.any fun kv => decide (kv.1 = [.inl k.1, .inl k.2])) = xs.any fun p => decide (p.1 = k) := by
    induction r with
    | nil => rfl
    | @cons p q ps qs h _ ih =>
      rw [List.any_cons, List.any_cons, ih, h.1]
      congr 1
      by_cases z : q.1 = k
      · rw [z]; simp
      · rw [decide_eq_false z, decide_eq_false fun e => z (inj _ e)]
  unfold putK G.put
  rw [any]
  by_cases z : (xs.any fun p => decide (p.1 = k)) = true
  · rw [if_pos z, if_pos z]
    clear any z
    induction r with
    | nil => exact .nil
    | @cons p q ps qs h2 _ ih =>
      refine .cons ?_ ih
      show (if p.1 = [.inl k.1, .inl k.2] then (p.1, v) else p).1 = [.inl (if q.1 = k then (q.1, y) else q).1.1, .inl (if q.1 = k then (q.1, y) else q).1.2] ∧ rp K F (if p.1 = [.inl k.1, .inl k.2] then (p.1, v) else p).2 (if q.1 = k then (q.1, y) else q).2
      by_cases z : q.1 = k
      · rw [if_pos z, if_pos (by rw [h2.1, z])]; exact ⟨h2.1, h⟩
      · rw [if_neg z, if_neg fun e => z (inj _ (h2.1.symm.trans e))]; exact h2
  · rw [if_neg z, if_neg z]
    exact pair_append r (.cons ⟨rfl, h⟩ .nil)
section
variable {X : Cx} {Γ : DE} {p p1 p2 q1 q2 tp pos fpos apos cpos : Pos} {nm n1 n2 : Str} {C a dx : Addr} {fs : Flds} {kk : Nat} {sc : Scope}
theorem turned_snoc (xs : List (Str × (Int × Int))) (p : Str × (Int × Int)) : turned (xs ++ [p]) = put (turned xs) p.2 p.1 := by unfold turned; rw [List.foldl_append]; rfl
theorem turned_len : ∀ xs : List (Str × (Int × Int)), (turned xs).length ≤ xs.length := by
  intro xs
  have : ∀ (xs : List (Str × (Int × Int))) (acc : List ((Int × Int) × Str)), (xs.foldl (fun acc p => put acc p.2 p.1) acc).length ≤ acc.length + xs.length := by
    intro xs
    induction xs with
    | nil => intro acc; simp
    | cons x r ih =>
      intro acc
      have h1 := ih (put acc x.2 x.1)
      have h2 := put_len (xs := acc) (k := x.2) (y := x.1)
      simp only [List.foldl_cons, List.length_cons]
      omega
  have := this xs []
  simpa [turned] using this
/-- {ring: name for name, ring in self.f.items()} -/
theorem px_turned {xs : List (Str × (Int × Int))} {ad : Addr} {f : Str} (own : List (Str × Nat)) (i j i1 i2 : Nat) (hu : X.A.units + 1 < cLine) (hNd : X.N.Nodup) (h : Γ[i]? = some (.res (.obj C a dx fs))) (hj : fs[j]? = some (f, .res (.dk ad xs))) (hl : fs.lookup f = some (.res (.dk ad xs))) (hz : xs.length < sizeLine) (hc : Cls X.K C) (hn : NoAttr X.K C f)
    (l1 : i1 < Γ.length) (l2 : i2 < Γ.length) (hne : i1 ≠ i2) (ho : own.map (·.2) = [i1, i2]) (hN : X.N[i]? = some nm := by rfl) (hv : Vis X.env.scope nm := by first | exact Or.inl rfl | exact Or.inr (Or.inl rfl) | exact Or.inr (Or.inr rfl)) (hd : (nm == ("__debug__" : Str)) = false := by decide) (hcd : (nm == ("__classdict__" : Str)) = false := by decide)
    (hcalm : X.calm = true := by rfl) (ok : BlkOk X.N X.env.scope sc own := by exact blkOk_by (by kernel_rfl))
    (hg : ∀ s H0 C cl fp, PG (bk X sc s H0 C cl fp) (.Tuple [.Name n1 q1, .Name n2 q2] kk tp) (gTup X.K 2 (gCons (gName i1) (gCons (gName i2) gNil))) := by intro _ _ _ _ _; exact pg_tup rfl (pgs_cons (pg_name (by assumption) rfl (by first | exact Or.inl rfl | exact Or.inr rfl) (by first | exact .inl rfl | exact .inr rfl)) (pgs_cons (pg_name (by assumption) rfl (by first | exact Or.inl rfl | exact Or.inr rfl) (by first | exact .inl rfl | exact .inr rfl)) pgs_nil)))
    (hk : ∀ s H0 C cl fp, PE (bk X sc s H0 C cl fp) (.Name n2 p1) (tVar i2) := by intro _ _ _ _ _; exact pe_var rfl (by first | exact Or.inl rfl | exact Or.inr (Or.inl rfl) | exact Or.inr (Or.inr rfl)))
    (hw : ∀ s H0 C cl fp, PE (bk X sc s H0 C cl fp) (.Name n1 p2) (tVar i1) := by intro _ _ _ _ _; exact pe_var rfl (by first | exact Or.inl rfl | exact Or.inr (Or.inl rfl) | exact Or.inr (Or.inr rfl)))
    (hb : attributeBase (.Name nm p) f X.env (eval (.Name nm p) X.env) = eval (.Name nm p) X.env := by rfl) (hb2 : attributeBase (.Attribute (.Name nm p) f fpos) "items" X.env (eval (.Attribute (.Name nm p) f fpos) X.env) = eval (.Attribute (.Name nm p) f fpos) X.env := by rfl) (hln : (apos.endLine == cpos.line) = true := by rfl)
    (hfs : ∀ x, foldedSetIterable (.Call (.Attribute (.Attribute (.Name nm p) f fpos) "items" apos) [] [] cpos) X.env x = pure x := by intro _; rfl) :
    PX X (nr fun r => ∃ D, r = Res.dt D (turned xs)) Γ (.DictComp (.Name n2 p1) (.Name n1 p2) [⟨.Tuple [.Name n1 q1, .Name n2 q2] kk tp, .Call (.Attribute (.Attribute (.Name nm p) f fpos) "items" apos) [] [] cpos, [], 0⟩] sc pos) () Γ := by
  refine ⟨sub_refl, fun σ F H Q E q => ?_⟩
  refine wE.of (pe_lock (pe_dct hu hcalm hNd (pi_items (pe_fld (pe_var hN hv hd hcd) hb) hb2 hln) ok hg (tt := tYes) (fun _ _ _ _ _ => pts_nil) hk hw hfs)) ?_
  obtain ⟨o, hσ, w, rfl, fr, rfl, na, nd, vs, t, r⟩ := E.ent i _ h
  obtain ⟨u, hu2, e1, kvs, t2, r2⟩ := r.at_ hl
  subst e1
  have mad : ad ∈ Flds.ads fs := ads_ix hj ad List.mem_cons_self
  have hFad : F ad = none := (fr ad (List.mem_cons_of_mem _ mad)).1
  have nad : a ≠ ad := fun z => na (z ▸ mad)
  have ln : kvs.length = xs.length := Paired.length r2
  refine ⟨ad, .dK kvs, t2, trivial, fun od => ?_⟩
  generalize hH1 : upd H ad (.frz od (.dK kvs)) = H1
  have k1 : H1 ad = some (.frz od (.dK kvs)) := by rw [← hH1, upd_same]
  have k2 : ∀ b, b ≠ ad → H1 b = H b := fun b z => by rw [← hH1, upd_ne z]
  refine ⟨_, hσ, a, C, dx, vs, _, rfl, by rw [k2 a nad]; exact t, hc, hn, hu2, ad, od, kvs, rfl, k1, fun D hD => ?_⟩
  have nDad : D ≠ ad := fun z => by rw [z, k1] at hD; cases hD
  have hDH : H D = none := by rw [← k2 D nDad]; exact hD
  refine ⟨fun n m H2 => m = xs.length - n ∧ n ≤ xs.length ∧ ∃ kts, H2 D = some (.dT kts) ∧ KtL X.K F kts (turned (xs.take n)) ∧ (∀ b o, b ≠ D → H1 b = some o → H2 b = some o) ∧ ∀ b, H2 b = none → H1 b = none, ⟨xs.length, by simp, Nat.zero_le _, [], upd_same, .nil, fun b o nb e => by rw [upd_ne nb]; exact e, fun b e => ?_⟩, ?_⟩
  · by_cases z : b = D
    · rw [z, upd_same] at e; cases e
    · rw [upd_ne z] at e; exact e
  rintro n m H2 ⟨rfl, hn2, kts, g1, g2, g3, g4⟩
  have g5 : H2 ad = some (.frz od (.dK kvs)) := g3 ad _ (Ne.symm nDad) k1
  by_cases hlt : n < xs.length
  · obtain ⟨y, hy⟩ : ∃ y, xs[n]? = some y := ⟨xs[n], List.getElem?_eq_getElem hlt⟩
    obtain ⟨kv, hkv, e5, ta, v1, v2, e6, e7, e8, e9⟩ := paired_get r2 hy
    have e3 : xs.take (n + 1) = xs.take n ++ [y] := by rw [List.take_add_one, hy]; rfl
    refine .inr ⟨⟨g5, by rw [ln]; exact hlt⟩, fun H3 => ∃ kts, H3 D = some (.dT kts) ∧ KtL X.K F kts (turned (xs.take (n + 1))) ∧ (∀ b o, b ≠ D → H1 b = some o → H3 b = some o) ∧ ∀ b, H3 b = none → H1 b = none, fun H3 h3 => ⟨xs.length - (n + 1), by omega, rfl, hlt, h3⟩, fun x H3 ⟨T, k, v, z1, z2, z3, z4⟩ => ?_⟩
    rw [hkv] at z1
    cases z1
    subst z2 z4
    have nT : T ≠ D := fun z => by rw [z, g1] at z3; cases z3
    refine ⟨T, [kV k, v], rfl, .inl (.inl upd_same), rfl, kV k, [v], rfl, v, [], rfl, rfl, ?_, ?_⟩
    · refine wipe_eq (by simp [wipe_length]) fun b nb => ?_
      rw [ho] at nb
      have n1 : i1 ≠ b := fun z => nb (by simp [z])
      have n2 : i2 ≠ b := fun z => nb (by simp [z])
      rw [List.getElem?_set_ne n2, List.getElem?_set_ne n1]
    · unfold tYes
      dsimp only
      rw [if_pos rfl]
      have len1 : (wipe σ (own.map (·.2))).length = Γ.length := by rw [wipe_length]; exact E.len
      have ta1 : ta ≠ ad := fun z => by rw [z, hFad] at e7; cases e7
      have h7 : H2 ta = some (.tup [v1, v2]) := g3 ta _ (fun z => by rw [z] at e7; rw [E.le _ _ e7] at hDH; cases hDH) (by rw [k2 ta ta1]; exact E.le _ _ e7)
      have nta : ta ≠ T := fun z => by rw [z, z3] at h7; cases h7
      refine ⟨v, by rw [List.getElem?_set_self (by rw [List.length_set, len1]; exact l2)], kV k, by rw [List.getElem?_set_ne (Ne.symm hne), List.getElem?_set_self (by rw [len1]; exact l1)], kts, [.inl y.2.1, .inl y.2.2], ta, e6, ?_, by rw [upd_ne (Ne.symm nT)]; exact g1, ?_, ?_⟩
      · rw [upd_ne nta, h7, show v1 = V.int y.2.1 from e8, show v2 = V.int y.2.2 from e9]; rfl
      · have := turned_len (xs.take n)
        have l3 : kts.length = (turned (xs.take n)).length := Paired.length g2
        rw [List.length_take] at this
        omega
      · refine ⟨_, upd_same, ?_, fun b o nb e => ?_, fun b e => ?_⟩
        · rw [e3, turned_snoc]
          exact g2.put y.2 (by have e5 : k = Ky.ky y.1 := e5; rw [e5]; rfl)
        · rw [upd_ne nb]
          by_cases z : b = T
          · have := g3 b o nb e
            rw [z, z3] at this; cases this
          · rw [upd_ne z]; exact g3 b o nb e
        · by_cases z : b = D
          · rw [z, upd_same] at e; cases e
          · rw [upd_ne z] at e
            by_cases z5 : b = T
            · rw [z5, upd_same] at e; cases e
            · rw [upd_ne z5] at e; exact g4 b e
  · have e : n = xs.length := by omega
    subst e
    rw [List.take_length] at g2
    refine .inl ⟨⟨g5, by rw [ln]; exact Nat.le_refl _⟩, g5, ?_⟩
    have up : Same H (upd H2 ad (.dK kvs)) := fun b o e => by
      by_cases z : b = ad
      · subst z; rw [upd_same]; rw [t2] at e; exact e
      · rw [upd_ne z]
        refine g3 b o (fun y => ?_) (by rw [k2 b z]; exact e)
        rw [y, hDH] at e; cases e
    refine q _ F _ (E.grow up) ⟨Same.refl _, fun b o e _ => up b o e, fun b e => ?_, fun b h1 h2 => absurd h1 h2⟩ ⟨.dt D (turned xs), ⟨D, rfl⟩, fun b mb => ?_, rfl, kts, by rw [upd_ne nDad]; exact g1, g2⟩
    · by_cases z : b = ad
      · rw [z, upd_same] at e; cases e
      · rw [upd_ne z] at e
        have := g4 b e
        rw [k2 b z] at this; exact this
    · rw [List.mem_singleton.mp mb]
      exact ⟨hDH, Same.free E.le hDH, by rw [upd_ne nDad, g1]; exact fun z => nomatch z⟩
end
end G
namespace G
open PySem PySem.Spec PyProof.Rows L2
open Rp (rp)
section
variable {X : Cx} {Γ : DE} {p p1 p2 q1 q2 tp pos fpos apos cpos : Pos} {nm n1 n2 : Str} {C a dx : Addr} {fs : Flds} {kk : Nat} {sc : Scope}
/-- [size for size, rest in self.f], f a dict of one's own with pairs as keys -/
theorem px_firsts {α : Type} [Rp α] {xs : List ((Int × Int) × α)} {ad : Addr} {f : Str} (own : List (Str × Nat)) (i j i1 i2 : Nat) (hNd : X.N.Nodup) (h : Γ[i]? = some (.res (.obj C a dx fs))) (hj : fs[j]? = some (f, .res (.dt ad xs))) (hl : fs.lookup f = some (.res (.dt ad xs))) (hz : xs.length < sizeLine) (hc : Cls X.K C) (hn : NoAttr X.K C f)
    (l1 : i1 < Γ.length) (l2 : i2 < Γ.length) (hne : i1 ≠ i2) (ho : own.map (·.2) = [i1, i2]) (hN : X.N[i]? = some nm := by rfl) (hv : Vis X.env.scope nm := by first | exact Or.inl rfl | exact Or.inr (Or.inl rfl) | exact Or.inr (Or.inr rfl)) (hd : (nm == ("__debug__" : Str)) = false := by decide) (hcd : (nm == ("__classdict__" : Str)) = false := by decide)
    (hcalm : X.calm = true := by rfl) (ok : BlkOk X.N X.env.scope sc own := by exact blkOk_by (by kernel_rfl))
    (hg : ∀ s H0 C cl fp, PG (bk X sc s H0 C cl fp) (.Tuple [.Name n1 q1, .Name n2 q2] kk tp) (gTup X.K 2 (gCons (gName i1) (gCons (gName i2) gNil))) := by intro _ _ _ _ _; exact pg_tup rfl (pgs_cons (pg_name (by assumption) rfl (by first | exact Or.inl rfl | exact Or.inr rfl) (by first | exact .inl rfl | exact .inr rfl)) (pgs_cons (pg_name (by assumption) rfl (by first | exact Or.inl rfl | exact Or.inr rfl) (by first | exact .inl rfl | exact .inr rfl)) pgs_nil)))
    (hw : ∀ s H0 C cl fp, PE (bk X sc s H0 C cl fp) (.Name n1 p1) (tVar i1) := by intro _ _ _ _ _; exact pe_var rfl (by first | exact Or.inl rfl | exact Or.inr (Or.inl rfl) | exact Or.inr (Or.inr rfl)))
    (hb : attributeBase (.Name nm p) f X.env (eval (.Name nm p) X.env) = eval (.Name nm p) X.env := by rfl) (hfs : ∀ x, foldedSetIterable (.Attribute (.Name nm p) f fpos) X.env x = pure x := by intro _; rfl) :
    PX X (nw Int) Γ (.ListComp (.Name n1 p1) [⟨.Tuple [.Name n1 q1, .Name n2 q2] kk tp, .Attribute (.Name nm p) f fpos, [], 0⟩] sc pos) (xs.map fun x => x.1.1) Γ := by
  refine ⟨sub_refl, fun σ F H Q E q => ?_⟩
  refine wE.of (pe_lock (pe_lc hcalm hNd (pi_keys (pe_fld (pe_var hN hv hd hcd) hb)) ok hg (tt := tYes) (fun _ _ _ _ _ => pts_nil) hw hfs)) ?_
  obtain ⟨o, hσ, w, rfl, fr, rfl, na, nd, vs, t, r⟩ := E.ent i _ h
  obtain ⟨u, hu2, e1, kvs, t2, r2⟩ := r.at_ hl
  subst e1
  have mad : ad ∈ Flds.ads fs := ads_ix hj ad List.mem_cons_self
  have hFad : F ad = none := (fr ad (List.mem_cons_of_mem _ mad)).1
  have nad : a ≠ ad := fun z => na (z ▸ mad)
  have ln : kvs.length = xs.length := Paired.length r2
  refine ⟨ad, .dT kvs, t2, trivial, fun od => ?_⟩
  generalize hH1 : upd H ad (.frz od (.dT kvs)) = H1
  have k1 : H1 ad = some (.frz od (.dT kvs)) := by rw [← hH1, upd_same]
  have k2 : ∀ b, b ≠ ad → H1 b = H b := fun b z => by rw [← hH1, upd_ne z]
  refine ⟨_, hσ, a, C, dx, vs, _, rfl, by rw [k2 a nad]; exact t, hc, hn, hu2, ad, od, rfl, .inr ⟨kvs, k1, fun D hD => ?_⟩⟩
  have nDad : D ≠ ad := fun z => by rw [z, k1] at hD; cases hD
  have hDH : H D = none := by rw [← k2 D nDad]; exact hD
  refine ⟨fun n m H2 => m = xs.length - n ∧ n ≤ xs.length ∧ ∃ kts, H2 D = some (.lst kts) ∧ RpL X.K F kts ((xs.take n).map fun x => x.1.1) ∧ (∀ b o, b ≠ D → H1 b = some o → H2 b = some o) ∧ ∀ b, H2 b = none → H1 b = none, ⟨xs.length, by simp, Nat.zero_le _, [], upd_same, .nil, fun b o nb e => by rw [upd_ne nb]; exact e, fun b e => ?_⟩, ?_⟩
  · by_cases z : b = D
    · rw [z, upd_same] at e; cases e
    · rw [upd_ne z] at e; exact e
  rintro n m H2 ⟨rfl, hn2, kts, g1, g2, g3, g4⟩
  have g5 : H2 ad = some (.frz od (.dT kvs)) := g3 ad _ (Ne.symm nDad) k1
  by_cases hlt : n < xs.length
  · obtain ⟨y, hy⟩ : ∃ y, xs[n]? = some y := ⟨xs[n], List.getElem?_eq_getElem hlt⟩
    obtain ⟨kv, hkv, e5, _⟩ := paired_get r2 hy
    have e3 : xs.take (n + 1) = xs.take n ++ [y] := by rw [List.take_add_one, hy]; rfl
    refine .inr ⟨⟨g5, by rw [ln]; exact hlt⟩, fun H3 => ∃ kts, H3 D = some (.lst kts) ∧ RpL X.K F kts ((xs.take (n + 1)).map fun x => x.1.1) ∧ (∀ b o, b ≠ D → H1 b = some o → H3 b = some o) ∧ ∀ b, H3 b = none → H1 b = none, fun H3 h3 => ⟨xs.length - (n + 1), by omega, rfl, hlt, h3⟩, fun x H3 ⟨z0, k, v, T, z1, z2, z3⟩ => ?_⟩
    rw [hkv] at z1
    cases z1
    subst z2 z0
    have e5 : k = [.inl y.1.1, .inl y.1.2] := e5
    subst e5
    refine ⟨T, [V.int y.1.1, V.int y.1.2], rfl, .inl (.inl z3), rfl, V.int y.1.1, [V.int y.1.2], rfl, V.int y.1.2, [], rfl, rfl, ?_, ?_⟩
    · refine wipe_eq (by simp [wipe_length]) fun b nb => ?_
      rw [ho] at nb
      have n1 : i1 ≠ b := fun z => nb (by simp [z])
      have n2 : i2 ≠ b := fun z => nb (by simp [z])
      rw [List.getElem?_set_ne n2, List.getElem?_set_ne n1]
    · unfold tYes
      dsimp only
      rw [if_pos rfl]
      have len1 : (wipe σ (own.map (·.2))).length = Γ.length := by rw [wipe_length]; exact E.len
      refine ⟨V.int y.1.1, by rw [List.getElem?_set_ne (Ne.symm hne), List.getElem?_set_self (by rw [len1]; exact l1)], kts, g1, ?_, ?_⟩
      · rw [g2.length, List.length_map, List.length_take]; omega
      · refine ⟨_, upd_same, ?_, fun b o nb e => by rw [upd_ne nb]; exact g3 b o nb e, fun b e => ?_⟩
        · rw [e3, List.map_append]
          exact g2.snoc rfl
        · by_cases z : b = D
          · rw [z, upd_same] at e; cases e
          · rw [upd_ne z] at e; exact g4 b e
  · have e : n = xs.length := by omega
    subst e
    rw [List.take_length] at g2
    refine .inl ⟨⟨g5, by rw [ln]; exact Nat.le_refl _⟩, g5, ?_⟩
    have up : Same H (upd H2 ad (.dT kvs)) := fun b o e => by
      by_cases z : b = ad
      · subst z; rw [upd_same]; rw [t2] at e; exact e
      · rw [upd_ne z]
        refine g3 b o (fun y => ?_) (by rw [k2 b z]; exact e)
        rw [y, hDH] at e; cases e
    refine q _ F _ (E.grow up) ⟨Same.refl _, fun b o e _ => up b o e, fun b e => ?_, fun b h1 h2 => absurd h1 h2⟩ ⟨D, kts, rfl, hDH, Same.free E.le hDH, by rw [upd_ne nDad]; exact g1, g2⟩
    by_cases z : b = ad
    · rw [z, upd_same] at e; cases e
    · rw [upd_ne z] at e
      have := g4 b e
      rw [k2 b z] at this; exact this
end
end G
namespace G
open PySem PySem.Spec PyProof.Rows L2
open Rp (rp)
section
variable {X : Cx} {Γ Γ1 Γ2 Γ3 : DE} {a b e k o : Expr} {p p2 pos kpos apos cpos : Pos}
/-- a new object that is frozen at once -/
theorem obj_new {K : PySem.W.Frag} {σ : L2.St} {F H : Hp} {p : Addr} {u : HO} (E : Env K Γ σ F H) (hp : H p = none) : Env K Γ σ (upd F p u) (upd H p u) ∧ Step (Own Γ) F H (upd F p u) (upd H p u) := by
  have no : ¬ Own Γ p := fun z => Own.some z E hp
  have hF := E.free hp
  refine ⟨(E.new hp).freeze upd_same hF no, same_upd hF, fun b x e _ => same_upd hp b x e, fun b e => ?_, fun b h1 h2 => ?_⟩
  · by_cases z : b = p
    · rw [z, upd_same] at e; cases e
    · rw [upd_ne z] at e; exact e
  · by_cases z : b = p
    · subst z; exact .inl hp
    · rw [upd_ne z] at h2; exact absurd h1 h2
theorem keys_of {α : Type} [Rp α] {K : PySem.W.Frag} {F : Hp} {kvs : List (Key × V)} {xs : List (Int × α)} (r : KvL K F kvs xs) : kvs.map (·.1) = (xs.map (·.1)).map Sum.inl := by
  induction r with
  | nil => rfl
  | cons h _ ih => rw [List.map_cons, List.map_cons, List.map_cons, ih, h.1]; rfl
theorem px_topD {α : Type} [Rp α] {xs : List (Int × α)} {ad : Addr} {n : Int} {nm : Str} (i : Nat) (hm : X.mg "max" = none) (h : Γ[i]? = some (.res (.dk ad xs)) := by rfl) (hN : X.N[i]? = some nm := by rfl) (hv : Vis X.env.scope nm := by first | exact Or.inl rfl | exact Or.inr (Or.inl rfl) | exact Or.inr (Or.inr rfl))
    (hk : ∀ σ F H (Q : VK), Env X.K Γ σ F H → Q (.int n) H → wE X a σ H Q) (hd : (nm == ("__debug__" : Str)) = false := by decide) (hcd : (nm == ("__classdict__" : Str)) = false := by decide) (hc : X.calm = true := by rfl)
    (hp : X.mg "max" = none → ∀ {r : List V → List V → Hp → VK → Prop} {t tk : TA}, CallRK X (.builtin "max") ["default"] r → PA X [.Name nm p2] t → PK X [⟨some "default", a, kpos⟩] tk → PE X (.Call (.Name "max" p) [.Name nm p2] [⟨some "default", a, kpos⟩] pos) (tCKw r t tk) := by intro hm r t tk h1 h2 h3; exact pe_callBK h1 (by rfl) hm (by decide +kernel) h2 h3)
    (hs : starEach [.Name nm p2] X.env = (false, eval (.Name nm p2) X.env) :: starEach [] X.env := by rfl) (hkw : PK X [⟨some "default", a, kpos⟩] (tCons (wE X a) tNil) := by exact pk_cons pE pk_nil) :
    PX X (sh Int) Γ (.Call (.Name "max" p) [.Name nm p2] [⟨some "default", a, kpos⟩] pos) (top n (xs.map (·.1))) Γ :=
  px_of fun σ F H Q E q => by
    obtain ⟨o, ho, v, rfl, _, ev, kvs, t, r⟩ := E.ent i _ h
    exact wE.of (hp hm (call_topD hc) (pa_cons (pe_var hN hv hd hcd) pa_nil hs) hkw) ⟨_, ho, hk σ F H _ E ⟨ad, kvs, _, n, by rw [ev], rfl, t, keys_of r, q _ rfl⟩⟩
theorem keyVals_of {α : Type} [Rp α] {K : PySem.W.Frag} {F : Hp} {kvs : List (Key × V)} {xs : List (Int × α)} (r : KvL K F kvs xs) : RpL K F (kvs.map fun kv => kV kv.1) (xs.map (·.1)) := by
  induction r with
  | nil => exact .nil
  | @cons x y _ _ h _ ih => exact .cons (by show kV x.1 = V.int y.1; rw [h.1]; rfl) ih
theorem px_listDk {α : Type} [Rp α] {xs : List (Int × α)} {ad : Addr} {nm : Str} (i : Nat) (hm : X.mg "list" = none) (h : Γ[i]? = some (.res (.dk ad xs)) := by rfl) (hN : X.N[i]? = some nm := by rfl) (hv : Vis X.env.scope nm := by first | exact Or.inl rfl | exact Or.inr (Or.inl rfl) | exact Or.inr (Or.inr rfl))
    (hd : (nm == ("__debug__" : Str)) = false := by decide) (hcd : (nm == ("__classdict__" : Str)) = false := by decide) (hc : X.calm = true := by rfl)
    (hp : X.mg "list" = none → ∀ {r : List V → Hp → VK → Prop} {t : TA}, CallR X (.type "list") r → PA X [.Name nm p2] t → PE X (.Call (.Name "list" p) [.Name nm p2] [] pos) (tCB r t) := by intro hm r t h1 h2; exact pe_callTy h1 (by rfl) hm (by decide +kernel) h2) (hs : starEach [.Name nm p2] X.env = (false, eval (.Name nm p2) X.env) :: starEach [] X.env := by rfl) :
    PX X (nw Int) Γ (.Call (.Name "list" p) [.Name nm p2] [] pos) (xs.map (·.1)) Γ :=
  ⟨sub_refl, fun σ F H Q E q => by
    obtain ⟨o, ho, v, rfl, _, ev, kvs, t, r⟩ := E.ent i _ h
    exact wE.of (hp hm (call_listD hc) (pa_cons (pe_var hN hv hd hcd) pa_nil hs)) ⟨_, ho, ad, kvs, by rw [ev], .inl t, fun l hl => q _ F _ (E.new hl) (Step.new hl) ⟨l, _, rfl, hl, E.free hl, upd_same, keyVals_of r⟩⟩⟩
/-- d.get(k, e), d one's own -/
theorem px_dget2O {κ α : Type} [DecidableEq κ] [Rp κ] [Ky κ] [KyV κ] [Rp α] {xs : List (κ × α)} {ad : Addr} {ik : κ} {x : α} {nm : Str} (i : Nat) (hu : X.A.units + 1 < cLine) (hk : PX X (sh κ) Γ k ik Γ) (hx : PX X (sh α) Γ b x Γ) (h : Γ[i]? = some (.res (.dk ad xs)) := by rfl) (hN : X.N[i]? = some nm := by rfl) (hv : Vis X.env.scope nm := by first | exact Or.inl rfl | exact Or.inr (Or.inl rfl) | exact Or.inr (Or.inr rfl))
    (hd : (nm == ("__debug__" : Str)) = false := by decide) (hcd : (nm == ("__classdict__" : Str)) = false := by decide) (hm : M2 X (.Name nm p2) "get" apos k b cpos := by exact ⟨rfl, rfl, rfl, rfl⟩) :
    PX X (sh α) Γ (.Call (.Attribute (.Name nm p2) "get" apos) [k, b] [] cpos) ((look xs ik).getD x) Γ :=
  ⟨sub_refl, fun σ F H Q E q => by
    obtain ⟨o, ho, v, rfl, _, ev, kvs, t, r⟩ := E.ent i _ h
    refine wE.of (pe_dget2 hu (pe_var hN hv hd hcd) pE pE hm) ⟨_, ho, ad, ev, .inl ⟨kvs, .inl t⟩, hk.run σ F H _ E fun w F2 H2 E2 s2 r2 => hx.run σ F2 H2 _ E2 fun u F3 H3 E3 s3 r3 => ?_⟩
    obtain ⟨o', ho', v', ev', _, e2, kvs', t', r'⟩ := E3.ent i _ h
    refine ⟨valV kvs' (Ky.ky ik), .inl ⟨kvs', Ky.ky ik, .inl t', KyV.val r2, rfl⟩, q _ F3 H3 E3 (s2.sub s3 fun p z => z) ?_⟩
    rcases KvL.look r' ik with ⟨e1, e2⟩ | ⟨y, u2, e1, e2, r4⟩
    · rw [e1, e2]; exact r3
    · rw [e1, e2]; exact r4⟩
end
end G
namespace G
open PySem PySem.Spec PyProof.Rows L2
open Rp (rp)
section
variable {X : Cx} {Γ Γ1 Γ2 : DE} {a b e : Expr} {p pos fpos lpos : Pos} {nm : Str} {C ad0 dx : Addr} {fs : Flds}
/-- {} of one's own -/
theorem px_dkR {κ α : Type} [Ky κ] [Rp α] : PX X (nr fun r => ∃ p, r = Res.dk p ([] : List (κ × α))) Γ (.Dict [] [] pos) () Γ :=
  ⟨sub_refl, fun σ F H Q E q => wE.of pe_dnewK fun p hp => by
    refine q _ F _ (E.new hp) (Step.new hp) ⟨.dk p [], ⟨p, rfl⟩, fun a m => ?_, rfl, [], upd_same, .nil⟩
    rw [List.mem_singleton.mp m]
    exact ⟨hp, E.free hp, by rw [upd_same]; exact fun z => nomatch z⟩⟩
/-- self.f[k], f a list of the object's own -/
theorem px_fldIx {α : Type} [Rp α] {xs : List α} {ad : Addr} {f : Str} {k : Int} {y : α} (i : Nat) (hb : PX X (sh Int) Γ b k Γ) (h : Γ[i]? = some (.res (.obj C ad0 dx fs)) := by rfl) (hl : fs.lookup f = some (.res (.lst ad xs)) := by rfl) (hy : atI xs k = some y) (hc : Cls X.K C) (hn : NoAttr X.K C f) (hN : X.N[i]? = some nm := by rfl) (hv : Vis X.env.scope nm := by first | exact Or.inl rfl | exact Or.inr (Or.inl rfl) | exact Or.inr (Or.inr rfl))
    (hp : PlainIx b := by exact fun _ _ => rfl) (hd : (nm == ("__debug__" : Str)) = false := by decide) (hcd : (nm == ("__classdict__" : Str)) = false := by decide) (hab : attributeBase (.Name nm p) f X.env (eval (.Name nm p) X.env) = eval (.Name nm p) X.env := by rfl) : PX X (sh α) Γ (.Subscript (.Attribute (.Name nm p) f fpos) b pos) y Γ := by
  refine ⟨hb.sub, fun σ F H Q E q => wE.of (pe_ix ix_list (pe_fld (pe_var hN hv hd hcd) hab) pE hp) ?_⟩
  obtain ⟨o, ho, v, rfl, fr, rfl, _, _, vs, t, r⟩ := E.ent i _ h
  obtain ⟨u, hu, e1, ws, t2, r2⟩ := r.at_ hl
  subst e1
  refine ⟨_, ho, ad0, C, dx, vs, _, rfl, t, hc, hn, hu, hb.run σ F H _ E fun w F1 H1 E1 s1 rw => ?_⟩
  obtain ⟨o', ho', v', rfl, fr', ev', _, _, vs', t', r'⟩ := E1.ent i _ h
  obtain ⟨u', hu', e1', ws', t2', r2'⟩ := r'.at_ hl
  rw [ho] at ho'
  cases ho'
  obtain ⟨x, hx, rx⟩ := atI_at r2' (fun {j} e => r2'.get e) hy
  have hu2 : (.ref ad : V) = .ref ad := rfl
  exact ⟨ad, ws', k, x, rfl, rw, .inl (.inl t2'), hx, q x F1 H1 E1 s1 rx⟩
theorem nilDp {K : PySem.W.Frag} {H : Hp} {p : Addr} (h : H p = some (.lst [])) : Dp K H (.ref p) (.list []) := .lst (.inl (.inl h)) .nil
theorem SqL.up {K : PySem.W.Frag} {H H' : Hp} {p : Addr} {vs : List V} (h : SqL K H p vs) (s : Same H H') : SqL K H' p vs := s.seq h
/-- a != [] of a list that is read at once -/
theorem tx_neNil {α : Type} [Rp α] [DecidableEq α] [De α] {xs : List α} (hu : X.A.units + 64 < cLine) (ha : PX X (br α) Γ a xs Γ1) (gx : ∀ x ∈ xs, De.good x) (hdp : De.dep α + 1 ≤ 64 := by decide) (hm : behindInMarks .NotEq (.List [] lpos) = false := by first | exact nomark _ | rfl | with_unfolding_all rfl) : TX X Γ (.Compare a [.NotEq] [.List [] lpos] pos) (!decide (xs = [])) Γ1 := by
  refine ⟨ha.sub, fun σ F H Q E q => wT.of (pt_cmpR (op_neD hu) pE (pe_lst pa_nil) hm) ?_⟩
  refine ha.run σ F H _ E fun v F1 H1 E1 s1 ⟨l, vs, ev, t, r⟩ => ⟨Nat.zero_le _, fun p hp => ?_⟩
  have s2 : Same H1 (upd H1 p (.lst [])) := same_upd hp
  subst ev
  have hD : Dp X.K (upd H1 p (.lst [])) (.ref l) (.list (xs.map De.toD)) := .lst (SqL.up t s2) (dpAll_of (r.mono (E1.le.trans s2)))
  have sx : SeqAt.shaped (.list (xs.map De.toD)) = true := shaped_of (x := xs) gx hdp
  have sn : SeqAt.shaped (.list []) = true := shaped_of (α := List α) (x := []) (fun x h => by cases h) hdp
  refine ⟨.list (xs.map De.toD), .list [], hD, nilDp upd_same, sx, sn, ⟨_, rfl, ?_⟩⟩
  have e : PyData.eqv (.list (xs.map De.toD)) (.list []) = decide (xs = []) := De.eqv (α := List α) xs []
  rw [e]
  exact q F1 _ (E1.new hp) (s1.sub (Step.new (O := Own Γ) hp) fun a z => z)
end
/-- a mode whose things are wholly new -/
@[reducible] def fr (α : Type) [Rp α] : Md := ⟨α, fun K _ H F' H' v x => ∃ G : Hp, Same G F' ∧ (∀ p, G p ≠ none → H p = none) ∧ rp K G v x, fun n ⟨G, a, b, c⟩ => ⟨G, a, fun p h => n p (b p h), c⟩⟩
end G
namespace G
open PySem PySem.Spec PyProof.Rows L2
open Rp (rp)
section
variable {X : Cx} {Γ Γ1 Γ2 : DE} {a b e : Expr} {p pos fpos lpos : Pos} {nm : Str}
/-- a == [] of a list that is read at once -/
theorem tx_eqNil {α : Type} [Rp α] [DecidableEq α] [De α] {xs : List α} (hu : X.A.units + 64 < cLine) (ha : PX X (br α) Γ a xs Γ1) (gx : ∀ x ∈ xs, De.good x) (hdp : De.dep α + 1 ≤ 64 := by decide) (hm : behindInMarks .Eq (.List [] lpos) = false := by first | exact nomark _ | rfl | with_unfolding_all rfl) : TX X Γ (.Compare a [.Eq] [.List [] lpos] pos) (decide (xs = [])) Γ1 := by
  refine ⟨ha.sub, fun σ F H Q E q => wT.of (pt_cmpR (op_eqD hu) pE (pe_lst pa_nil) hm) ?_⟩
  refine ha.run σ F H _ E fun v F1 H1 E1 s1 ⟨l, vs, ev, t, r⟩ => ⟨Nat.zero_le _, fun p hp => ?_⟩
  have s2 : Same H1 (upd H1 p (.lst [])) := same_upd hp
  subst ev
  have hD : Dp X.K (upd H1 p (.lst [])) (.ref l) (.list (xs.map De.toD)) := .lst (SqL.up t s2) (dpAll_of (r.mono (E1.le.trans s2)))
  have sx : SeqAt.shaped (.list (xs.map De.toD)) = true := shaped_of (x := xs) gx hdp
  have sn : SeqAt.shaped (.list []) = true := shaped_of (α := List α) (x := []) (fun x h => by cases h) hdp
  refine ⟨.list (xs.map De.toD), .list [], hD, nilDp upd_same, sx, sn, ⟨_, rfl, ?_⟩⟩
  have e : PyData.eqv (.list (xs.map De.toD)) (.list []) = decide (xs = []) := De.eqv (α := List α) xs []
  rw [e]
  exact q F1 _ (E1.new hp) (s1.sub (Step.new (O := Own Γ) hp) fun a z => z)
end
section
variable {X : Cx} {m : Md} {D : Ax m} {rest : List Stmt} {Γ Γ1 : DE} {e ix : Expr} {pos p spos : Pos} {nm : Str}
/-- d[k] = e -/
theorem sd_put {κ α : Type} [DecidableEq κ] [Rp κ] [Ky κ] [KyV κ] [Rp α] {y : α} {k : κ} {xs : List (κ × α)} {ad : Addr} (i : Nat) (hu : X.A.units + 1 < cLine) (he : PX X (sh α) Γ e y Γ) (hi : PX X (sh κ) Γ ix k Γ) (h1 : Γ[i]? = some (.res (.dk ad xs))) (hz : xs.length < sizeLine)
    (kk : SD X m (Γ.set i (.res (.dk ad (put xs k y)))) rest D) (hN : X.N[i]? = some nm := by rfl)
    (hv : Vis X.env.scope nm := by first | exact Or.inl rfl | exact Or.inr (Or.inl rfl) | exact Or.inr (Or.inr rfl)) (hd : (nm == ("__debug__" : Str)) = false := by decide) (hcd : (nm == ("__classdict__" : Str)) = false := by decide)
    (hs : swapsWith e (some (.Subscript (.Name nm p) ix spos)) pos.line X.env = pure false := by rfl) :
    SD X m Γ (.Assign [.Subscript (.Name nm p) ix spos] e pos :: rest) D :=
  sd_c1 (fun σ F H D' E L => wS1.of (ps_dput hu (pe_var hN hv hd hcd) pE pE hs) (he.run σ F H _ E fun v F1 H1 E1 s1 r1 => by
    obtain ⟨o, ho, w, rfl, fr, e1, kvs, t2, r2⟩ := E1.ent i _ h1
    subst e1
    refine ⟨_, ho, hi.run σ F1 H1 _ E1 fun z F2 H2 E2 s2 rz => ?_⟩
    obtain ⟨o', ho', w', ew', fr', e1', kvs', t2', r2'⟩ := E2.ent i _ h1
    have hFad : F2 ad = none := (fr' ad List.mem_cons_self).1
    have ln : kvs'.length = xs.length := Paired.length r2'
    obtain ⟨E3, t9⟩ := E2.chg (e' := .res (.dk ad (put xs k y))) (F' := F2) (H' := upd H2 ad (.dK (putK kvs' (Ky.ky k) v))) h1 (step_upd (O := (· ∈ [ad])) List.mem_cons_self) (fun b x e => by rw [upd_ne (ne_of_none e hFad)]; exact E2.le _ _ e) (fun o9 h9 => by
      have h8 := E2.ent i _ h1
      obtain ⟨o8, h8a, w8, rfl, _, e8, _⟩ := h8
      rw [h8a] at h9
      cases h9
      refine ⟨w8, rfl, fun b mb => ?_, e8, _, upd_same, r2'.put k (Rp.mono s2.up r1)⟩
      rw [List.mem_singleton.mp mb]
      exact ⟨hFad, by rw [upd_same]; exact fun z => nomatch z⟩) (fun b mb => .inl mb)
    exact ⟨ad, _, rfl, .inl ⟨kvs', Ky.ky k, t2', KyV.val rz, by rw [ln]; exact hz, rfl⟩, L.nx _ σ F2 _ rfl E3 (((he.stp s1).trans (hi.stp s2)).trans t9)⟩)) kk
/-- one's own thing is handed over for good -/
theorem Env.giveG {K : PySem.W.Frag} {σ : L2.St} {F H : Hp} {i : Nat} {ad : Addr} {r : Res} {α : Type} [Rp α] {x : α} (E : Env K Γ σ F H) (h : Γ[i]? = some (.res r)) (ha : r.ads = [ad]) (hr : ∀ {F F2 : Hp} {v : V}, r.ok K F H v → Same F F2 → F2 ad = H ad → rp K F2 v x) :
    ∃ o, Env K (Γ.set i (.is x)) σ (upd F ad o) H ∧ Stp Γ F H (Γ.set i (.is x)) (upd F ad o) H := by
  obtain ⟨w, ho, v, rfl, fr, ok⟩ := E.ent i _ h
  have f1 := fr ad (by rw [ha]; exact List.mem_cons_self)
  obtain ⟨o, hH⟩ : ∃ o, H ad = some o := by
    cases q : H ad with
    | none => exact absurd q f1.2
    | some o => exact ⟨o, rfl⟩
  have sm := same_upd (o := o) f1.1
  have st : Step (· ∈ (Ent.res r).ads) F H (upd F ad o) H := ⟨sm, fun _ _ h _ => h, fun _ h => h, fun b h1 h2 => by
    by_cases z : b = ad
    · subst z; exact .inr (by show b ∈ r.ads; rw [ha]; exact List.mem_cons_self)
    · rw [upd_ne z] at h2; exact absurd h1 h2⟩
  have le : Same (upd F ad o) H := fun b x e => by
    by_cases z : b = ad
    · subst z; rw [upd_same] at e; cases e; exact hH
    · rw [upd_ne z] at e; exact E.le _ _ e
  obtain ⟨E', t⟩ := E.chg (e' := .is x) h st le (fun o2 ho' => by
    rw [ho] at ho'; cases ho'
    exact ⟨v, rfl, hr ok sm (by rw [upd_same, hH])⟩) (fun a m => by cases m)
  exact ⟨o, E', t⟩
theorem rp_dk {κ α : Type} [Ky κ] [Rp α] {K : PySem.W.Frag} {F : Hp} {v : V} {a : Addr} {kvs : List (Key × V)} {xs : List (κ × α)} (e : v = .ref a) (t : F a = some (.dK kvs)) (r : KvL K F kvs xs) : rp K F v (⟨xs⟩ : Dk κ α) := ⟨a, kvs, e, .inl t, r⟩
theorem px_giveD {κ α : Type} [Ky κ] [Rp α] {xs : List (κ × α)} {ad : Addr} {m1 : Md} {x : m1.β} (i : Nat) (k : PX X m1 (Γ.set i (.is (⟨xs⟩ : Dk κ α))) e x Γ1) (h : Γ[i]? = some (.res (.dk ad xs)) := by rfl) : PX X m1 Γ e x Γ1 :=
  ⟨fun a q => own_set_is (k.sub a q), fun σ F H Q E q => by
    obtain ⟨o, E', t⟩ := E.giveG (α := Dk κ α) (x := (⟨xs⟩ : Dk κ α)) h rfl (fun {F F2 v} ⟨e, kvs, t, r⟩ up eq => rp_dk e (by rw [eq]; exact t) (r.mono up))
    exact k.run σ _ H Q E' fun v F' H' E2 s r => q v F' H' E2 (t.st.sub s fun a z => own_set_is z) (m1.pre t.st.there r)⟩
end
end G
namespace G
open PySem PySem.Spec PyProof.Rows L2
open Rp (rp)
section
variable {X : Cx} {pins : List (Addr × Obj)} {σ : L2.St} {H : Hp} {s : Shared}
abbrev tk (X : Cx) := tupleKind (mixKind X.prog X.w)
/-- a pair at an address, as the heap has it -/
def PairAs (X : Cx) (h : Heap) (p : Addr) (q : List Key × Addr × Value) : Prop := PairAt h p (.ref q.2.1) q.2.2 ∧ (tk X).is h q.1 q.2.1
theorem pairs_seen (I : L2.Inv X pins σ H s) {ps : List Addr} {kvs : List (List Key × V)} (r : Paired (fun p kv => ∃ t, H p = some (.tup [.ref t, kv.2]) ∧ H t = some (.tup (kv.1.map kV))) ps kvs) :
    ∃ prs, KT H kvs prs ∧ Paired (PairAs X s.heap) ps prs := by
  induction r with
  | nil => exact ⟨[], .nil, .nil⟩
  | @cons p kv ps kvs hd _ ih =>
    obtain ⟨prs, k1, k2⟩ := ih
    obtain ⟨t, e1, e2⟩ := hd
    have seen := I.tuple (a := p) (.inl (.inl e1))
    obtain ⟨vals, rel, at_, _⟩ := seen
    cases rel with
    | cons r1 rest =>
      cases rest with
      | @cons _ y _ _ r2 rest =>
        cases rest
        cases r1
        exact ⟨(kv.1, t, y) :: prs, .cons ⟨rfl, e2, r2⟩ k1, .cons ⟨.inl at_, key_of I.hok e2⟩ k2⟩
theorem pair_ix {α β : Type} {R : α → β → Prop} {l : List α} {k : List β} (r : Paired R l k) : ∀ {n : Nat} {y : β}, k[n]? = some y → ∃ x, l[n]? = some x ∧ R x y := by
  induction r with
  | nil => intro n y e; simp at e
  | cons h _ ih =>
    intro n y e
    cases n with
    | zero => cases e; exact ⟨_, rfl, h⟩
    | succ n => exact ih e
def foldT (acc kvs : List (List Key × V)) : List (List Key × V) := kvs.foldl (fun l q => putK l q.1 q.2) acc
theorem foldT_len (kvs : List (List Key × V)) : ∀ acc, (foldT acc kvs).length ≤ acc.length + kvs.length := by
  induction kvs with
  | nil => intro acc; exact Nat.le_refl _
  | cons q r ih =>
    intro acc
    have a := ih (putK acc q.1 q.2)
    have b := length_putK acc q.1 q.2
    have e : foldT acc (q :: r) = foldT (putK acc q.1 q.2) r := rfl
    rw [e, List.length_cons]; omega
theorem foldT_kt {kvs : List (List Key × V)} {prs : List (List Key × Addr × Value)} (r : KT H kvs prs) : ∀ {acc pacc}, KT H acc pacc → KT H (foldT acc kvs) (storedAllH pacc prs) := by
  induction r with
  | nil => intro acc pacc z; exact z
  | @cons p q ps qs hd _ ih =>
    intro acc pacc z
    have e1 : foldT acc (p :: ps) = foldT (putK acc p.1 p.2) ps := rfl
    have e2 : storedAllH pacc (q :: qs) = storedAllH (storedH pacc p.1 q.2.1 q.2.2) qs := by rw [hd.1]; rfl
    rw [e1, e2]
    exact ih (z.put p.1 hd.2.1 hd.2.2)
/-- what dict() asks of such a list, and what it gives -/
def rDictT (K : PySem.W.Frag) : List V → Hp → VK → Prop := fun xs H Q => ∃ (a : Addr) (ps : List Addr) (kvs : List (List Key × V)), xs = [.ref a] ∧ SqL K H a (ps.map V.ref) ∧ Paired (fun p kv => ∃ t, H p = some (.tup [.ref t, kv.2]) ∧ H t = some (.tup (kv.1.map kV))) ps kvs ∧ ∀ p, H p = none → Q (.ref p) (upd H p (.dT (foldT [] kvs)))
theorem call_dictT (hc : X.calm = true) (hu : X.A.units + 2 < cLine) : CallR X (.type "dict") (rDictT X.K) := by
  rintro pins s σ H xs us Q I rv ⟨a, ps, kvs, rfl, hq, hp, give⟩
  have e := Vals.ref1 rv
  subst e
  obtain ⟨prs, kt, as⟩ := pairs_seen I hp
  obtain ⟨its, rl, ⟨o, n, ho, hcl, hdi, hda⟩, hz⟩ := I.list hq
  have ei : its = ps.map Value.ref := by
    clear hz ho hcl hdi hda kt as hp hq
    generalize hl : ps.map V.ref = l at rl
    induction rl generalizing ps with
    | nil => cases ps with
      | nil => rfl
      | cons _ _ => cases hl
    | cons r _ ih => cases ps with
      | nil => cases hl
      | cons p ps =>
        rw [List.map_cons] at hl
        injection hl with h1 h2
        subst h1
        cases r
        rw [List.map_cons, ← ih ps h2]
  have np : prs.length = ps.length := (Paired.length as).symm
  have new := I.hok.fresh (Nat.le_refl s.heap.objs.size)
  have items : PairItems s.heap its.toArray (fun j => ps.getD j 0) (prs.map fun q => (Value.ref q.2.1, q.2.2)) := by
    refine ⟨by rw [ei]; simp [np], fun j k v hj => ?_⟩
    rw [List.getElem?_map] at hj
    obtain ⟨q, hq2, e2⟩ := Option.map_eq_some_iff.mp hj
    obtain ⟨p, hp2, pa⟩ := pair_ix as hq2
    obtain ⟨rfl, rfl⟩ := Prod.mk.inj e2
    have e3 : ps.getD j 0 = p := by rw [List.getD_eq_getElem?_getD, hp2]; rfl
    show its.toArray[j]? = some (Value.ref (ps.getD j 0)) ∧ PairAt s.heap (ps.getD j 0) _ _
    rw [e3, ei]
    exact ⟨by simp [hp2], pa.1⟩
  have stay : KeysStay (tk X) s.heap s.heap.objs.size [] prs := fun h' keep x hx => by
    obtain ⟨j, hj⟩ := List.mem_iff_getElem?.mp hx
    obtain ⟨p, _, pa⟩ := pair_ix as hj
    obtain ⟨ob, vs, m, g1, g2⟩ := pa.2
    exact ⟨ob, vs, m, keep _ _ (Nat.ne_of_lt (Heap.lt_size g1)) (by simp) g1, g2⟩
  refine PySem.call_dict_pairsH (knd := tk X) (ps := prs) (PairArg.list a its.toArray (fun j => ps.getD j 0) (prs.map fun q => (Value.ref q.2.1, q.2.2))) (I.ok.hd hc) hu ⟨⟨o, n, ho, hcl, hdi, hda⟩, items⟩ ⟨by simp, fun i key v hi => ?_⟩ stay (by rw [List.length_map] at hz ⊢; rw [np]; exact hz) fun h' t dd kept => ?_
  · have hi : (prs.map fun q => (Value.ref q.2.1, q.2.2))[i]? = some (key, v) := hi
    rw [List.getElem?_map] at hi
    obtain ⟨q, hq2, e2⟩ := Option.map_eq_some_iff.mp hi
    obtain ⟨rfl, rfl⟩ := Prod.mk.inj e2
    exact ⟨q.1, q.2.1, hq2, rfl⟩
  · have small : (foldT [] kvs).length ≤ sizeLine := by
      have z := foldT_len kvs []
      have z2 := Paired.length hp
      rw [List.length_map] at hz
      simp only [List.length_nil, Nat.zero_add] at z
      omega
    obtain ⟨ob, es, ep, g1, g2, g3, g4, _, g5⟩ := dd
    have low : (s.heap.objs.size == sysModules) = false := beq_eq_false_iff_ne.mpr fun z => Nat.lt_irrefl _ (z ▸ I.big)
    have kt2 : KT (upd H s.heap.objs.size (.dT (foldT [] kvs))) (foldT [] kvs) (storedAllH [] prs) := (foldT_kt kt .nil).keeps fun c l ec => by
      rw [upd_ne (ne_of_none ec new)]; exact ec
    exact ⟨.ref s.heap.objs.size, upd H s.heap.objs.size (.dT (foldT [] kvs)), I.laid (t' := t) (fun b o e => kept b o (by simp) e) (Nat.le_refl _) ⟨small, low, storedAllH [] prs, kt2, ob, es, ep, g1, g2, g3, g4, g5⟩, rfl, give _ new⟩
end
section
variable {X : Cx} {Γ Γ1 : DE} {e : Expr} {p pos : Pos}
theorem foldT_rep {α : Type} [Rp α] {K : PySem.W.Frag} {F : Hp} {kvs : List (List Key × V)} {xs : List ((Int × Int) × α)} (r : KtL K F kvs xs) : ∀ {acc : List (List Key × V)} {yacc : List ((Int × Int) × α)}, KtL K F acc yacc → KtL K F (foldT acc kvs) (xs.foldl (fun l q => put l q.1 q.2) yacc) := by
  induction r with
  | nil => intro acc yacc z; exact z
  | @cons p q ps qs hd _ ih =>
    intro acc yacc z
    have e1 : foldT acc (p :: ps) = foldT (putK acc p.1 p.2) ps := rfl
    rw [e1, List.foldl_cons, hd.1]
    exact ih (z.put q.1 hd.2)
theorem rep_pairs {α : Type} [Rp α] {K : PySem.W.Frag} {F : Hp} {vs : List V} {xs : List ((Int × Int) × α)} (r : RpL K F vs xs) :
    ∃ ps kvs, vs = ps.map V.ref ∧ Paired (fun p kv => ∃ t, F p = some (.tup [.ref t, kv.2]) ∧ F t = some (.tup (kv.1.map kV))) ps kvs ∧ KtL K F kvs xs := by
  induction r with
  | nil => exact ⟨[], [], rfl, .nil, .nil⟩
  | @cons v x vs xs hd _ ih =>
    obtain ⟨ps, kvs, e, p1, p2⟩ := ih
    obtain ⟨a, v1, v2, rfl, t1, ⟨b, w1, w2, rfl, t2, i1, i2⟩, r2⟩ := hd
    rw [show w1 = V.int x.1.1 from i1, show w2 = V.int x.1.2 from i2] at t2
    exact ⟨a :: ps, ([.inl x.1.1, .inl x.1.2], v2) :: kvs, by rw [e]; rfl, .cons ⟨b, t1, t2⟩ p1, .cons ⟨rfl, r2⟩ p2⟩
/-- dict(e), e a list of pairs ((i, j), x) -/
theorem px_dictT {α : Type} [Rp α] {xs : List ((Int × Int) × α)} (hm : X.mg "dict" = none) (hu : X.A.units + 2 < cLine) (h : PX X (sh (List ((Int × Int) × α))) Γ e xs Γ1) (hc : X.calm = true := by rfl)
    (hp : X.mg "dict" = none → ∀ {r : List V → Hp → VK → Prop} {t : TA}, CallR X (.type "dict") r → PA X [e] t → PE X (.Call (.Name "dict" p) [e] [] pos) (tCB r t) := by intro hm r t h1 h2; exact pe_callTy h1 (by rfl) hm (by decide +kernel) h2) (ha : PA X [e] (tCons (wE X e) tNil) := by exact pa_cons pE pa_nil) :
    PX X (sh (Dt α)) Γ (.Call (.Name "dict" p) [e] [] pos) ⟨xs.foldl (fun l q => put l q.1 q.2) []⟩ Γ1 :=
  ⟨h.sub, fun σ F H Q E q => wE.of (hp hm (call_dictT hc hu) ha) (h.run σ F H _ E fun v F1 H1 E1 s1 ⟨a, vs, ev, t, r⟩ => by
    obtain ⟨ps, kvs, e1, p1, p2⟩ := rep_pairs r
    subst ev e1
    refine ⟨a, ps, kvs, rfl, .inl (.inl (E1.le _ _ t)), Paired.mapP p1 fun _ _ ⟨t, x1, x2⟩ => ⟨t, E1.le _ _ x1, E1.le _ _ x2⟩, fun b hb => ?_⟩
    obtain ⟨E2, s2⟩ := obj_new (u := .dT (foldT [] kvs)) E1 hb
    have up := same_upd (o := .dT (foldT [] kvs)) (E1.free hb)
    exact q _ _ _ E2 (s1.sub s2 h.sub) ⟨b, _, rfl, .inl upd_same, (foldT_rep p2 .nil).mono up⟩)⟩
end
end G
namespace G
open PySem PySem.Spec PyProof.Rows L2
open Rp (rp)
def Res.Lk (r : Res) : Prop := ∀ (K : PySem.W.Frag) (F F' H : Hp) (v : V), Alk F F' → r.ok K F H v → r.ok K F' H v
theorem lk_lst {α : Type} [Rp α] {a : Addr} {xs : List α} : (Res.lst a xs).Lk := fun K F F' H v A ⟨e, vs, t, r⟩ => ⟨e, vs, t, r.lk A⟩
def LkL : DE → Prop
  | [] => True
  | .res r :: Γ => r.Lk ∧ LkL Γ
  | _ :: Γ => LkL Γ
theorem LkL.at_ : ∀ {Γ : DE} {i : Nat} {r : Res}, LkL Γ → Γ[i]? = some (.res r) → r.Lk
  | [], i, r, _, h => by simp at h
  | .res r0 :: Γ, 0, r, L, h => by cases h; exact L.1
  | .res r0 :: Γ, i + 1, r, L, h => LkL.at_ (Γ := Γ) (i := i) L.2 (by simpa using h)
  | .no :: Γ, 0, r, L, h => by cases h
  | .no :: Γ, i + 1, r, L, h => LkL.at_ (Γ := Γ) (i := i) L (by simpa using h)
  | @Ent.is _ _ x :: Γ, 0, r, L, h => by cases h
  | @Ent.is _ _ x :: Γ, i + 1, r, L, h => LkL.at_ (Γ := Γ) (i := i) L (by simpa using h)
theorem Env.alk {K : PySem.W.Frag} {Γ : DE} {σ : L2.St} {F H F' H' : Hp} (E : Env K Γ σ F H) (L : LkL Γ) (A : Alk F F') (le : Same F' H') (hs : ∀ a, F a = none → H' a = H a ∧ F' a = none) : Env K Γ σ F' H' := by
  refine ⟨le, E.len, fun i e q => ?_, E.sep⟩
  obtain ⟨o, ho, r⟩ := E.ent i e q
  refine ⟨o, ho, ?_⟩
  cases e with
  | no => trivial
  | is x => obtain ⟨v, e, r⟩ := r; exact ⟨v, e, Rp.lk A r⟩
  | res r0 =>
    obtain ⟨v, e, ha, k⟩ := r
    exact ⟨v, e, fun a m => ⟨(hs a (ha a m).1).2, by rw [(hs a (ha a m).1).1]; exact (ha a m).2⟩, r0.frame (fun a m => (hs a (ha a m).1).1) (L.at_ q K F F' H v A k)⟩
theorem Env.swap {K : PySem.W.Frag} {Γ : DE} {σ : L2.St} {F H : Hp} {ad : Addr} {o o' : HO} (E : Env K Γ σ F H) (L : LkL Γ) (h : F ad = some o) (hA : Alk F (upd F ad o')) : Env K Γ σ (upd F ad o') (upd H ad o') := by
  refine E.alk L hA (fun b x e => ?_) fun a e => ?_
  · by_cases z : b = ad
    · rw [z, upd_same] at e ⊢; exact e
    · rw [upd_ne z] at e ⊢; exact E.le _ _ e
  · have z : a ≠ ad := fun z => by rw [z, h] at e; cases e
    rw [upd_ne z, upd_ne z]
    exact ⟨rfl, e⟩
theorem Alk.lock {F : Hp} {ad : Addr} {od : Obj} {d : HO} (h : F ad = some d) (hd : DictO d) : Alk F (upd F ad (.frz od d)) := fun a o e => by
  by_cases z : a = ad
  · subst z; rw [h] at e; cases e; exact .inr (.inl ⟨hd, od, upd_same⟩)
  · exact .inl (by rw [upd_ne z]; exact e)
theorem Alk.unlock {F : Hp} {ad : Addr} {od : Obj} {d : HO} (h : F ad = some (.frz od d)) (hd : DictO d) : Alk F (upd F ad d) := fun a o e => by
  by_cases z : a = ad
  · subst z; rw [h] at e; cases e; exact .inr (.inr ⟨od, d, rfl, hd, upd_same⟩)
  · exact .inl (by rw [upd_ne z]; exact e)
structure MdLk (m : Md) : Prop where
  lk : ∀ {K : PySem.W.Frag} {F H F2 H2 F3 H3 : Hp} {v : V} {x : m.β}, m.ok K F H F2 H2 v x → Alk F2 F3 → (∀ a, F2 a = none → H3 a = H2 a ∧ F3 a = none) → m.ok K F H F3 H3 v x
theorem mdLk_sh {α : Type} [Rp α] : MdLk (sh α) := ⟨fun h A _ => Rp.lk A h⟩
theorem mdLk_nw {α : Type} [Rp α] : MdLk (nw α) := ⟨fun ⟨p, vs, e, h1, h2, t, r⟩ A hs => ⟨p, vs, e, h1, (hs p h2).2, by rw [(hs p h2).1]; exact t, r.lk A⟩⟩
/-- a dict that is being walked -/
@[reducible] def Res.lkK {κ α : Type} [Ky κ] [Rp α] (ad : Addr) (od : Obj) (xs : List (κ × α)) : Res where
  ads := []
  ok := fun K F H v => v = .ref ad ∧ ∃ kvs, F ad = some (.frz od (.dK kvs)) ∧ KvL K F kvs xs
  mono := fun h ⟨e, vs, e3, r⟩ => ⟨e, vs, h _ _ e3, r.mono h⟩
  frame := fun _ h => h
@[reducible] def Res.lkT {α : Type} [Rp α] (ad : Addr) (od : Obj) (xs : List ((Int × Int) × α)) : Res where
  ads := []
  ok := fun K F H v => v = .ref ad ∧ ∃ kvs, F ad = some (.frz od (.dT kvs)) ∧ KtL K F kvs xs
  mono := fun h ⟨e, vs, e3, r⟩ => ⟨e, vs, h _ _ e3, r.mono h⟩
  frame := fun _ h => h
theorem set_back {Γ : DE} {i : Nat} {e e' : Ent} (h : Γ[i]? = some e) : (Γ.set i e').set i e = Γ := by
  rw [List.set_set]
  apply List.ext_getElem?
  intro j
  by_cases z : i = j
  · subst z
    rw [List.getElem?_set_self (List.getElem?_eq_some_iff.mp h).1, h]
  · rw [List.getElem?_set_ne z]
theorem Paired_at {α β : Type} {R : α → β → Prop} : ∀ {l : List α} {k : List β} {n : Nat} {y : β}, Paired R l k → k[n]? = some y → ∃ x, l[n]? = some x ∧ R x y
  | _, _, n, y, .nil, h => by simp at h
  | _, _, 0, y, .cons r _, h => by simp at h; subst h; exact ⟨_, rfl, r⟩
  | _, _, n + 1, y, .cons _ t, h => by simpa using Paired_at t (by simpa using h)
section
variable {X : Cx} {Γ : DE} {e : Expr} {m : Md} {x : m.β}
/-- slot i's entry is told otherwise -/
theorem Env.retell {K : PySem.W.Frag} {σ : L2.St} {F H : Hp} {i : Nat} {e e' : Ent} (E : Env K Γ σ F H) (h : Γ[i]? = some e) (ha : e'.ads = []) (ok : ∀ o, σ[i]? = some o → e.ok K F H o → e'.ok K F H o) : Env K (Γ.set i e') σ F H := by
  refine (E.chg (e' := e') h (F' := F) (H' := H) ⟨Same.refl _, fun _ _ h _ => h, fun _ h => h, fun _ h h' => absurd h h'⟩ E.le (fun o ho => ?_) (fun a m => by rw [ha] at m; cases m)).1
  obtain ⟨o', ho', k⟩ := E.ent i e h
  rw [ho] at ho'; cases ho'
  exact ok _ ho k
theorem own_retell {i : Nat} {e e' : Ent} (h : Γ[i]? = some e) (h1 : e.ads = []) (h2 : e'.ads = []) {a : Addr} : Own (Γ.set i e') a ↔ Own Γ a := by
  constructor
  · intro q
    rcases own_set q with z | z
    · rw [h2] at z; cases z
    · exact z
  · rintro ⟨j, q⟩
    by_cases z : i = j
    · subst z; rw [adsAt_of h, h1] at q; cases q
    · refine ⟨j, ?_⟩
      unfold adsAt at q ⊢
      rw [List.getElem?_set_ne z]
      exact q
theorem px_lockG {i : Nat} {α : Type} [Rp α] {d : α} (mk : Addr → Obj → Res) (hads : ∀ ad od, (mk ad od).ads = []) (h : Γ[i]? = some (.is d)) (ml : MdLk m) (L : LkL Γ)
    (open_ : ∀ F v, rp X.K F v d → ∃ ad dd, v = .ref ad ∧ DictO dd ∧ ((F ad = some dd ∧ ∀ od F2, F2 ad = some (.frz od dd) → Alk F F2 → ∀ H, (mk ad od).ok X.K F2 H (.ref ad)) ∨ ∃ od, F ad = some (.frz od dd) ∧ ∀ H, (mk ad od).ok X.K F H (.ref ad)))
    (shut : ∀ ad od F H v, (mk ad od).ok X.K F H v → rp X.K F v d)
    (k : ∀ ad od, PX X m (Γ.set i (.res (mk ad od))) e x (Γ.set i (.res (mk ad od)))) : PX X m Γ e x Γ := by
  refine ⟨sub_refl, fun σ F H Q E q => ?_⟩
  obtain ⟨o, ho, v, rfl, r⟩ := E.ent i _ h
  obtain ⟨ad, dd, rfl, hd, op⟩ := open_ F v r
  have mt : Mut (some dd) := by
    cases dd <;> first | trivial | exact hd.elim
  have ow : ∀ od a, Own (Γ.set i (.res (mk ad od))) a ↔ Own Γ a := fun od a => own_retell (e := .is d) (e' := .res (mk ad od)) h rfl (hads ad od)
  have len : i < Γ.length := (List.getElem?_eq_some_iff.mp h).1
  have back : ∀ od F' H', Env X.K (Γ.set i (.res (mk ad od))) σ F' H' → Env X.K Γ σ F' H' := fun od F' H' E' => by
    have := E'.retell (i := i) (e' := .is d) (List.getElem?_set_self len) rfl (fun o _ ⟨v, e, _, r⟩ => ⟨v, e, shut ad od F' H' v r⟩)
    rwa [set_back h] at this
  have stp : ∀ {od F1 H1 F2 H2}, Step (Own (Γ.set i (.res (mk ad od)))) F1 H1 F2 H2 → Step (Own Γ) F1 H1 F2 H2 := fun {od F1 H1 F2 H2} s => ⟨s.up, fun p o e no => s.keep p o e fun z => no ((ow od p).mp z), s.there, fun p h1 h2 => (s.fresh p h1 h2).imp id (ow od p).mp⟩
  rcases op with ⟨hF, go⟩ | ⟨od, hF, go⟩
  · have hH : H ad = some dd := E.le _ _ hF
    refine wE.of (pe_lock pE) ⟨ad, dd, hH, mt, fun od => ?_⟩
    have A := Alk.lock (od := od) hF hd
    have E2 := E.swap L hF A
    have E3 := E2.retell (e' := .res (mk ad od)) h (hads ad od) (fun o ho2 _ => by
      rw [ho] at ho2; cases ho2
      exact ⟨.ref ad, rfl, (fun a m => by rw [hads] at m; cases m), go od _ upd_same A _⟩)
    have no : ¬ Own Γ ad := fun ⟨j, z⟩ => by rw [(E.freeOf z).1] at hF; cases hF
    refine (k ad od).run σ _ _ _ E3 fun v F' H' E' s r' => ?_
    have s := stp s
    have hF' : F' ad = some (.frz od dd) := s.up _ _ upd_same
    have A2 := Alk.unlock hF' hd
    have E5 := (back od F' H' E').swap L hF' A2
    refine ⟨E'.le _ _ hF', q v _ _ E5 ⟨fun p o e => ?_, fun p o e np => ?_, fun p e => ?_, fun p h1 h2 => ?_⟩ (ml.lk (m.pre (fun p e => ?_) r') A2 fun a e => ?_)⟩
    · by_cases z : p = ad
      · subst z; rw [hF] at e; cases e; exact upd_same
      · rw [upd_ne z]; exact s.up p o (by rw [upd_ne z]; exact e)
    · by_cases z : p = ad
      · subst z; rw [hH] at e; cases e; exact upd_same
      · rw [upd_ne z]; exact s.keep p o (by rw [upd_ne z]; exact e) np
    · by_cases z : p = ad
      · rw [z, upd_same] at e; cases e
      · rw [upd_ne z] at e
        have := s.there p e
        rwa [upd_ne z] at this
    · have z : p ≠ ad := fun z => by rw [z, hF] at h1; cases h1
      rw [upd_ne z] at h2
      have := s.fresh p (by rw [upd_ne z]; exact h1) h2
      rwa [upd_ne z] at this
    · by_cases z : p = ad
      · rw [z, upd_same] at e; cases e
      · rwa [upd_ne z] at e
    · have z : a ≠ ad := fun z => by rw [z, hF'] at e; cases e
      rw [upd_ne z, upd_ne z]
      exact ⟨rfl, e⟩
  · have E3 := E.retell (e' := .res (mk ad od)) h (hads ad od) (fun o ho2 _ => by
      rw [ho] at ho2; cases ho2
      exact ⟨.ref ad, rfl, (fun a m => by rw [hads] at m; cases m), go _⟩)
    exact (k ad od).run σ _ _ _ E3 fun v F' H' E' s r' => q v F' H' (back od F' H' E') (stp s) r'
/-- a shared dict is walked within e -/
theorem px_lockK {κ α : Type} [Ky κ] [Rp α] {d : Dk κ α} (i : Nat) (ml : MdLk m) (L : LkL Γ) (k : ∀ ad od, PX X m (Γ.set i (.res (.lkK ad od d.l))) e x (Γ.set i (.res (.lkK ad od d.l)))) (h : Γ[i]? = some (.is d) := by rfl) : PX X m Γ e x Γ := by
  refine px_lockG (fun ad od => .lkK ad od d.l) (fun _ _ => rfl) h ml L (fun F v ⟨a, kvs, ev, t, r⟩ => ⟨a, .dK kvs, ev, trivial, ?_⟩) (fun ad od F H v ⟨ev, kvs, t, r⟩ => ⟨ad, kvs, ev, .inr ⟨od, t⟩, r⟩) k
  rcases t with t | ⟨od, t⟩
  · exact .inl ⟨t, fun od F2 t2 A H => ⟨rfl, kvs, t2, r.lk A⟩⟩
  · exact .inr ⟨od, t, fun H => ⟨rfl, kvs, t, r⟩⟩
theorem px_lockT {α : Type} [Rp α] {d : Dt α} (i : Nat) (ml : MdLk m) (L : LkL Γ) (k : ∀ ad od, PX X m (Γ.set i (.res (.lkT ad od d.l))) e x (Γ.set i (.res (.lkT ad od d.l)))) (h : Γ[i]? = some (.is d) := by rfl) : PX X m Γ e x Γ := by
  refine px_lockG (fun ad od => .lkT ad od d.l) (fun _ _ => rfl) h ml L (fun F v ⟨a, kvs, ev, t, r⟩ => ⟨a, .dT kvs, ev, trivial, ?_⟩) (fun ad od F H v ⟨ev, kvs, t, r⟩ => ⟨ad, kvs, ev, .inr ⟨od, t⟩, r⟩) k
  rcases t with t | ⟨od, t⟩
  · exact .inl ⟨t, fun od F2 t2 A H => ⟨rfl, kvs, t2, r.lk A⟩⟩
  · exact .inr ⟨od, t, fun H => ⟨rfl, kvs, t, r⟩⟩
end
class KyR (κ : Type) [Rp κ] [Ky κ] : Prop where
  rep : ∀ {K : PySem.W.Frag} {F : Hp} {k : κ}, rp K F (kV (Ky.ky k)) k
instance : KyR Int := ⟨rfl⟩
instance : KyR Str := ⟨rfl⟩
section
variable {X : Cx} {Γ : DE} {tg : Expr} {p tpos apos cpos : Pos} {nm : Str} {elts : List Expr} {kk : Nat} {ad : Addr} {od : Obj}
theorem it_items {κ α : Type} [Rp κ] [Ky κ] [KyR κ] [Rp α] {xs : List (κ × α)} (i : Nat) (h : Γ[i]? = some (.res (.lkK ad od xs)) := by rfl) (hN : X.N[i]? = some nm := by rfl) (hv : Vis X.env.scope nm := by first | exact Or.inl rfl | exact Or.inr (Or.inl rfl) | exact Or.inr (Or.inr rfl)) (hd : (nm == ("__debug__" : Str)) = false := by decide) (hcd : (nm == ("__classdict__" : Str)) = false := by decide)
    (hb : attributeBase (.Name nm p) "items" X.env (eval (.Name nm p) X.env) = eval (.Name nm p) X.env := by rfl) (hln : (apos.endLine == cpos.line) = true := by rfl) : IX X Γ (.Tuple elts kk tpos) (.Call (.Attribute (.Name nm p) "items" apos) [] [] cpos) xs Γ :=
  ⟨sub_refl, fun σ F H R E q => by
    obtain ⟨o, ho, v, rfl, _, ev, kvs, t, r⟩ := E.ent i _ h
    have ln : kvs.length = xs.length := Paired.length r
    have at_ : ∀ F2 H2, Same F F2 → Same F2 H2 → H2 ad = some (.frz od (.dK kvs)) := fun F2 H2 h1 h2 => h2 _ _ (h1 _ _ t)
    refine wI.of (pi_items (pe_var hN hv hd hcd) hb hln) ⟨_, ho, ad, od, kvs, ev, E.le _ _ t, q _ F H E Step.refl ⟨fun i F2 H2 h1 h2 hi => ⟨at_ F2 H2 h1 h2, by rw [ln]; exact hi⟩, fun i F2 H2 v H3 y h1 h2 hy ⟨T, k, u, e1, e2, e3, e4⟩ => ?_, fun i F2 H2 h1 h2 hi => ⟨at_ F2 H2 h1 h2, by rw [ln]; exact hi⟩⟩⟩
    subst e2 e4
    obtain ⟨kv, hkv, ek, rr⟩ := Paired_at r hy
    rw [e1] at hkv; cases hkv
    have ek : k = Ky.ky y.1 := ek
    subst ek
    obtain ⟨s1, s2, s3⟩ := tup_yld (K := X.K) (vs := [kV (Ky.ky y.1), u]) h2 e3
    exact ⟨_, s1, s2, T, _, _, rfl, upd_same, KyR.rep, Rp.mono (h1.trans s3) rr⟩⟩
theorem it_values {κ α : Type} [Ky κ] [Rp α] {xs : List (κ × α)} (i : Nat) (h : Γ[i]? = some (.res (.lkK ad od xs)) := by rfl) (hN : X.N[i]? = some nm := by rfl) (hv : Vis X.env.scope nm := by first | exact Or.inl rfl | exact Or.inr (Or.inl rfl) | exact Or.inr (Or.inr rfl)) (hd : (nm == ("__debug__" : Str)) = false := by decide) (hcd : (nm == ("__classdict__" : Str)) = false := by decide)
    (hb : attributeBase (.Name nm p) "values" X.env (eval (.Name nm p) X.env) = eval (.Name nm p) X.env := by rfl) (hln : (apos.endLine == cpos.line) = true := by rfl) : IX X Γ tg (.Call (.Attribute (.Name nm p) "values" apos) [] [] cpos) (xs.map (·.2)) Γ :=
  ⟨sub_refl, fun σ F H R E q => by
    obtain ⟨o, ho, v, rfl, _, ev, kvs, t, r⟩ := E.ent i _ h
    have ln : kvs.length = (xs.map (·.2)).length := by rw [List.length_map]; exact Paired.length r
    have at_ : ∀ F2 H2, Same F F2 → Same F2 H2 → H2 ad = some (.frz od (.dK kvs)) := fun F2 H2 h1 h2 => h2 _ _ (h1 _ _ t)
    refine wI.of (pi_values (pe_var hN hv hd hcd) hb hln) ⟨_, ho, ad, od, kvs, ev, E.le _ _ t, q _ F H E Step.refl ⟨fun i F2 H2 h1 h2 hi => ⟨at_ F2 H2 h1 h2, by rw [ln]; exact hi⟩, fun i F2 H2 v H3 y h1 h2 hy ⟨e1, k, e2⟩ => ?_, fun i F2 H2 h1 h2 hi => ⟨at_ F2 H2 h1 h2, by rw [ln]; exact hi⟩⟩⟩
    subst e1
    rw [List.getElem?_map] at hy
    obtain ⟨y2, hy2, rfl⟩ := Option.map_eq_some_iff.mp hy
    obtain ⟨kv, hkv, _, rr⟩ := Paired_at r hy2
    rw [e2] at hkv; cases hkv
    exact ⟨F2, Step.refl, h2, Rp.mono h1 rr⟩⟩
end
end G
namespace G
open PySem PySem.Spec PyProof.Rows L2
open Rp (rp)
section
variable {X : Cx} {Γ Γ1 : DE} {e : Expr} {p p2 pos pos2 : Pos}
/-- max of a list of whole numbers that isn't empty -/
theorem px_maxL {xs : List Int} {M : Int} (hm : X.mg "max" = none) (h : PX X (br Int) Γ e xs Γ1) (h1 : M ∈ xs) (h2 : ∀ n ∈ xs, n ≤ M) (hc : X.calm = true := by rfl)
    (hp : X.mg "max" = none → ∀ {r : List V → Hp → VK → Prop} {t : TA}, CallR X (.builtin "max") r → PA X [e] t → PE X (.Call (.Name "max" p) [e] [] pos) (tCB r t) := by intro hm r t h1 h2; exact pe_callB h1 (by rfl) hm (by decide +kernel) h2) (ha : PA X [e] (tCons (wE X e) tNil) := by exact pa_cons pE pa_nil) :
    PX X (sh Int) Γ (.Call (.Name "max" p) [e] [] pos) M Γ1 :=
  ⟨h.sub, fun σ F H Q E q => wE.of (hp hm (cr_max hc) ha) (h.run σ F H _ E fun v F1 H1 E1 s1 ⟨l, vs, ev, t, r⟩ => by
    have ei := ints_of r
    subst ei
    exact ⟨l, xs, by rw [ev], t, List.length_pos_of_mem h1, fun m a b => q _ F1 H1 E1 s1 (by
      have e : m = M := Int.le_antisymm (h2 m a) (b M h1)
      rw [e]; rfl)⟩)⟩
end
section
variable {X : Cx} {Γ : DE} {p q1 p1 pos ppos cpos : Pos} {nm n1 : Str} {sc : Scope} {j}
theorem px_headsT {α : Type} [Rp α] {d : Dt α} (own : List (Str × Nat)) (i i1 : Nat) (hNd : X.N.Nodup) (L : LkL Γ) (hz : d.l.length < sizeLine) (l1 : i1 < Γ.length) (ho : own.map (·.2) = [i1]) (h : Γ[i]? = some (.is d) := by rfl) (hN : X.N[i]? = some nm := by rfl) (hv : Vis X.env.scope nm := by first | exact Or.inl rfl | exact Or.inr (Or.inl rfl) | exact Or.inr (Or.inr rfl))
    (hd : (nm == ("__debug__" : Str)) = false := by decide) (hcd : (nm == ("__classdict__" : Str)) = false := by decide) (hcalm : X.calm = true := by rfl) (ok : BlkOk X.N X.env.scope sc own := by exact blkOk_by (by kernel_rfl))
    (hg : ∀ s H0 C cl fp, PG (bk X sc s H0 C cl fp) (.Name n1 q1) (gName i1) := by intro _ _ _ _ _; exact pg_name (by assumption) rfl (by first | exact Or.inl rfl | exact Or.inr rfl) (by first | exact .inl rfl | exact .inr rfl))
    (hw : ∀ s H0 C cl fp, PE (bk X sc s H0 C cl fp) (.Subscript (.Name n1 p1) (.Constant (.int 0) j cpos) ppos) (tOp (rIxT X.K) (tVar i1) (tC (.int 0))) := by intro _ _ _ _ _; exact pe_ix ix_tup (pe_var rfl (by first | exact Or.inl rfl | exact Or.inr (Or.inl rfl) | exact Or.inr (Or.inr rfl))) pe_int (by exact fun _ _ => rfl))
    (hfs : ∀ x, foldedSetIterable (.Name nm p) X.env x = pure x := by intro _; rfl) :
    PX X (nw Int) Γ (.ListComp (.Subscript (.Name n1 p1) (.Constant (.int 0) j cpos) ppos) [⟨.Name n1 q1, .Name nm p, [], 0⟩] sc pos) (d.l.map fun x => x.1.1) Γ := by
  refine px_lockT i mdLk_nw L (fun ad od => ⟨sub_refl, fun σ F H Q E q => ?_⟩) h
  have il : i < Γ.length := (List.getElem?_eq_some_iff.mp h).1
  refine wE.of (pe_lc hcalm hNd (pi_keys (pe_var hN hv hd hcd)) ok hg (tt := tYes) (fun _ _ _ _ _ => pts_nil) hw hfs) ?_
  obtain ⟨o, hσ, w, rfl, _, ew, kvs, t, r⟩ := E.ent i _ (List.getElem?_set_self il)
  subst ew
  have kH : H ad = some (.frz od (.dT kvs)) := E.le _ _ t
  have ln : kvs.length = d.l.length := Paired.length r
  refine ⟨_, hσ, ad, od, rfl, .inr ⟨kvs, kH, fun D hD => ?_⟩⟩
  have nD : ad ≠ D := fun z => by rw [z] at kH; rw [kH] at hD; cases hD
  refine ⟨fun n m H2 => m = d.l.length - n ∧ n ≤ d.l.length ∧ ∃ us, H2 D = some (.lst us) ∧ RpL X.K F us ((d.l.take n).map fun x => x.1.1) ∧ (∀ b o, b ≠ D → H b = some o → H2 b = some o) ∧ ∀ b, H2 b = none → H b = none, ⟨d.l.length, by simp, Nat.zero_le _, [], upd_same, .nil, fun b o nb e => by rw [upd_ne nb]; exact e, fun b e => ?_⟩, ?_⟩
  · by_cases z : b = D
    · rw [z, upd_same] at e; cases e
    · rwa [upd_ne z] at e
  rintro n m H2 ⟨rfl, hn, us, g1, g2, g3, g4⟩
  have g5 := g3 ad _ nD kH
  by_cases hlt : n < d.l.length
  · obtain ⟨y, hy⟩ : ∃ y, d.l[n]? = some y := ⟨_, List.getElem?_eq_getElem hlt⟩
    obtain ⟨kv, hkv, ek, _⟩ := Paired_at r hy
    have e3 : d.l.take (n + 1) = d.l.take n ++ [y] := by rw [List.take_add_one, hy]; rfl
    refine .inr ⟨⟨g5, by rw [ln]; exact hlt⟩, fun H3 => ∃ us, H3 D = some (.lst us) ∧ RpL X.K F us ((d.l.take (n + 1)).map fun x => x.1.1) ∧ (∀ b o, b ≠ D → H b = some o → H3 b = some o) ∧ ∀ b, H3 b = none → H b = none, fun H3 h3 => ⟨d.l.length - (n + 1), by omega, rfl, hlt, h3⟩, ?_⟩
    rintro x H3 ⟨rfl, k, v, T, z1, rfl, z3⟩
    rw [hkv] at z1
    cases z1
    have ek : k = [.inl y.1.1, .inl y.1.2] := ek
    subst ek
    have len1 : (wipe σ (own.map (·.2))).length = Γ.length := by rw [wipe_length, E.len, List.length_set]
    refine ⟨?_, ?_⟩
    · refine wipe_eq (by simp [wipe_length]) fun b nb => ?_
      rw [ho] at nb
      rw [List.getElem?_set_ne fun z => nb (by simp [z])]
    · unfold tYes
      dsimp only
      rw [if_pos rfl]
      refine ⟨_, List.getElem?_set_self (by rw [len1]; exact l1), T, [V.int y.1.1, V.int y.1.2], 0, V.int y.1.1, rfl, rfl, .inl (.inl z3), rfl, us, g1, ?_, ?_⟩
      · rw [g2.length, List.length_map, List.length_take]; omega
      · refine ⟨_, upd_same, ?_, fun b o nb e => by rw [upd_ne nb]; exact g3 b o nb e, fun b e => ?_⟩
        · rw [e3, List.map_append]
          exact g2.snoc rfl
        · by_cases z : b = D
          · rw [z, upd_same] at e; cases e
          · rw [upd_ne z] at e; exact g4 b e
  · have e : n = d.l.length := Nat.le_antisymm hn (Nat.le_of_not_lt hlt)
    subst e
    rw [List.take_length] at g2
    refine .inl ⟨⟨g5, by rw [ln]; exact Nat.le_refl _⟩, ?_⟩
    have up : Same H H2 := fun b o e => g3 b o (fun y => by rw [y, hD] at e; cases e) e
    exact q _ F _ (E.grow up) ⟨Same.refl _, fun b o e _ => up b o e, fun b e => g4 b e, fun b h1 h2 => absurd h1 h2⟩ ⟨D, us, rfl, hD, Same.free E.le hD, g1, g2⟩
end
end G
namespace G
open PySem PySem.Spec PyProof.Rows L2
open Rp (rp)
abbrev Inner {α : Type} [Rp α] (K : PySem.W.Frag) (F H : Hp) (b : Addr) (xs : List α) : Prop := ∃ vs, H b = some (.lst vs) ∧ RpL K F vs xs
theorem inner_frame {α : Type} [Rp α] {K : PySem.W.Frag} {F F' H H' : Hp} {as : List Addr} {xss : List (List α)} (r : Paired (Inner K F H) as xss) : Same F F' → (∀ b ∈ as, H' b = H b) → Paired (Inner K F' H') as xss := by
  induction r with
  | nil => intro _ _; exact .nil
  | cons h _ ih =>
    intro up hs
    obtain ⟨vs, t, r⟩ := h
    exact .cons ⟨vs, by rw [hs _ List.mem_cons_self]; exact t, r.mono up⟩ (ih up fun b m => hs b (List.mem_cons_of_mem _ m))
@[reducible] def Res.ll {α : Type} [Rp α] (a : Addr) (as : List Addr) (xss : List (List α)) : Res where
  ads := a :: as
  ok := fun K F H v => v = .ref a ∧ (a :: as).Nodup ∧ H a = some (.lst (as.map V.ref)) ∧ Paired (Inner K F H) as xss
  mono := fun h ⟨e, n, t, r⟩ => ⟨e, n, t, inner_frame r h fun _ _ => rfl⟩
  frame := fun h ⟨e, n, t, r⟩ => ⟨e, n, by rw [h _ List.mem_cons_self]; exact t, inner_frame r (Same.refl _) fun b m => h b (List.mem_cons_of_mem _ m)⟩
/-- what needs no heap -/
class Flt (α : Type) [Rp α] : Prop where
  any : ∀ {K : PySem.W.Frag} {F F' : Hp} {v : V} {x : α}, rp K F v x → rp K F' v x
instance : Flt Int := ⟨fun h => h⟩
instance : Flt Str := ⟨fun h => h⟩
theorem flt_all {α : Type} [Rp α] [Flt α] {K : PySem.W.Frag} {F F' : Hp} {vs : List V} {xs : List α} (r : RpL K F vs xs) : RpL K F' vs xs := Paired.mapP r fun _ _ h => Flt.any h
/-- F with some more of H -/
def more (F H : Hp) (l : List Addr) : Hp := fun p => if p ∈ l then H p else F p
theorem more_in {F H : Hp} {l : List Addr} {p : Addr} (m : p ∈ l) : more F H l p = H p := if_pos m
theorem more_out {F H : Hp} {l : List Addr} {p : Addr} (m : p ∉ l) : more F H l p = F p := if_neg m
theorem more_same {F H : Hp} {l : List Addr} (h : ∀ b ∈ l, F b = none) : Same F (more F H l) := fun p o e => by
  by_cases m : p ∈ l
  · rw [h p m] at e; cases e
  · rw [more_out m]; exact e
theorem more_le {F H : Hp} {l : List Addr} (h : Same F H) : Same (more F H l) H := fun p o e => by
  by_cases m : p ∈ l
  · rw [more_in m] at e; exact e
  · rw [more_out m] at e; exact h p o e
theorem Env.more {K : PySem.W.Frag} {Γ : DE} {σ : L2.St} {F H : Hp} {l : List Addr} (E : Env K Γ σ F H) (h : ∀ b ∈ l, F b = none) (no : ∀ b ∈ l, ¬ Own Γ b) : Env K Γ σ (more F H l) H := by
  refine ⟨more_le E.le, E.len, fun i e q => ?_, E.sep⟩
  obtain ⟨o, ho, r⟩ := E.ent i e q
  refine ⟨o, ho, r.move (more_same h) (fun _ _ => rfl) fun a m => ?_⟩
  have ma : a ∈ adsAt Γ i := by rw [adsAt_of q]; exact m
  rw [more_out fun z => no a z ⟨i, ma⟩]
  exact (r.free m).1
section
variable {X : Cx} {Γ Γ1 Γ2 : DE} {e : Expr}
end
section
variable {X : Cx} {Γ Γ1 Γ2 : DE} {tg iter elt : Expr} {ifs : List Expr} {pos : Pos} {scope : Scope}
/-- what a list comprehension gives that is one's own -/
structure LCR (X : Cx) (Γ : DE) (tg iter : Expr) (ifs : List Expr) (elt : Expr) (scope : Scope) (Pr : Res → Prop) (Γ' : DE) : Prop where
  sub : ∀ a, Own Γ' a → Own Γ a
  hc : X.calm = true
  hN : X.N.Nodup
  hf : ∀ x, foldedSetIterable iter X.env x = pure x
  ex : ∃ (own : List (Str × Nat)) (tt : TT), BlkOk X.N X.env.scope scope own ∧ (∀ s H0 C cl fp, PTs (bk X scope s H0 C cl fp) ifs tt) ∧ ∀ σ F H (Q : VK), Env X.K Γ σ F H → (∀ v F' H', Env X.K Γ' σ F' H' → Step (Own Γ) F H F' H' → (nr Pr).ok X.K F H F' H' v () → Q v H') → tLc (wI X tg iter) (tgB X scope tg) tt (teB X scope elt) (own.map (·.2)) σ H Q
theorem LCR.px {Pr : Res → Prop} (h : LCR X Γ tg iter ifs elt scope Pr Γ2) : PX X (nr Pr) Γ (.ListComp elt [⟨tg, iter, ifs, 0⟩] scope pos) () Γ2 := by
  obtain ⟨own, tt, ok, ht, run⟩ := h.ex
  exact ⟨h.sub, fun σ F H Q E q => wE.of (pe_lc h.hc h.hN pI ok (g := tgB X scope tg) (te := teB X scope elt) (fun s H0 C cl fp => ⟨fun pins s2 σ H v u Q I r h => h s H0 C cl fp pins s2 u I r⟩) ht (fun s H0 C cl fp => ⟨fun pins s2 σ H Q I h => h s H0 C cl fp pins s2 I⟩) h.hf) (run σ F H Q E q)⟩
end
end G
namespace G
open PySem PySem.Spec PyProof.Rows L2
open Rp (rp)
/-- a list of lists that was one's own and shall be it again -/
@[reducible] def Res.zs {α : Type} [Rp α] (a : Addr) (as : List Addr) (xss : List (List α)) : Res where
  ads := []
  ok := fun K F H v => v = .ref a ∧ (a :: as).Nodup ∧ F a = some (.lst (as.map V.ref)) ∧ Paired (Inner K F F) as xss
  mono := fun h ⟨e, n, t, r⟩ => ⟨e, n, h _ _ t, Paired.mapP r fun _ _ ⟨vs, t, r⟩ => ⟨vs, h _ _ t, r.mono h⟩⟩
  frame := fun _ h => h
/-- a list of which its first one alone may have part in these -/
@[reducible] def Res.wk {α : Type} [Rp α] (Z : List Addr) (x : α) (xs : List α) : Res where
  ads := []
  ok := fun K F H v => ∃ (G : Hp) (w : Addr) (v0 : V) (vs : List V), v = .ref w ∧ Same G F ∧ (∀ z ∈ Z, G z = none) ∧ G w = some (.lst (v0 :: vs)) ∧ RpL K G vs xs ∧ rp K F v0 x
  mono := fun h ⟨G, w, v0, vs, a, b, c, d, e, f⟩ => ⟨G, w, v0, vs, a, b.trans h, c, d, e, Rp.mono h f⟩
  frame := fun _ h => h
section
variable {X : Cx} {m : Md} {Γ Γ1 Γ2 : DE} {e : Expr} {pos p : Pos} {nm : Str} {rest : List Stmt} {D : Ax m}
theorem px_see {α : Type} [Rp α] {x : α} {r : Res} (i : Nat) (hr : ∀ {K : PySem.W.Frag} {F H : Hp} {v : V}, r.ok K F H v → rp K F v x) (h : Γ[i]? = some (.res r) := by rfl) (hN : X.N[i]? = some nm := by rfl) (hv : Vis X.env.scope nm := by first | exact Or.inl rfl | exact Or.inr (Or.inl rfl) | exact Or.inr (Or.inr rfl))
    (hd : (nm == ("__debug__" : Str)) = false := by decide) (hcd : (nm == ("__classdict__" : Str)) = false := by decide) : PX X (sh α) Γ (.Name nm pos) x Γ :=
  px_of fun σ F H Q E q => by
    obtain ⟨o, ho, v, rfl, _, r⟩ := E.ent i _ h
    exact wE.of (pe_var hN hv hd hcd) ⟨v, ho, q v (hr r)⟩
end
def less (F : Hp) (Z : List Addr) : Hp := fun p => if p ∈ Z then none else F p
def Th (Z : List Addr) (e e' : Ent) : Prop := e'.ads = [] ∧ ∀ (K : PySem.W.Frag) (F H : Hp) (o : Option V), e.ok K F H o → e'.ok K (less F Z) H o
inductive ThL (Z : List Addr) : DE → DE → Prop
  | nil : ThL Z [] []
  | no {e : Ent} {Γ Γ' : DE} : ThL Z Γ Γ' → ThL Z (e :: Γ) (.no :: Γ')
  | th {e e' : Ent} {Γ Γ' : DE} : Th Z e e' → ThL Z Γ Γ' → ThL Z (e :: Γ) (e' :: Γ')
theorem ThL.len {Z : List Addr} {Γ Γ' : DE} (h : ThL Z Γ Γ') : Γ.length = Γ'.length := by
  induction h with
  | nil => rfl
  | no _ ih => simp [ih]
  | th _ _ ih => simp [ih]
theorem ThL.get {Z : List Addr} {Γ Γ' : DE} (h : ThL Z Γ Γ') : ∀ (i : Nat) (e' : Ent), Γ'[i]? = some e' → ∃ e, Γ[i]? = some e ∧ Th Z e e' := by
  induction h with
  | nil => intro i e h; simp at h
  | no _ ih =>
    intro i e' h
    cases i with
    | zero =>
      have h : Ent.no = e' := by simpa using h
      subst h
      exact ⟨_, rfl, rfl, fun _ _ _ _ _ => trivial⟩
    | succ i => simpa using ih i e' (by simpa using h)
  | th t _ ih =>
    intro i e' h
    cases i with
    | zero =>
      simp only [List.getElem?_cons_zero, Option.some.injEq] at h
      subst h
      exact ⟨_, rfl, t⟩
    | succ i => simpa using ih i e' (by simpa using h)
section
variable {X : Cx} {m : Md} {D : Ax m}
end
end G
namespace G
open PySem PySem.Spec PyProof.Rows L2
open Rp (rp)
section
variable {X : Cx} {m : Md} {Γ Γ1 Γ2 : DE} {e : Expr} {pos p : Pos} {nm : Str} {rest : List Stmt} {D : Ax m} {α : Type} [Rp α] {a : Addr} {as : List Addr} {xss : List (List α)}
end
end G
namespace G
open PySem PySem.Spec PyProof.Rows L2
open Rp (rp)
@[reducible] def ow (Pr : Res → Prop) : Md := ⟨List Addr, fun K _ H F' H' v old => ∃ r, Pr r ∧ (∀ b ∈ r.ads, (b ∈ old ∨ H b = none) ∧ F' b = none ∧ H' b ≠ none) ∧ r.ok K F' H' v, fun n ⟨r, a, b, c⟩ => ⟨r, a, fun p m => ⟨(b p m).1.imp id (n p), (b p m).2⟩, c⟩⟩
section
variable {X : Cx} {m : Md} {Γ Γ1 Γ2 : DE} {e : Expr} {es : List Expr} {pos p : Pos} {nm : Str} {rest : List Stmt} {D : Ax m}
theorem PX.ow {Pr : Res → Prop} (h : PX X (G.nr Pr) Γ e () Γ1) : PX X (G.ow Pr) Γ e [] Γ1 :=
  ⟨h.sub, fun σ F H Q E q => h.run σ F H Q E fun v F' H' E' s ⟨r, a, b, c⟩ => q v F' H' E' s ⟨r, a, fun p m => ⟨.inr (b p m).1, (b p m).2⟩, c⟩⟩
end
section
variable {P : Program} {w : World} {K : PySem.W.Frag} {mg : Str → Option Value} {base : Heap} {x : Str} {sst : Stmt} {N ps : List Str} {k : Nat}
end
section
variable {X : Cx} {m : Md} {Γ Γ1 Γ2 : DE} {e : Expr} {es : List Expr} {pos p : Pos} {nm : Str} {rest : List Stmt} {D : Ax m}
variable {α : Type} [Rp α] {a : Addr} {as : List Addr} {Z : List Addr} {x : α} {xs : List α}
end
end G
namespace G
open PySem PySem.Spec PyProof.Rows L2
open Rp (rp)
section
variable {s : Shared} {prog : Program} {A : Around} {w : World} {E : Value → Shared → Prop}
end
section
variable {X : Cx} {m : Md} {Γ Γ1 Γ2 : DE} {e : Expr} {pos p p2 : Pos} {nm : Str} {rest : List Stmt} {D : Ax m} {α : Type} [Rp α] {a : Addr} {as : List Addr} {xss : List (List α)}
/-- y.pop(e), y one's own -/
theorem px_popAt {xs : List α} {ad : Addr} {n : Nat} {y : α} {ix : Expr} {apos cpos : Pos} (i : Nat) (he : PX X (sh Int) Γ ix (n : Int) Γ1) (h1 : Γ1[i]? = some (.own ad xs)) (hy : xs[n]? = some y) (hz : xs.length < sizeLine) {xs0 : List α} (h0 : Γ[i]? = some (.own ad xs0) := by rfl) (hN : X.N[i]? = some nm := by rfl)
    (hv : Vis X.env.scope nm := by first | exact Or.inl rfl | exact Or.inr (Or.inl rfl) | exact Or.inr (Or.inr rfl)) (hd : (nm == ("__debug__" : Str)) = false := by decide) (hcd : (nm == ("__classdict__" : Str)) = false := by decide)
    (hp : ∀ {to : TE} {t : TA}, PE X (.Name nm p) to → PA X [ix] t → PE X (.Call (.Attribute (.Name nm p) "pop" apos) [ix] [] cpos) (tBM X.K "list" rPopAt to t) := by intro to t h1 h2; exact pe_bm PySem.F.plainAttrs_list PySem.F.slot_list_pop PySem.F.type_list_pop mt_popAt h1 h2)
    (ha : PA X [ix] (tCons (wE X ix) tNil) := by exact pa_cons pE pa_nil) : PX X (sh α) Γ (.Call (.Attribute (.Name nm p) "pop" apos) [ix] [] cpos) y (Γ1.set i (.own ad (xs.eraseIdx n))) := by
  have hl := (List.getElem?_eq_some_iff.mp hy).1
  refine ⟨fun q z => he.sub q ((own_set_own z).elim (fun e => ⟨i, by rw [adsAt_of h1, e]; exact List.mem_cons_self⟩) id), fun σ F H Q E q => ?_⟩
  obtain ⟨ho, vs0, hv0⟩ := own_at E h0
  refine wE.of (hp (pe_var hN hv hd hcd) ha) ⟨_, ho, .inl ⟨rfl, vs0, .inl (.inl hv0)⟩, he.run σ F H _ E fun v F1 H1 E1 s1 r1 => ?_⟩
  have r1 : v = .int (n : Int) := r1
  subst r1
  obtain ⟨o, _, v9, rfl, hF, rfl, vs, hH, r⟩ := E1.ent i _ h1
  obtain ⟨uv, hu, ru⟩ := r.get hy
  have n1 : vs.length = xs.length := r.length
  have er : RpL X.K F1 (vs.eraseIdx n) (xs.eraseIdx n) := by
    rw [List.eraseIdx_eq_take_drop_succ, List.eraseIdx_eq_take_drop_succ]
    exact pair_append (r.take _) (r.drop _)
  obtain ⟨E2, t2⟩ := E1.put (β := α) h1 er
  have big : sizeLine < 2 ^ 63 := by rw [sizeLine_eq]; decide
  refine ⟨ad, vs, (n : Int), n, uv, rfl, rfl, hH, by omega, by omega, ?_, hu, q uv F1 _ E2 (s1.sub t2.st he.sub) ru⟩
  rw [seqIndex_of (by omega) (by omega)]
  rfl
end
end G
namespace G
open PySem PySem.Spec PyProof.Rows L2
open Rp (rp)
theorem RpL.init {α : Type} [Rp α] {K : PySem.W.Frag} {F : Hp} {vs : List V} {xs : List α} (r : RpL K F vs xs) : RpL K F vs.dropLast xs.dropLast := by
  rw [List.dropLast_eq_take, List.dropLast_eq_take, r.length]
  exact r.take _
theorem ll_nat {α : Type} {xs : List α} {n : Nat} {x : α} (h : xs[n]? = some x) : atI xs (n : Int) = some x := by
  have hl := (List.getElem?_eq_some_iff.mp h).1
  unfold atI ixN
  rw [if_pos (by omega), if_pos (by omega), Int.toNat_natCast]
  exact h
end G
namespace G
open PySem PySem.Spec PyProof.Rows L2
open Rp (rp)
inductive Deed where
  | come (d : Int) (c : List Str)
  | join (d n : Int) (x : Str)
  | leave (d : Int) (x : Str)
def Deed.day : Deed → Int
  | .come d _ => d
  | .join d _ _ => d
  | .leave d _ => d
def Deed.word : Deed → Str
  | .come _ _ => "come"
  | .join _ _ _ => "join"
  | .leave _ _ => "leave"
def Deed.size : Deed → Nat
  | .join _ _ _ => 4
  | _ => 3
/-- what stands in the tuple -/
def Deed.In (K : PySem.W.Frag) (F : Hp) (vs : List V) : Deed → Prop
  | .come d c => ∃ u, vs = [.int d, .str "come", u] ∧ rp K F u c
  | .join d n x => vs = [.int d, .str "join", .int n, .str x]
  | .leave d x => vs = [.int d, .str "leave", .str x]
instance : Rp Deed := ⟨fun K F v x => ∃ a vs, v = .ref a ∧ F a = some (.tup vs) ∧ x.In K F vs, fun {K F F' v x} h ⟨a, vs, e, t, r⟩ => ⟨a, vs, e, h.tup t, by
  cases x with
  | come d c => exact r.imp fun u ⟨a, b⟩ => ⟨a, Rp.lk h b⟩
  | join d n x => exact r
  | leave d x => exact r⟩⟩
theorem Deed.In.day {K : PySem.W.Frag} {F : Hp} {vs : List V} : ∀ {x : Deed}, x.In K F vs → vs[0]? = some (.int x.day) ∧ vs[1]? = some (.str x.word) ∧ vs.length = x.size
  | .come d c, ⟨u, e, _⟩ => by subst e; exact ⟨rfl, rfl, rfl⟩
  | .join d n x, e => by cases (show vs = _ from e); exact ⟨rfl, rfl, rfl⟩
  | .leave d x, e => by cases (show vs = _ from e); exact ⟨rfl, rfl, rfl⟩
section
variable {X : Cx} {Γ Γ1 Γ2 : DE} {e a b c d : Expr} {pos p : Pos}
end
end G
namespace SrtT
open PySem PyProof.Rows Srt SrtO
def ltT (a b : Str) : Bool := decide (a.cps.toList < b.cps.toList)
theorem ltT_lt {a b : Str} : ltT a b = true ↔ a.cps.toList < b.cps.toList := decide_eq_true_iff
theorem ltT_ge {a b : Str} : ltT a b = false ↔ b.cps.toList ≤ a.cps.toList := by
  unfold ltT
  rw [decide_eq_false_iff_not, List.not_lt]
theorem ltT_asym {a b : Str} (h : ltT a b = true) : ltT b a = false := by
  rw [ltT_ge]
  rcases List.le_total a.cps.toList b.cps.toList with z | z
  · exact z
  · exact absurd (ltT_lt.mp h) (List.not_lt.mpr z)
theorem ltT_tr {a b c : Str} (h1 : ltT b a = false) (h2 : ltT c b = false) : ltT c a = false := by
  rw [ltT_ge] at *
  exact List.le_trans h1 h2
theorem ltT_one {a b : Str} (h1 : ltT a b = false) (h2 : ltT b a = false) : a = b := by
  rw [ltT_ge] at *
  have e := List.le_antisymm h2 h1
  cases a; cases b
  rename_i x y
  have : x = y := by
    rw [← Array.toArray_toList (xs := x), ← Array.toArray_toList (xs := y)]
    exact congrArg List.toArray e
  rw [this]
/-- the texts in order -/
def ord (l : List Str) : List Str := l.mergeSort fun a b => !ltT b a
theorem ord_perm (l : List Str) : (ord l).Perm l := List.mergeSort_perm l _
theorem ord_up (l : List Str) : (ord l).Pairwise fun a b => ltT b a = false := by
  refine (List.pairwise_mergeSort (le := fun a b => !ltT b a) (fun a b c h1 h2 => ?_) (fun a b => ?_) l).imp fun {a b} h => by simpa using h
  · have h1 : ltT b a = false := by simpa using h1
    have h2 : ltT c b = false := by simpa using h2
    simp [ltT_tr h1 h2]
  · cases h : ltT b a with
    | false => simp
    | true => simp [ltT_asym h]
theorem ord_one {l m : List Str} (h : m.Perm l) (hs : m.Pairwise fun a b => ltT b a = false) : m = ord l :=
  List.Perm.eq_of_pairwise (le := fun a b => ltT b a = false) (fun a b _ _ h1 h2 => ltT_one h2 h1) hs (ord_up l) (h.trans (ord_perm l).symm)
theorem mem_ord {l : List Str} {x : Str} : x ∈ ord l ↔ x ∈ l := (ord_perm l).mem_iff
theorem ord_len (l : List Str) : (ord l).length = l.length := (ord_perm l).length_eq
theorem ord_nodup {l : List Str} (h : l.Nodup) : (ord l).Nodup := (ord_perm l).nodup_iff.mpr h
def ltV (v u : Value) : Bool := ltT (strOf v) (strOf u)
theorem swoT : Swo ltV := ⟨fun x y h => ltT_asym h, fun x y z h1 h2 => ltT_tr h1 h2⟩
section
variable {prog : Program} {w : World} {A : Around} {E : Value → Shared → Prop} {s : Shared}
theorem cmpT {vs : List Value} {xs : List Str} (h : StrsAre vs xs) : Cmp prog w A s oneType' (fun p => p.1 ∈ vs) (lt2 ltV) := fun p q hp hq => by
  obtain ⟨x, t, e1⟩ := h.all _ hp
  obtain ⟨y, u, e2⟩ := h.all _ hq
  show wpAny (model prog w) A (keyLt' oneType' p.1 q.1) (fun r z => z = s ∧ r = ltV p.1 q.1) (fun _ _ => False) s
  rw [e1, e2, keyLt'_oneType]
  exact oneLt_str ⟨rfl, rfl⟩
theorem sortT {a : Addr} {vs : List Value} {xs : List Str} (h : StrsAre vs xs) (few : 2 ≤ vs.length) : SortableO prog w A s a vs ltV := fun h2 _ => ⟨oneType', fun Q E2 q => by
  rcases vs with _ | ⟨v1, _ | ⟨v2, rest⟩⟩
  · simp at few
  · simp at few
  · rw [keyKind_strs h]
    exact wpAny_pure q, cmpT h⟩
theorem outT {vs out : List Value} {xs : List Str} (h : StrsAre vs xs) (up : Srtd ltV out) (st : Stb ltV out vs) : StrsAre out (ord xs) := by
  have all : ∀ v ∈ out, ∃ x t, v = Value.str x t := fun v m => h.all v (st.perm.mem_iff.mp m)
  have e : out.map strOf = ord xs := ord_one (by rw [← h.strs]; exact st.perm.map strOf) (List.pairwise_map.mpr (up.imp fun {x y} z => z))
  rw [← e]
  exact strsAre_map out all
end
end SrtT
namespace G
open PySem PySem.Spec PyProof.Rows L2 SrtT
open Rp (rp)
/-- of a dict: its keys -/
def rOrdD : List V → Hp → VK → Prop := fun vs H Q => ∃ (a : Addr) (kvs : List (Key × V)) (ks : List Str), vs = [.ref a] ∧ Rd H a (.dK kvs) ∧ kvs.map (·.1) = ks.map Sum.inr ∧ ∀ p, H p = none → Q (.ref p) (upd H p (.lst ((ord ks).map V.str)))
theorem cr_ordD {X : Cx} (calm : X.calm = true) : CallR X (.builtin "sorted") rOrdD := by
  rintro pins s σ H vs us Q I rv ⟨d, kvs, ks, rfl, hd, hk, give⟩
  obtain ⟨u, rfl, rx⟩ := vals1 rv
  cases rx
  obtain ⟨small, lo, es, rel, dd⟩ := dk_rd I.hok hd
  obtain ⟨ep, hat⟩ := dd.dictAt
  have keys : es.map (·.1) = ks.map Sum.inr := rel.keys.symm.trans hk
  have many : es.length = ks.length := by simpa using congrArg List.length keys
  have few : es.length ≤ sizeLine := by rw [← rel.length]; exact small
  refine Calls.call_function_entry PyProof.Rows.kind_sorted PyProof.Rows.plain_sorted PyProof.Rows.entry_sorted (PyProof.Rows.args_sorted1 _) ?_
  unfold Builtin.«sorted»
  refine wpAny_bind (m := checkCount "sorted" 1 1 _) (wpAny_pure ?_)
  refine wpAny_bind (PySem.W.kdu_collect (A := X.A.in1) (PySem.W.kdl_dict (knd := mixKind X.prog X.w) (kvs := es) (ep := ep) lo) (I.ok.hd calm) hat few fun h2 tk got kept each => ?_)
  have hl : got.toList.length = ks.length := by rw [Array.length_toList, each.1, many]
  have whole : StrsAre got.toList ks := strs_at hl fun j v e => by
    obtain ⟨k, x, a, b⟩ := each.2 j v (by rw [← Array.getElem?_toList]; exact e)
    have c : (ks.map Sum.inr)[j]? = some k := by rw [← keys, List.getElem?_map, a]; rfl
    rw [List.getElem?_map] at c
    obtain ⟨y, hy, rfl⟩ := Option.map_eq_some_iff.mp c
    obtain ⟨t, z⟩ := Value.isStrOf_shape (x := y) (v := v) b
    exact ⟨y, t, hy, z⟩
  have I1 : Inv X pins σ H { s with heap := h2, toks := tk } := I.kept kept
  have fits : got.toList.length ≤ sizeLine := by rw [hl, ← many]; exact few
  refine wpAny_bind (wpAny_newList ?_ fits)
  have new : (h2.push (seqObj "list" got.toList.toArray 0)).get? h2.objs.size = some (seqObj "list" got.toList.toArray 0) := Heap.get?_push_size _ rfl
  show wpAny _ _ _ _ _ { s with heap := h2.push (seqObj "list" got.toList.toArray 0), toks := tk }
  refine wpAny_bind (wpAny_holding (wpAny_call_entry PyProof.Rows.slot_list_sort ⟨_, new, rfl⟩ PyProof.Rows.entry_list_sort
    (SrtO.list_sort_ord swoT new fits (fun two => sortT whole two) fun out up st => ⟨_, rfl, ?_⟩) (PyProof.Rows.args_list_sort _)))
  have told := outT whole up st
  obtain ⟨n, at_⟩ := PyProof.Rows.sortedHeap_at (vs := got.toList) (out := out.toArray) new
  have fits2 : ((ord ks).map V.str).length ≤ sizeLine := by
    rw [List.length_map, ord_len, ← many]
    exact few
  refine wpAny_pure ⟨_, rfl, .ref h2.objs.size, upd H h2.objs.size (.lst ((ord ks).map V.str)), I1.laid (t' := tk) (fun b o e => ?_) (Nat.le_refl _) (show ObjOk X.prog X.w _ _ _ (.lst ((ord ks).map V.str)) from ⟨fits2, out, n, vals_of_strs told, at_⟩), rfl, give _ (I1.hok.fresh (Nat.le_refl _))⟩
  have lt := Heap.lt_size e
  rw [PyProof.Rows.sortedHeap_old (Nat.ne_of_lt lt) (by rw [size_push']; exact Nat.lt_succ_of_lt lt)]
  exact Heap.get?_push_of_some _ e
theorem rpl_strs {K : PySem.W.Frag} {F : Hp} : ∀ l : List Str, RpL K F (l.map V.str) l
  | [] => .nil
  | _ :: r => .cons rfl (rpl_strs r)
section
variable {X : Cx} {Γ Γ1 : DE} {e : Expr} {p pos : Pos}
theorem keysT_of {α : Type} [Rp α] {K : PySem.W.Frag} {F : Hp} {kvs : List (Key × V)} {xs : List (Str × α)} (r : KvL K F kvs xs) : kvs.map (·.1) = (xs.map (·.1)).map Sum.inr := by
  induction r with
  | nil => rfl
  | cons h _ ih => rw [List.map_cons, List.map_cons, List.map_cons, ih, h.1]; rfl
/-- sorted(d), d a shared dict whose keys are texts -/
theorem px_ordD {α : Type} [Rp α] {d : Dk Str α} (hm : X.mg "sorted" = none) (h : PX X (sh (Dk Str α)) Γ e d Γ1) (hc : X.calm = true := by rfl)
    (hp : X.mg "sorted" = none → ∀ {r : List V → Hp → VK → Prop} {t : TA}, CallR X (.builtin "sorted") r → PA X [e] t → PE X (.Call (.Name "sorted" p) [e] [] pos) (tCB r t) := by intro hm r t h1 h2; exact pe_callB h1 (by rfl) hm (by decide +kernel) h2)
    (ha : PA X [e] (tCons (wE X e) tNil) := by exact pa_cons pE pa_nil) : PX X (nw Str) Γ (.Call (.Name "sorted" p) [e] [] pos) (ord (d.l.map (·.1))) Γ1 :=
  ⟨h.sub, fun σ F H Q E q => wE.of (hp hm (cr_ordD hc) ha) (h.run σ F H _ E fun v F1 H1 E1 s1 ⟨l, kvs, ev, t, r⟩ =>
    ⟨l, kvs, _, by rw [ev], Same.rd E1.le t, keysT_of r, fun b hb => q _ F1 _ (E1.new hb) (s1.sub (Step.new (O := Own Γ) hb) fun a z => z) ⟨b, _, rfl, s1.there b hb, E1.free hb, upd_same, rpl_strs _⟩⟩)⟩
end
end G
namespace G
open PySem PySem.Spec PyProof.Rows L2
open Rp (rp)
section
variable {X : Cx} {m : Md} {D : Ax m} {Γ Γ1 Γ2 Γ3 : DE} {a b c e o k : Expr} {rest : List Stmt} {pos p p2 apos cpos : Pos} {nm : Str}
theorem px_dat {κ α : Type} [DecidableEq κ] [Rp κ] [Ky κ] [KyV κ] [Rp α] {d : Dk κ α} {i : κ} {x : α} (hu : X.A.units + 1 < cLine) (ho : PX X (sh (Dk κ α)) Γ o d Γ1) (hk : PX X (sh κ) Γ1 k i Γ2) (hx : look d.l i = some x) (hn : NoSl k := by exact fun _ _ => rfl) :
    PX X (sh α) Γ (.Subscript o k pos) x Γ2 :=
  ⟨fun p q => ho.sub p (hk.sub p q), fun σ F H Q E q => wE.of (pe_dget hu pE pE hn) (ho.run σ F H _ E fun v F1 H1 E1 s1 ⟨ad, kvs, ev, t, r⟩ => hk.run σ F1 H1 _ E1 fun w F2 H2 E2 s2 r2 => by
    rcases KvL.look (r.mono s2.up) i with ⟨e1, _⟩ | ⟨y, u, e1, e2, r4⟩
    · rw [hx] at e1; cases e1
    · rw [hx] at e1; cases e1
      exact ⟨ad, u, ev, .inl ⟨kvs, Ky.ky i, Same.rd E2.le (Same.rd s2.up t), KyV.val r2, e2.symm⟩, q _ F2 H2 E2 (s1.sub s2 ho.sub) r4⟩)⟩
theorem look_some {κ α : Type} [DecidableEq κ] (xs : List (κ × α)) (k : κ) : (look xs k).isSome = decide (k ∈ xs.map (·.1)) := by
  unfold look
  rw [Option.isSome_map, Bool.eq_iff_iff, List.find?_isSome, decide_eq_true_iff, List.mem_map]
  constructor
  · rintro ⟨x, h1, h2⟩; exact ⟨x, h1, by simpa using h2⟩
  · rintro ⟨x, h1, h2⟩; exact ⟨x, h1, by simpa using h2⟩
theorem tx_dnotin {κ α : Type} [DecidableEq κ] [Rp κ] [Ky κ] [KyV κ] [Rp α] {d : Dk κ α} {i : κ} (hu : X.A.units + 1 < cLine) (hk : PX X (sh κ) Γ k i Γ1) (ho : PX X (sh (Dk κ α)) Γ1 o d Γ2) (hm : behindInMarks .NotIn o = false := by first | exact nomark _ | rfl | with_unfolding_all rfl) :
    TX X Γ (.Compare k [.NotIn] [o] pos) (!decide (i ∈ d.l.map (·.1))) Γ2 := by
  rw [← look_some]
  exact ⟨fun p q => hk.sub p (ho.sub p q), fun σ F H Q E q => wT.of (pt_cmp (pc_dnotin hu pE pE) hm) (hk.run σ F H _ E fun w F1 H1 E1 s1 r1 => ho.run σ F1 H1 _ E1 fun v F2 H2 E2 s2 ⟨ad, kvs, ev, t, r⟩ => by
    refine ⟨ad, valV kvs (Ky.ky i), ev, .inl ⟨kvs, Ky.ky i, Same.rd E2.le t, KyV.val r1, rfl⟩, _, rfl, ?_⟩
    rcases KvL.look r i with ⟨e1, e2⟩ | ⟨y, u, e1, e2, _⟩
    · rw [e2]; rw [e1] at q; exact q F2 H2 E2 (s1.sub s2 hk.sub)
    · rw [e2]; rw [e1] at q; exact q F2 H2 E2 (s1.sub s2 hk.sub))⟩
/-- xs[::-1] -/
theorem px_rev {α : Type} [Rp α] {xs : List α} {kk : Nat} {q1 q2 q3 : Pos} (h : PX X (sh (List α)) Γ e xs Γ1) : PX X (nw α) Γ (.Subscript e (.Slice none none (some (.UnaryOp .USub (.Constant (.int 1) kk q1) q2)) q3) pos) xs.reverse Γ1 :=
  ⟨h.sub, fun σ F H Q E q => wE.of (pe_revL pE) (h.run σ F H _ E fun v F1 H1 E1 s1 ⟨l, vs, ev, t, r⟩ => ⟨l, vs, ev, .inl (.inl (E1.le _ _ t)), fun b hb => q _ F1 _ (E1.new hb) (s1.sub (Step.new (O := Own Γ) hb) fun a z => z) ⟨b, _, rfl, s1.there b hb, E1.free hb, upd_same, by
    have go : ∀ {us : List V} {ys : List α}, RpL X.K F1 us ys → RpL X.K F1 us.reverse ys.reverse := fun r => by
      induction r with
      | nil => exact .nil
      | cons h _ ih => rw [List.reverse_cons, List.reverse_cons]; exact RpL.snoc ih h
    exact go r⟩⟩)⟩
theorem lent {K : PySem.W.Frag} {σ : L2.St} {F H : Hp} {i : Nat} {ad : Addr} {α : Type} [Rp α] {xs : List α} {Γw : DE} (E : Env K Γ σ F H) (h : Γ[i]? = some (.own ad xs)) (w : Wk (Γ.set i (.is xs)) Γw) :
    ∃ vs, H ad = some (.lst vs) ∧ F ad = none ∧ Env K Γw σ (upd F ad (.lst vs)) H := by
  obtain ⟨o, ho, v, rfl, fr, ev, vs, t, r⟩ := E.ent i _ h
  have hF := (fr ad List.mem_cons_self).1
  have up := same_upd (o := HO.lst vs) hF
  refine ⟨vs, t, hF, Env.wk ⟨fun p o e => ?_, by simpa using E.len, fun j e q => ?_, fun j k b q q' => ?_⟩ w⟩
  · by_cases z : p = ad
    · subst z; rw [upd_same] at e; rw [t]; exact e
    · rw [upd_ne z] at e; exact E.le _ _ e
  · rcases get_set q with ⟨rfl, rfl, _⟩ | ⟨n, q'⟩
    · exact ⟨_, ho, _, rfl, ad, vs, ev, upd_same, r.mono up⟩
    · obtain ⟨o', ho', k⟩ := E.ent j e q'
      refine ⟨o', ho', k.move up (fun _ _ => rfl) fun b m => ?_⟩
      have n2 : b ≠ ad := fun z => n (E.sep j i ad (by rw [adsAt_of q', ← z]; exact m) (by rw [adsAt_of h]; exact List.mem_cons_self))
      rw [upd_ne n2]
      exact (k.free m).1
  · have f : ∀ j b, b ∈ adsAt (Γ.set i (.is xs)) j → b ∈ adsAt Γ j := fun j b m => by
      rcases adr_set m with ⟨_, z⟩ | ⟨_, z⟩
      · cases z
      · exact z
    exact E.sep j k b (f _ _ q) (f _ _ q')
theorem lent_back {K : PySem.W.Frag} {σ : L2.St} {F H F' H' : Hp} {ad : Addr} {vs : List V} {O : Addr → Prop} (E : Env K Γ σ F H) (t : H ad = some (.lst vs)) (hF : F ad = none) (no : ∀ p, ¬ O p) (s : Step O (upd F ad (.lst vs)) H F' H') (le : Same F' H') :
    Env K Γ σ (fun p => if p = ad then none else F' p) H' ∧ Step (Own Γ) F H (fun p => if p = ad then none else F' p) H' := by
  have up : Same F (fun p => if p = ad then none else F' p) := fun p o e => by
    have n : p ≠ ad := fun z => by rw [z, hF] at e; cases e
    show (if p = ad then none else F' p) = some o
    rw [if_neg n]
    exact s.up _ _ (by rw [upd_ne n]; exact e)
  refine ⟨⟨fun p o e => ?_, E.len, fun i e q => ?_, E.sep⟩, up, fun p o e _ => s.keep p o e (no p), s.there, fun p h1 h2 => ?_⟩
  · have e : (if p = ad then none else F' p) = some o := e
    by_cases z : p = ad
    · rw [if_pos z] at e; cases e
    · rw [if_neg z] at e; exact le _ _ e
  · obtain ⟨o, ho, k⟩ := E.ent i e q
    refine ⟨o, ho, k.move up (fun b m => ?_) fun b m => ?_⟩
    · cases z : H b with
      | none => exact absurd z (k.free m).2
      | some u => exact s.keep b u z (no b)
    · show (if b = ad then none else F' b) = none
      by_cases z : b = ad
      · rw [if_pos z]
      · rw [if_neg z]
        cases q2 : F' b with
        | none => rfl
        | some u =>
          rcases s.fresh b (by rw [upd_ne z]; exact (k.free m).1) (by rw [q2]; exact fun z => nomatch z) with y | y
          · exact absurd y (k.free m).2
          · exact absurd y (no b)
  · have h2 : (if p = ad then none else F' p) ≠ none := h2
    by_cases z : p = ad
    · rw [if_pos z] at h2; exact absurd rfl h2
    · rw [if_neg z] at h2
      exact (s.fresh p (by rw [upd_ne z]; exact h1) h2).imp id fun y => absurd y (no p)
theorem tx_lent {α : Type} [Rp α] {ad : Addr} {xs : List α} {z : Bool} {Γw Γw' : DE} (i : Nat) (k : TX X Γw e z Γw') (h : Γ[i]? = some (.own ad xs) := by rfl) (w : Wk (Γ.set i (.is xs)) Γw) (io : IsOnly Γw := by rfl) : TX X Γ e z Γ :=
  ⟨sub_refl, fun σ F H Q E q => by
    obtain ⟨vs, t, hF, E1⟩ := lent E h w
    refine k.run σ _ H _ E1 fun F' H' E' s => ?_
    obtain ⟨E2, s2⟩ := lent_back E t hF (fun p ⟨j, z⟩ => io.no j p z) s E'.le
    exact q _ H' E2 s2⟩
end
end G
namespace G
open PySem PySem.Spec PyProof.Rows L2
open Rp (rp)
inductive Told where
  | met (t : T3 Int Int Int)
  | never (a b : Str) (m : Int)
  | non
  deriving DecidableEq
instance : Rp Told := ⟨fun K F v x => match x with | .met t => rp K F v t | .never a b m => rp K F v (⟨"never", a, b, m⟩ : T4 Str Str Str Int) | .non => v = .non, fun {K F F' v x} h r => by
  cases x with
  | met t => exact Rp.lk (α := T3 Int Int Int) h r
  | never a b m => exact Rp.lk (α := T4 Str Str Str Int) h r
  | non => exact r⟩
def Told.data : Told → PyData
  | .met t => .tuple [.int t.a, .int t.b, .int t.c]
  | .never a b m => .tuple [.str "never", .str a, .str b, .int m]
  | .non => .none
instance : De Told where
  toD := Told.data
  good := fun x => match x with | .never a b _ => PyData.strOk a = true ∧ PyData.strOk b = true | _ => True
  dep := 1
  dp := fun {K F v x} r => by
    cases x with
    | met t =>
      obtain ⟨p, v1, v2, v3, e, t, r1, r2, r3⟩ := r
      subst e
      obtain rfl : v1 = V.int _ := r1
      obtain rfl : v2 = V.int _ := r2
      obtain rfl : v3 = V.int _ := r3
      exact .tup (.inl (.inl t)) (.cons (.int _) (.cons (.int _) (.cons (.int _) .nil)))
    | never a b m =>
      obtain ⟨p, v1, v2, v3, v4, e, t, r1, r2, r3, r4⟩ := r
      subst e
      obtain rfl : v1 = V.str _ := r1
      obtain rfl : v2 = V.str _ := r2
      obtain rfl : v3 = V.str _ := r3
      obtain rfl : v4 = V.int _ := r4
      exact .tup (.inl (.inl t)) (.cons (.str _) (.cons (.str _) (.cons (.str _) (.cons (.int _) .nil))))
    | non =>
      rw [show v = V.non from r]
      exact .non
  lay := fun x h => by
    cases x with
    | met t => rfl
    | never a b m =>
      have h1 : PyData.strOk "never" = true := by decide +kernel
      show PyData.canLay0 (.tuple [.str "never", .str a, .str b, .int m]) = true
      simp [PyData.canLay0, PyData.canLayAll0, h.1, h.2, h1]
    | non => rfl
  hdep := fun x => by
    cases x with
    | met t => simp [Told.data, PyData.depth, PyData.depthAll]
    | never a b m => simp [Told.data, PyData.depth, PyData.depthAll]
    | non => simp [Told.data, PyData.depth]
  eqv := fun x y => by
    cases x with
    | met t =>
      obtain ⟨a, b, c⟩ := t
      cases y with
      | met u =>
        obtain ⟨d, e, f⟩ := u
        simp only [Told.data, PyData.eqv, PyData.eqvAll]
        by_cases h1 : a = d <;> by_cases h2 : b = e <;> by_cases h3 : c = f <;> simp [h1, h2, h3]
      | never d e f => simp [Told.data, PyData.eqv, PyData.eqvAll]
      | non => simp [Told.data, PyData.eqv]
    | never a b c =>
      cases y with
      | met u => simp [Told.data, PyData.eqv, PyData.eqvAll]
      | never d e f =>
        simp only [Told.data, PyData.eqv, PyData.eqvAll]
        by_cases h1 : a = d <;> by_cases h2 : b = e <;> by_cases h3 : c = f <;> simp [h1, h2, h3]
      | non => simp [Told.data, PyData.eqv]
    | non =>
      cases y with
      | met u => simp [Told.data, PyData.eqv]
      | never d e f => simp [Told.data, PyData.eqv]
      | non => simp [Told.data, PyData.eqv]
end G
namespace G
open PySem PySem.Spec PyProof.Rows L2
open Rp (rp)
section
variable {X : Cx} {m : Md} {D : Ax m} {Γ Γ1 Γ2 Γ3 : DE} {a b c e : Expr} {rest body : List Stmt} {pos : Pos}
end
end G
namespace G
open PySem PySem.Spec PyProof.Rows L2
open Rp (rp)
section
variable {X : Cx} {tg : Expr}
end
section
variable {X : Cx} {Γ Γ1 Γ2 : DE} {a b c e tg : Expr} {p pos : Pos}
def Told.vs : Told → List V
  | .met t => [.int t.a, .int t.b, .int t.c]
  | .never a b m => [.str "never", .str a, .str b, .int m]
  | .non => []
end
end G
namespace G
open PySem PySem.Spec PySem.Calls PyProof.Rows L2
open Rp (rp)
section
variable {X : Cx} {Γ Γ1 Γ2 : DE} {a b e : Expr} {p pos : Pos} {nm : Str}
end
class Som (α : Type) [Rp α] [DecidableEq α] [De α] : Prop where
  no : ∀ x : α, PyData.eqv .none (De.toD x) = false ∧ PyData.eqv (De.toD x) .none = false
instance : Som Int := ⟨fun x => ⟨by unfold PyData.eqv; rfl, by unfold PyData.eqv; rfl⟩⟩
instance : Som Str := ⟨fun x => ⟨by unfold PyData.eqv; rfl, by unfold PyData.eqv; rfl⟩⟩
instance {α β : Type} [Rp α] [DecidableEq α] [De α] [Rp β] [DecidableEq β] [De β] : Som (α × β) := ⟨fun x => ⟨by show PyData.eqv .none (.tuple _) = false; simp [PyData.eqv], by show PyData.eqv (.tuple _) .none = false; simp [PyData.eqv]⟩⟩
instance {α : Type} [Rp α] [DecidableEq α] [De α] [Som α] : De (Option α) where
  toD := fun x => match x with | none => .none | some y => De.toD y
  good := fun x => match x with | none => True | some y => De.good y
  dep := De.dep α
  dp := fun {K F v x} r => by
    cases x with
    | none => rw [show v = V.non from r]; exact .non
    | some y => exact De.dp (α := α) (x := y) r
  lay := fun x h => by
    cases x with
    | none => rfl
    | some y => exact De.lay y h
  hdep := fun x => by
    cases x with
    | none => simp [PyData.depth]
    | some y => exact De.hdep y
  eqv := fun x y => by
    cases x with
    | none =>
      cases y with
      | none => simp [PyData.eqv]
      | some y => rw [(Som.no y).1]; simp
    | some x =>
      cases y with
      | none => rw [(Som.no x).2]; simp
      | some y => rw [De.eqv]; simp
/-- x in y, data of any depth -/
theorem any_mem {α : Type} [Rp α] [DecidableEq α] [De α] (x : α) : ∀ ys : List α, (ys.map De.toD).any (fun z => PyData.eqv z (De.toD x)) = decide (x ∈ ys)
  | [] => by simp
  | y :: ys => by
    rw [List.map_cons, List.any_cons, any_mem x ys, De.eqv]
    by_cases h : y = x
    · simp [h]
    · simp [h, Ne.symm h, eq_comm]
theorem cr_inD {X : Cx} {α : Type} [Rp α] [DecidableEq α] [De α] {x : α} {y : List α} (hu : X.A.units + 65 < cLine) (gx : De.good x) (gy : ∀ z ∈ y, De.good z) (hd : De.dep α + 1 ≤ 64 := by decide) : CR X .In x (sh (List α)) y (decide (x ∈ y)) :=
  ⟨_, op_inD hu, fun F0 H0 F H v w Q le hv hw q => ⟨De.toD x, y.map De.toD, De.dp (Rp.mono le hv), De.dp (Rp.mono le (show rp X.K F w y from hw)), shaped_of gx (by omega), shaped_of (x := y) gy hd, by rw [any_mem]; exact q⟩⟩
/-- scalars or nothing -/
instance : Sc (Option Str) := ⟨fun x => match x with | none => .non | some y => .str y, fun {K F v x} h => by
  cases x with
  | none => exact h
  | some y => exact h, fun x y => by cases x <;> cases y <;> rfl, fun x y => by
  cases x with
  | none => cases y <;> simp
  | some x => cases y with
    | none => simp
    | some y => by_cases h : x = y <;> simp [h]⟩
end G
namespace G
open PySem PySem.Spec PyProof.Rows L2
open Rp (rp)
inductive Held where
  | one (d : Int)
  | later (d : Int)
  | other
  deriving DecidableEq
def Held.vs : Held → List V
  | .one d => [.str "one", .int d]
  | .later d => [.str "later", .int d]
  | .other => [.str "other"]
instance : Rp Held := ⟨fun K F v x => rp K F v (⟨x.vs⟩ : Tup V), fun h r => Rp.lk (α := Tup V) h r⟩
theorem held_v {K : PySem.W.Frag} {F : Hp} {us vs : List V} (r : RpL K F us vs) : us = vs := by
  induction r with
  | nil => rfl
  | cons h _ ih => rw [ih, show _ = _ from h]
def Held.data : Held → PyData
  | .one d => .tuple [.str "one", .int d]
  | .later d => .tuple [.str "later", .int d]
  | .other => .tuple [.str "other"]
theorem str_ok1 : PyData.strOk "one" = true := by decide +kernel
theorem str_ok2 : PyData.strOk "later" = true := by decide +kernel
theorem str_ok3 : PyData.strOk "other" = true := by decide +kernel
theorem word12 : ¬ ("one" : Str) = "later" := by decide +kernel
instance : De Held where
  toD := Held.data
  good := fun _ => True
  dep := 1
  dp := fun {K F v x} ⟨a, us, e, t, r⟩ => by
    have := held_v r
    subst this
    subst e
    cases x with
    | one d => exact .tup (.inl (.inl t)) (.cons (.str _) (.cons (.int _) .nil))
    | later d => exact .tup (.inl (.inl t)) (.cons (.str _) (.cons (.int _) .nil))
    | other => exact .tup (.inl (.inl t)) (.cons (.str _) .nil)
  lay := fun x _ => by
    cases x with
    | one d => show PyData.canLay0 (.tuple [.str "one", .int d]) = true; simp [PyData.canLay0, PyData.canLayAll0, str_ok1]
    | later d => show PyData.canLay0 (.tuple [.str "later", .int d]) = true; simp [PyData.canLay0, PyData.canLayAll0, str_ok2]
    | other => show PyData.canLay0 (.tuple [.str "other"]) = true; simp [PyData.canLay0, PyData.canLayAll0, str_ok3]
  hdep := fun x => by cases x <;> simp [Held.data, PyData.depth, PyData.depthAll]
  eqv := fun x y => by
    cases x with
    | one d => cases y with
      | one e => by_cases h : d = e <;> simp [Held.data, PyData.eqv, PyData.eqvAll, h]
      | later e => simp [Held.data, PyData.eqv, PyData.eqvAll, word12]
      | other => simp [Held.data, PyData.eqv, PyData.eqvAll]
    | later d => cases y with
      | one e => simp [Held.data, PyData.eqv, PyData.eqvAll, Ne.symm word12]
      | later e => by_cases h : d = e <;> simp [Held.data, PyData.eqv, PyData.eqvAll, h]
      | other => simp [Held.data, PyData.eqv, PyData.eqvAll]
    | other => cases y with
      | one e => simp [Held.data, PyData.eqv, PyData.eqvAll]
      | later e => simp [Held.data, PyData.eqv, PyData.eqvAll]
      | other => simp [Held.data, PyData.eqv, PyData.eqvAll]
section
variable {X : Cx} {Γ Γ1 Γ2 : DE} {a b e : Expr} {p pos : Pos}
end
end G
namespace G
open PySem PySem.Spec PyProof.Rows L2
open Rp (rp)
section
variable {X : Cx} {Γ Γ1 Γ2 : DE} {a b e k1 k2 v1 v2 : Expr} {p pos : Pos}
end
end G
namespace G
open PySem PySem.Spec PyProof.Rows L2
open Rp (rp)
section
variable {prog : Program} {w : World} {A : Around} {E : Value → Shared → Prop} {s : Shared}
end
section
variable {X : Cx} {pos p : Pos}
end
section
variable {X : Cx} {m : Md} {Γ Γ1 : DE} {e : Expr} {rest : List Stmt} {D : Ax m} {pos p1 p2 p3 p4 p5 : Pos} {n1 n2 n3 : Str}
end
end G
namespace G
open PySem PySem.Spec PyProof.Rows L2
open Rp (rp)
abbrev dlD {κ α : Type} [Ky κ] (its : List (κ × Addr × List α)) : List (Key × V) := its.map fun t => (Ky.ky t.1, V.ref t.2.1)
abbrev dlA {κ α : Type} (its : List (κ × Addr × List α)) : List Addr := its.map fun t => t.2.1
abbrev dlK {κ α : Type} (its : List (κ × Addr × List α)) : List κ := its.map fun t => t.1
@[reducible] def Res.dl {κ α : Type} [Ky κ] [Rp α] (a : Addr) (its : List (κ × Addr × List α)) : Res where
  ads := a :: dlA its
  ok := fun K F H v => v = .ref a ∧ (a :: dlA its).Nodup ∧ (dlK its).Nodup ∧ H a = some (.dK (dlD its)) ∧ ∀ t ∈ its, ∃ vs, H t.2.1 = some (.lst vs) ∧ RpL K F vs t.2.2
  mono := fun h ⟨e, n, n2, t, r⟩ => ⟨e, n, n2, t, fun x m => (r x m).imp fun vs ⟨p, q⟩ => ⟨p, q.mono h⟩⟩
  frame := fun h ⟨e, n, n2, t, r⟩ => ⟨e, n, n2, by rw [h _ List.mem_cons_self]; exact t, fun x m => (r x m).imp fun vs ⟨p, q⟩ => ⟨by rw [h _ (List.mem_cons_of_mem _ (List.mem_map_of_mem m))]; exact p, q⟩⟩
section
variable {κ α : Type} [DecidableEq κ] {its : List (κ × Addr × List α)} {k : κ} {y : α}
end
section
variable {X : Cx} {m : Md} {Γ Γ1 : DE} {e ix : Expr} {rest : List Stmt} {D : Ax m} {pos p1 p2 p3 p4 p5 p6 : Pos} {n1 n2 : Str}
end
end G
namespace G
open PySem PySem.Spec PyProof.Rows L2
open Rp (rp)
section
variable {X : Cx} {Γ Γ1 Γ2 : DE} {e t1 t2 : Expr} {pos p : Pos}
end
end G
namespace G
open PySem PySem.Spec PyProof.Rows L2
open Rp (rp)
section
variable {X : Cx} {Γ Γ1 Γ2 : DE} {a b : Expr} {pos : Pos} {rest : List Expr}
end
end G
namespace PySem
open Sem (wp)
section
variable {prog : Program} {w : World} {A : Around} {R : Result → Shared → Prop} {I ax S : Addr} {items : Array Value}
end
section
variable {prog : Program} {w : World} {A : Around} {E : Value → Shared → Prop} {s : Shared}
end
end PySem
namespace G
open PySem PySem.Spec PyProof.Rows L2
open Rp (rp)
section
variable {X : Cx} {Γ Γ1 : DE} {e : Expr} {p pos lpos : Pos}
end
end G
namespace G
open PySem PySem.Spec PyProof.Rows L2
open Rp (rp)
section
variable {X : Cx} {m : Md} {D : Ax m} {rest : List Stmt} {Γ Γ1 Γ2 Γ3 : DE} {a b e o k : Expr} {p p2 pos pos2 apos cpos lpos : Pos} {nm : Str}
/-- whole numbers in their order -/
def upI (l : List Int) : List Int := l.mergeSort fun a b => decide (a ≤ b)
theorem upI_perm (l : List Int) : (upI l).Perm l := List.mergeSort_perm _ _
theorem upI_is {l ys : List Int} (h1 : ys.Perm l) (h2 : ys.Pairwise (· ≤ ·)) : ys = upI l := by
  refine List.Perm.eq_of_pairwise (le := fun a b : Int => a ≤ b) (fun a b _ _ x y => Int.le_antisymm x y) h2 ?_ (h1.trans (upI_perm l).symm)
  have := List.pairwise_mergeSort (le := fun a b : Int => decide (a ≤ b)) (fun a b c x y => by simp at x y ⊢; omega) (fun a b => by simp; omega) l
  exact this.imp fun h => by simpa using h
/-- d.pop(k), d one's own; what is popped is not used -/
def dropD {κ α : Type} [DecidableEq κ] (xs : List (κ × α)) (k : κ) : List (κ × α) := xs.filter fun p => decide (p.1 ≠ k)
theorem KvL.drop {κ α : Type} [DecidableEq κ] [Ky κ] [Rp α] {K : PySem.W.Frag} {F : Hp} {kvs : List (Key × V)} {xs : List (κ × α)} (r : KvL K F kvs xs) (k : κ) : KvL K F (dropK kvs (Ky.ky k)) (dropD xs k) := by
  unfold dropK dropD
  induction r with
  | nil => exact .nil
  | @cons p q ps qs hd t ih =>
    rw [List.filter_cons, List.filter_cons]
    by_cases z : q.1 = k
    · rw [if_neg (by rw [hd.1, z]; simp), if_neg (by simp [z])]; exact ih
    · have z2 : p.1 ≠ Ky.ky k := fun w => z (Ky.inj _ _ (hd.1.symm.trans w))
      rw [if_pos (decide_eq_true z2), if_pos (decide_eq_true z)]
      exact .cons hd ih
end
structure Tq where
  R : PySem.W.Frag → Hp → List V → Prop
  lk : ∀ {K : PySem.W.Frag} {F F' : Hp} {vs : List V}, Alk F F' → R K F vs → R K F' vs
instance : Rp Tq := ⟨fun K F v x => ∃ a vs, v = .ref a ∧ F a = some (.tup vs) ∧ x.R K F vs, fun h ⟨a, vs, e, t, r⟩ => ⟨a, vs, e, h.tup t, Tq.lk _ h r⟩⟩
def Tq.of {α : Type} [Rp α] (xs : List α) : Tq := ⟨fun K F vs => RpL K F vs xs, fun h r => r.lk h⟩
def Tq.cut (x : Tq) (lo hi : Option Int) : Tq := ⟨fun K F vs => ∃ us, x.R K F us ∧ vs = cutV us lo hi, fun h ⟨us, r, e⟩ => ⟨us, x.lk h r, e⟩⟩
section
variable {X : Cx} {Γ Γ1 Γ2 Γ3 : DE} {a b e : Expr} {p p2 pos : Pos}
end
end G
namespace G
open PySem PySem.Spec PyProof.Rows L2
open Rp (rp)
section
variable {X : Cx} {m : Md} {D : Ax m} {rest : List Stmt} {Γ Γ1 : DE} {ix e : Expr} {pos p p2 s1 apos cpos : Pos} {nm : Str}
end
end G
namespace G
open PySem PySem.Spec PyProof.Rows L2
open Rp (rp)
instance : DecidableEq Deed
  | .come d c, .come d2 c2 => if h : d = d2 ∧ c = c2 then isTrue (by rw [h.1, h.2]) else isFalse fun e => h (by cases e; exact ⟨rfl, rfl⟩)
  | .join d n x, .join d2 n2 x2 => if h : d = d2 ∧ n = n2 ∧ x = x2 then isTrue (by rw [h.1, h.2.1, h.2.2]) else isFalse fun e => h (by cases e; exact ⟨rfl, rfl, rfl⟩)
  | .leave d x, .leave d2 x2 => if h : d = d2 ∧ x = x2 then isTrue (by rw [h.1, h.2]) else isFalse fun e => h (by cases e; exact ⟨rfl, rfl⟩)
  | .come _ _, .join _ _ _ => isFalse fun e => nomatch e
  | .come _ _, .leave _ _ => isFalse fun e => nomatch e
  | .join _ _ _, .come _ _ => isFalse fun e => nomatch e
  | .join _ _ _, .leave _ _ => isFalse fun e => nomatch e
  | .leave _ _, .come _ _ => isFalse fun e => nomatch e
  | .leave _ _, .join _ _ _ => isFalse fun e => nomatch e
def Deed.data : Deed → PyData
  | .come d c => .tuple [.int d, .str "come", De.toD c]
  | .join d n x => .tuple [.int d, .str "join", .int n, .str x]
  | .leave d x => .tuple [.int d, .str "leave", .str x]
def Deed.fine : Deed → Prop
  | .come _ c => ∀ z ∈ c, PyData.strOk z = true
  | .join _ _ x => PyData.strOk x = true
  | .leave _ x => PyData.strOk x = true
theorem str_okc : PyData.strOk "come" = true := by decide +kernel
theorem str_okj : PyData.strOk "join" = true := by decide +kernel
theorem str_okl : PyData.strOk "leave" = true := by decide +kernel
theorem word_cl : ¬ ("come" : Str) = "leave" := by decide +kernel
theorem word_lc : ¬ ("leave" : Str) = "come" := by decide +kernel
instance : De Deed where
  toD := Deed.data
  good := Deed.fine
  dep := 2
  dp := fun {K F v x} ⟨a, vs, e, t, r⟩ => by
    subst e
    cases x with
    | come d c =>
      obtain ⟨u, e, ru⟩ := r
      subst e
      exact .tup (.inl (.inl t)) (.cons (.int _) (.cons (.str _) (.cons (De.dp ru) .nil)))
    | join d n x =>
      cases (show vs = _ from r)
      exact .tup (.inl (.inl t)) (.cons (.int _) (.cons (.str _) (.cons (.int _) (.cons (.str _) .nil))))
    | leave d x =>
      cases (show vs = _ from r)
      exact .tup (.inl (.inl t)) (.cons (.int _) (.cons (.str _) (.cons (.str _) .nil)))
  lay := fun x h => by
    cases x with
    | come d c =>
      have := De.lay c h
      show PyData.canLay0 (.tuple [.int d, .str "come", De.toD c]) = true
      simp [PyData.canLay0, PyData.canLayAll0, str_okc, this]
    | join d n x =>
      have h : PyData.strOk x = true := h
      show PyData.canLay0 (.tuple [.int d, .str "join", .int n, .str x]) = true
      simp [PyData.canLay0, PyData.canLayAll0, str_okj, h]
    | leave d x =>
      have h : PyData.strOk x = true := h
      show PyData.canLay0 (.tuple [.int d, .str "leave", .str x]) = true
      simp [PyData.canLay0, PyData.canLayAll0, str_okl, h]
  hdep := fun x => by
    cases x with
    | come d c =>
      have := De.hdep c
      have : (De.toD c).depth ≤ 1 := this
      simp only [Deed.data, PyData.depth, PyData.depthAll]
      omega
    | join d n x => simp [Deed.data, PyData.depth, PyData.depthAll]
    | leave d x => simp [Deed.data, PyData.depth, PyData.depthAll]
  eqv := fun x y => by
    cases x with
    | come d c => cases y with
      | come d2 c2 =>
        simp only [Deed.data, PyData.eqv, PyData.eqvAll, De.eqv]
        by_cases h : d = d2 <;> by_cases h' : c = c2 <;> simp [h, h']
      | join d2 n2 x2 => simp [Deed.data, PyData.eqv, PyData.eqvAll]
      | leave d2 x2 => simp [Deed.data, PyData.eqv, PyData.eqvAll, word_cl]
    | join d n x => cases y with
      | come d2 c2 => simp [Deed.data, PyData.eqv, PyData.eqvAll]
      | join d2 n2 x2 => by_cases h : d = d2 <;> by_cases h' : n = n2 <;> by_cases h2 : x = x2 <;> simp [Deed.data, PyData.eqv, PyData.eqvAll, h, h', h2]
      | leave d2 x2 => simp [Deed.data, PyData.eqv, PyData.eqvAll]
    | leave d x => cases y with
      | come d2 c2 => simp [Deed.data, PyData.eqv, PyData.eqvAll, word_lc]
      | join d2 n2 x2 => simp [Deed.data, PyData.eqv, PyData.eqvAll]
      | leave d2 x2 => by_cases h : d = d2 <;> by_cases h' : x = x2 <;> simp [Deed.data, PyData.eqv, PyData.eqvAll, h, h']
section
variable {X : Cx} {Γ : DE} {d d2 e : Expr} {p2 p3 pos pos1 pos2 pos3 pos4 q1 q2 : Pos} {k k1 k2 : Nat}
end
end G
namespace G
open PySem PySem.Spec PyProof.Rows L2
open Rp (rp)
def dist (xs : List Int) : List Int := xs.foldr (fun x r => if x ∈ r then r else x :: r) []
theorem dist_mem : ∀ {xs : List Int} {k : Int}, k ∈ dist xs ↔ k ∈ xs
  | [], k => Iff.rfl
  | x :: r, k => by
    have ih := dist_mem (xs := r) (k := k)
    show k ∈ (if x ∈ dist r then dist r else x :: dist r) ↔ _
    split
    · rename_i h
      rw [ih, List.mem_cons]
      exact ⟨.inr, fun z => z.elim (fun e => e ▸ dist_mem.mp h) id⟩
    · rw [List.mem_cons, List.mem_cons, ih]
theorem dist_nodup : ∀ xs : List Int, (dist xs).Nodup
  | [] => List.nodup_nil
  | x :: r => by
    show (if x ∈ dist r then dist r else x :: dist r).Nodup
    split
    · exact dist_nodup r
    · rename_i h
      exact List.nodup_cons.mpr ⟨h, dist_nodup r⟩
section
variable {X : Cx} {Γ Γ1 Γ2 : DE} {e : Expr} {p p2 pos pos2 : Pos}
end
section
variable {X : Cx} {CX : CXT} {k n : Nat} {f C : Addr} {fd : FuncData} {ps ks : List Str} {sp : Sp} {E : XK} {m : Str} {pos apos : Pos} {e o : Expr} {es : List Expr} {kws : List Keyword} {ta : TE} {t tk : TA} {g : List Value → List Value → List Value} {gV : List V → List V → List V}
end
/-- a method whose last parameters are given by keywords -/
def CanMK (P : Program) (w : World) (K : PySem.W.Frag) (mg : Str → Option Value) (base : Heap) (CX : CXT) (k : Nat) (x : Str) (ps : List Str) (sp : Sp) (n : Nat) (ks : List Str) : Prop :=
  Cls K (crsA K) ∧ Meth K (crsA K) x (crsM K x) ∧ ∃ fd : FuncData, FnOk P w K mg base CX k (crsM K x) fd ps sp ∧ KBn K fd ps (n + 1) ks (fun us ws => us ++ ws) (fun us ws => us ++ ws)
section
variable {P : Program} {w : World} {K : PySem.W.Frag} {mg : Str → Option Value} {base : Heap}
theorem CanMK.mono {CX : CXT} {j k n : Nat} {x : Str} {ps ks : List Str} {sp : Sp} (C : CanMK P w K mg base CX j x ps sp n ks) (h : j ≤ k) : CanMK P w K mg base CX k x ps sp n ks := by
  obtain ⟨c, me, fd, F, ds⟩ := C
  exact ⟨c, me, fd, F.mono h, ds⟩
end
section
variable {X : Cx} {Γ Γ1 Γ2 Γ3 : DE} {o e : Expr} {es : List Expr} {kws : List Keyword} {apos cpos : Pos} {x : Str} {k n : Nat} {ps ks : List Str} {ents kents : DE} {m1 : Md} {R : DE → m1.β → DE → Prop} {y : m1.β} {Γc : DE} {c : Crs}
end
section
variable {X : Cx} {Γ Γ1 Γ2 : DE} {k o : Expr} {pos : Pos}
/-- (a, b) not in d -/
theorem tx_dnotinT {α : Type} [Rp α] {d : Dt α} {i : Int × Int} (hu : X.A.units + 1 < cLine) (hk : PX X (sh (Int × Int)) Γ k i Γ1) (ho : PX X (sh (Dt α)) Γ1 o d Γ2) (hm : behindInMarks .NotIn o = false := by first | exact nomark _ | rfl | with_unfolding_all rfl) :
    TX X Γ (.Compare k [.NotIn] [o] pos) (!(look d.l i).isSome) Γ2 := by
  exact ⟨fun p q => hk.sub p (ho.sub p q), fun σ F H Q E q => wT.of (pt_cmp (pc_dnotin hu pE pE) hm) (hk.run σ F H _ E fun w F1 H1 E1 s1 ⟨b, w1, w2, ew, t2, q1, q2⟩ => ho.run σ F1 H1 _ E1 fun v F2 H2 E2 s2 ⟨ad, kvs, ev, t, r⟩ => by
    have g1 := Same.rd E2.le t
    rw [show w1 = V.int i.1 from q1, show w2 = V.int i.2 from q2] at t2
    subst ew
    refine ⟨ad, valV kvs [Sum.inl i.1, Sum.inl i.2], ev, .inr ⟨kvs, [.inl i.1, .inl i.2], b, g1, rfl, E2.le _ _ (s2.up _ _ t2), rfl⟩, _, rfl, ?_⟩
    rcases KtL.look r i with ⟨e1, e2⟩ | ⟨y, u, e1, e2, _⟩
    · rw [e2]; rw [e1] at q; exact q F2 H2 E2 (s1.sub s2 hk.sub)
    · rw [e2]; rw [e1] at q; exact q F2 H2 E2 (s1.sub s2 hk.sub))⟩
end
end G
namespace G
open PySem PySem.Spec PyProof.Rows L2
open Rp (rp)
section
variable {X : Cx} {Γ : DE} {e : Expr} {m : Md} {x : m.β}
end
section
variable {X : Cx} {Γ : DE} {tg : Expr} {p p2 tpos apos cpos : Pos} {nm : Str} {elts : List Expr} {kk : Nat} {ad : Addr} {od : Obj} {c : Crs}
end
end G
namespace G
open PySem PySem.Spec PyProof.Rows L2
open Rp (rp)
def Tq.met (t : T3 Int Int Int) : Tq := .of [t.a, t.b, t.c]
section
variable {X : Cx} {Γ : DE} {d e : Expr} {k k1 : _} {q1 p3 pos2 pos4 pos : Pos}
end
end G
namespace G
open PySem PySem.Spec PyProof.Rows L2
open Rp (rp)
section
variable {X : Cx} {Γ Γ1 : DE} {e : Expr} {p pos : Pos}
theorem px_eq {m1 : Md} {x y : m1.β} (e : x = y) {ee : Expr} (h : PX X m1 Γ ee x Γ1) : PX X m1 Γ ee y Γ1 := e ▸ h
/-- sorted(whole numbers) -/
theorem px_upI {xs : List Int} (hm : X.mg "sorted" = none) (h : PX X (br Int) Γ e xs Γ1)
    (hp : X.mg "sorted" = none → ∀ {r : List V → Hp → VK → Prop} {t : TA}, CallR X (.builtin "sorted") r → PA X [e] t → PE X (.Call (.Name "sorted" p) [e] [] pos) (tCB r t) := by intro hm r t h1 h2; exact pe_callB h1 (by rfl) hm (by decide +kernel) h2)
    (ha : PA X [e] (tCons (wE X e) tNil) := by exact pa_cons pE pa_nil) : PX X (nw Int) Γ (.Call (.Name "sorted" p) [e] [] pos) (upI xs) Γ1 :=
  ⟨h.sub, fun σ F H Q E q => wE.of (hp hm cr_sortedI ha) (h.run σ F H _ E fun v F1 H1 E1 s1 ⟨l, vs, ev, t, r⟩ => by
    have ei := ints_of r
    subst ei
    exact ⟨l, xs, by rw [ev], t, fun ns b p1 p2 hb => by
      have e2 := upI_is p1 p2
      subst e2
      exact q _ F1 _ (E1.new hb) (s1.sub (Step.new (O := Own Γ) hb) fun a z => z) ⟨b, _, rfl, s1.there b hb, E1.free hb, upd_same, by
        have go : ∀ l : List Int, RpL X.K F1 (l.map V.int) l := fun l => by
          induction l with
          | nil => exact .nil
          | cons n r ih => exact .cons rfl ih
        exact go _⟩⟩)⟩
end
end G
namespace G
open PySem PySem.Spec PyProof.Rows L2
open Rp (rp)
end G
namespace G
open PySem PySem.Spec PyProof.Rows L2
open Rp (rp)
theorem sd_ifJ {X : Cx} {m : Md} {Γ Γ1 : DE} {c : Expr} {pos : Pos} {rest : List Stmt} {D : Ax m} {z : Bool} (Γj : DE) {th el : List Stmt} (h : TX X Γ c z Γ1) (h1 : z = true → SD X m Γ1 th { D with nx := fun Γ' => Wk Γ' Γj }) (h2 : z = false → SD X m Γ1 el { D with nx := fun Γ' => Wk Γ' Γj }) (k : SD X m Γj rest D) :
    SD X m Γ (.If c th el pos :: rest) D :=
  sd_if h (fun e => sd_mono (h1 e) (fun Γ' w => sd_wk w k) (fun _ _ h => h) (fun _ h => h) (fun _ h => h)) (fun e => sd_mono (h2 e) (fun Γ' w => sd_wk w k) (fun _ _ h => h) (fun _ h => h) (fun _ h => h))
instance : Fl Bool := ⟨fun _ => rfl, fun x y => by cases x <;> cases y <;> rfl⟩
end G
namespace G
open PySem PySem.Spec PyProof.Rows L2
open Rp (rp)
@[reducible] def tl (α β : Type) [Rp α] [Rp β] : Md := ⟨List α × β, fun K _ H F' H' v x => ∃ a p vs u, v = .ref a ∧ H' a = some (.tup [.ref p, u]) ∧ H p = none ∧ F' p = none ∧ H' p = some (.lst vs) ∧ RpL K F' vs x.1 ∧ rp K F' u x.2,
  fun n ⟨a, p, vs, u, e, t, b, c⟩ => ⟨a, p, vs, u, e, t, n p b, c⟩⟩
section
variable {X : Cx} {m : Md} {D : Ax m} {rest : List Stmt} {Γ Γ1 Γ2 : DE} {a b e ix : Expr} {p pos : Pos} {α β : Type} [Rp α] [Rp β]
theorem px_tl {xs : List α} {y : β} {k} (h1 : PX X (nw α) Γ a xs Γ1) (h2 : PX X (sh β) Γ1 b y Γ2) (hp : PA X [a, b] (tCons (wE X a) (tCons (wE X b) tNil)) := by exact pa_cons pE (pa_cons pE pa_nil)) : PX X (tl α β) Γ (.Tuple [a, b] k pos) (xs, y) Γ2 :=
  ⟨fun p q => h1.sub p (h2.sub p q), fun σ F H Q E q => wE.of (pe_tup hp) (h1.run σ F H _ E fun v F1 H1 E1 s1 ⟨p, vs, ev, hn, hf, t, r⟩ => h2.run σ F1 H1 _ E1 fun w F2 H2 E2 s2 r2 => ⟨by show 2 ≤ sizeLine; decide, fun c hc => by
    have nop : ¬ Own Γ1 p := fun z => by
      have := Own.some (h1.sub _ z) E
      exact this hn
    have kp := s2.same (by rw [t]; exact fun z => nomatch z) hf nop
    have hpc : p ≠ c := fun z => by
      rw [← z, kp.1, t] at hc
      cases hc
    subst ev
    exact q _ F2 _ (E2.new hc) ((s1.sub s2 h1.sub).sub (Step.new (O := Own Γ) hc) fun a z => z) ⟨c, p, vs, w, rfl, upd_same, hn, kp.2, by rw [upd_ne hpc, kp.1, t], r.mono s2.up, r2⟩⟩)⟩
/-- x, y = e -/
theorem sd_asgTL {xs : List α} {y : β} {n1 n2 : Str} {q1 q2 q3 : Pos} {kk} (i j : Nat) (h : PX X (tl α β) Γ e (xs, y) Γ1) (k : ∀ p, SD X m ((Γ1.set i (.own p xs)).set j (.is y)) rest D) (hN : X.N.Nodup) (hi : X.N[i]? = some n1 := by rfl) (hj : X.N[j]? = some n2 := by rfl) 
    (hx : Loc X.env.scope n1 := by first | exact Or.inl rfl | exact Or.inr rfl) (hy : Loc X.env.scope n2 := by first | exact Or.inl rfl | exact Or.inr rfl) (hf1 : X.fn n1 = true ∨ X.env.scope.names.lookup n1 = some .local := by first | exact .inl rfl | exact .inr rfl) (hf2 : X.fn n2 = true ∨ X.env.scope.names.lookup n2 = some .local := by first | exact .inl rfl | exact .inr rfl)
    (hc : X.calm = true := by rfl) (hn : (assignEach [.Name n1 q1, .Name n2 q2] X.env).length = 2 := by rfl) (hst : (assignEach [.Name n1 q1, .Name n2 q2] X.env).findIdx? (·.1) = none := by rfl)
    (hp : PGs X [.Name n1 q1, .Name n2 q2] (gCons (wG X (.Name n1 q1)) (gCons (wG X (.Name n2 q2)) gNil)) := by exact pgs_cons pG (pgs_cons pG pgs_nil))
    (hs : swapsWithSole [.Tuple [.Name n1 q1, .Name n2 q2] kk q3] e pos.line X.env = pure false := by rfl) (hw : swappedStores [.Tuple [.Name n1 q1, .Name n2 q2] kk q3] e X.env = pure none := by rfl)
    (h1 : (assignEach [.Tuple [.Name n1 q1, .Name n2 q2] kk q3] X.env).map (·.2) = [assign (.Tuple [.Name n1 q1, .Name n2 q2] kk q3) X.env] := by rfl) :
    SD X m Γ (.Assign [.Tuple [.Name n1 q1, .Name n2 q2] kk q3] e pos :: rest) D := by
  refine sd_cons (N := fun Γ' => ∃ p, Γ' = (Γ1.set i (.own p xs)).set j (.is y)) ?_ (fun _ ⟨p, z⟩ => z ▸ k p)
  intro σ F H D' E L
  refine wS1.of (ps_asg pE pG hs hw h1) (h.run σ F H _ E fun v F1 H1 E1 s1 ⟨c, p, vs, u, ev, tc, hn0, hf, tp, r, ru⟩ => ?_)
  have nop : ¬ Own Γ1 p := fun z => by
    have := Own.some (h.sub _ z) E
    exact this hn0
  refine wG.of (pg_tup hc hp hn hst) ⟨c, [.ref p, u], ev, .inl (.inl tc), rfl, .ref p, [u], rfl, ?_⟩
  refine wG.of (pg_name hN hi hx hf1) ⟨u, [], rfl, wG.of (pg_name hN hj hy hf2) ⟨rfl, ?_⟩⟩
  have E2 := E1.set_ent (i := i) (v := .ref p) (e := .own p xs) ⟨.ref p, rfl, fun q m => by rw [List.mem_singleton.mp m]; exact ⟨hf, by rw [tp]; exact fun z => nomatch z⟩, rfl, vs, tp, r⟩ (fun q m j' _ z => nop (by rw [← List.mem_singleton.mp m]; exact ⟨j', z⟩))
  refine L.nx _ _ F1 H1 ⟨p, rfl⟩ (E2.set_is ru) ⟨s1, fun q z => ?_⟩
  rcases own_set_own (own_set_is z) with z | z
  · rw [z]; exact .inr hn0
  · exact .inl (h.sub q z)
theorem RpL.ins {K : PySem.W.Frag} {F : Hp} {v : V} {x : α} {vs : List V} {xs : List α} (n : Nat) (h : RpL K F vs xs) (r : rp K F v x) : RpL K F (vs.take n ++ [v] ++ vs.drop n) (xs.take n ++ [x] ++ xs.drop n) :=
  pair_append ((h.take n).snoc r) (h.drop n)
/-- y.insert(i, e), y one's own -/
theorem sd_insert {xs xs0 : List α} {y : α} {ad : Addr} {n : Nat} {nm : Str} {apos cpos : Pos} (i : Nat) (hk : PX X (sh Int) Γ ix (n : Int) Γ1) (he : PX X (sh α) Γ1 e y Γ2) (h2 : Γ2[i]? = some (.own ad xs)) (hz : xs.length < sizeLine) (hb : n < 2 ^ 60) (k : SD X m (Γ2.set i (.own ad (xs.take n ++ [y] ++ xs.drop n))) rest D) (h0 : Γ[i]? = some (.own ad xs0) := by rfl) (hN : X.N[i]? = some nm := by rfl)
    (hv : Vis X.env.scope nm := by first | exact Or.inl rfl | exact Or.inr (Or.inl rfl) | exact Or.inr (Or.inr rfl)) (hd : (nm == ("__debug__" : Str)) = false := by decide) (hcd : (nm == ("__classdict__" : Str)) = false := by decide)
    (hp : ∀ {to : TE} {t : TA} {r : V → List V → Hp → VK → Prop}, MtR X "list.insert" r → PE X (.Name nm p) to → PA X [ix, e] t → PE X (.Call (.Attribute (.Name nm p) "insert" apos) [ix, e] [] cpos) (tBM X.K "list" r to t) := by intro to t r h0 h1 h2; exact pe_bm PySem.F.plainAttrs_list PySem.F.slot_list_insert PySem.F.type_list_insert h0 h1 h2)
    (ha : PA X [ix, e] (tCons (wE X ix) (tCons (wE X e) tNil)) := by exact pa_cons pE (pa_cons pE pa_nil)) (hs : swapsWith (.Call (.Attribute (.Name nm p) "insert" apos) [ix, e] [] cpos) none pos.line X.env = pure false := by rfl) :
    SD X m Γ (.Expr (.Call (.Attribute (.Name nm p) "insert" apos) [ix, e] [] cpos) pos :: rest) D :=
  sd_c1 (fun σ F H D' E L => by
    obtain ⟨ho, vs0, hv0⟩ := own_at E h0
    refine wS1.of (ps_expr (hp mt_insert (pe_var hN hv hd hcd) ha) hs) ⟨_, ho, .inl ⟨rfl, vs0, .inl (.inl hv0)⟩, hk.run σ F H _ E fun v F1 H1 E1 s1 r1 => he.run σ F1 H1 _ E1 fun w F2 H2 E2 s2 r2 => ?_⟩
    have r1 : v = .int (n : Int) := r1
    subst r1
    obtain ⟨o, _, v9, rfl, hF, rfl, vs, hH, r⟩ := E2.ent i _ h2
    obtain ⟨E3, t3⟩ := E2.put (β := α) h2 (r.ins n r2)
    refine ⟨ad, vs, (n : Int), w, rfl, rfl, hH, by rw [r.length]; exact hz, by omega, by omega, ?_⟩
    rw [Int.toNat_natCast]
    exact L.nx _ σ F2 _ rfl E3 (Stp.trans ⟨s1.sub s2 hk.sub, fun q z => .inl (hk.sub q (he.sub q z))⟩ t3)) k
/-- a list of one's own is read within an expression that gives a new list -/
theorem px_lentN {γ : Type} [Rp γ] [Flt γ] {ad : Addr} {xs : List α} {ys : List γ} {Γw Γw' : DE} (i : Nat) (k : PX X (nw γ) Γw e ys Γw') (h : Γ[i]? = some (.own ad xs) := by rfl) (w : Wk (Γ.set i (.is xs)) Γw) (io : IsOnly Γw := by rfl) : PX X (nw γ) Γ e ys Γ :=
  ⟨sub_refl, fun σ F H Q E q => by
    obtain ⟨vs, t, hF, E1⟩ := lent E h w
    refine k.run σ _ H _ E1 fun v F' H' E' s ⟨p, us, ev, hn, hf, tp, r⟩ => ?_
    obtain ⟨E2, s2⟩ := lent_back E t hF (fun p ⟨j, z⟩ => io.no j p z) s E'.le
    exact q v _ H' E2 s2 ⟨p, us, ev, hn, by
      show (if p = ad then none else F' p) = none
      split
      · rfl
      · exact hf, tp, flt_all r⟩⟩
theorem see_lkK {κ α : Type} [Ky κ] [Rp α] {ad : Addr} {od : Obj} {xs : List (κ × α)} : ∀ {K : PySem.W.Frag} {F H : Hp} {v : V}, (Res.lkK ad od xs).ok K F H v → rp K F v (⟨xs⟩ : Dk κ α) := fun ⟨ev, kvs, t, r⟩ => ⟨_, kvs, ev, .inr ⟨_, t⟩, r⟩
/-- y[e] = x, e of any environment -/
theorem sd_setixE {xs xs0 : List α} {y : α} {ad : Addr} {i1 : Int} {j : Nat} {nm : Str} {spos : Pos} (i : Nat) (he : PX X (sh α) Γ e y Γ1) (hi : PX X (sh Int) Γ1 ix i1 Γ2) (h1 : Γ2[i]? = some (.own ad xs)) (hj : ixN xs.length i1 = some j) (k : SD X m (Γ2.set i (.own ad (xs.set j y))) rest D) (h0 : Γ1[i]? = some (.own ad xs0) := by rfl) (hN : X.N[i]? = some nm := by rfl)
    (hv : Vis X.env.scope nm := by first | exact Or.inl rfl | exact Or.inr (Or.inl rfl) | exact Or.inr (Or.inr rfl)) (hd : (nm == ("__debug__" : Str)) = false := by decide) (hcd : (nm == ("__classdict__" : Str)) = false := by decide)
    (hg : ∀ {to ti : TE}, PE X (.Name nm p) to → PE X ix ti → PG X (.Subscript (.Name nm p) ix spos) (gSub to ti rSetL) := by intro to ti h1 h2; exact pg_sub h1 h2 set_list)
    (hs : swapsWithSole [.Subscript (.Name nm p) ix spos] e pos.line X.env = pure false := by rfl) (hw : swappedStores [.Subscript (.Name nm p) ix spos] e X.env = pure none := by rfl)
    (h2 : (assignEach [.Subscript (.Name nm p) ix spos] X.env).map (·.2) = [assign (.Subscript (.Name nm p) ix spos) X.env] := by rfl) :
    SD X m Γ (.Assign [.Subscript (.Name nm p) ix spos] e pos :: rest) D :=
  sd_c1 (fun σ F H D' E L => by
    refine wS1.of (ps_asg pE (hg (pe_var hN hv hd hcd) pE) hs hw h2) (he.run σ F H _ E fun v F1 H1 E1 s1 r1 => ?_)
    obtain ⟨ho, vs0, hv0⟩ := own_at E1 h0
    refine ⟨_, ho, hi.run σ F1 H1 _ E1 fun w F2 H2 E2 s2 r2 => ?_⟩
    obtain ⟨o, _, v9, rfl, hF, rfl, vs, hH, r⟩ := E2.ent i _ h1
    obtain ⟨E3, t3⟩ := E2.put (β := α) h1 (RpL.set (Rp.mono s2.up r1) j r)
    exact ⟨ad, vs, i1, j, rfl, r2, hH, by rw [r.length]; exact hj, L.nx _ σ F2 _ rfl E3 (((he.stp s1).trans (hi.stp s2)).trans t3)⟩) k
end
end G
namespace L
open PySem PySem.Spec PyProof.Rows L2 G
def topS (i : Nat) : Stmt := PySem.Challenge.pw_firstgoers_k23_whole_companies.main.body.getD i (.Pass ⟨0, 0, 0, 0⟩)
abbrev st__wall : Stmt := topS 0
abbrev st_is_whole : Stmt := topS 10
abbrev ns_is_whole : List Str := ["thing", "least"]
abbrev ps_is_whole : List Str := ["thing", "least"]
theorem sc_is_whole : FnScope ns_is_whole ps_is_whole (defScope st_is_whole) := ⟨rfl, rfl, rfl, by decide +kernel, rfl, by decide +kernel, by decide +kernel⟩
abbrev st_is_name : Stmt := topS 11
abbrev ns_is_name : List Str := ["thing", "letter"]
abbrev ps_is_name : List Str := ["thing"]
theorem sc_is_name : FnScope ns_is_name ps_is_name (defScope st_is_name) := ⟨rfl, rfl, rfl, by decide +kernel, rfl, by decide +kernel, by decide +kernel⟩
theorem b_is_name : Plain st_is_name "is_name" ps_is_name := fun _ _ _ _ _ _ us hl => match us, hl with | [_], _ => rfl
abbrev st_is_company : Stmt := topS 12
abbrev ns_is_company : List Str := ["thing", "name"]
abbrev ps_is_company : List Str := ["thing"]
theorem sc_is_company : FnScope ns_is_company ps_is_company (defScope st_is_company) := ⟨rfl, rfl, rfl, by decide +kernel, rfl, by decide +kernel, by decide +kernel⟩
theorem b_is_company : Plain st_is_company "is_company" ps_is_company := fun _ _ _ _ _ _ us hl => match us, hl with | [_], _ => rfl
abbrev st_folk_of : Stmt := topS 13
abbrev ns_folk_of : List Str := ["standing", "company", "name"]
abbrev ps_folk_of : List Str := ["standing"]
theorem sc_folk_of : FnScope ns_folk_of ps_folk_of (defScope st_folk_of) := ⟨rfl, rfl, rfl, by decide +kernel, rfl, by decide +kernel, by decide +kernel⟩
theorem b_folk_of : Plain st_folk_of "folk_of" ps_folk_of := fun _ _ _ _ _ _ us hl => match us, hl with | [_], _ => rfl
abbrev st_is_standing : Stmt := topS 14
abbrev ns_is_standing : List Str := ["thing", "folk", "company"]
abbrev ps_is_standing : List Str := ["thing"]
theorem sc_is_standing : FnScope ns_is_standing ps_is_standing (defScope st_is_standing) := ⟨rfl, rfl, rfl, by decide +kernel, rfl, by decide +kernel, by decide +kernel⟩
theorem b_is_standing : Plain st_is_standing "is_standing" ps_is_standing := fun _ _ _ _ _ _ us hl => match us, hl with | [_], _ => rfl
abbrev st_copied : Stmt := topS 15
abbrev ns_copied : List Str := ["standing", "company"]
abbrev ps_copied : List Str := ["standing"]
theorem sc_copied : FnScope ns_copied ps_copied (defScope st_copied) := ⟨rfl, rfl, rfl, by decide +kernel, rfl, by decide +kernel, by decide +kernel⟩
theorem b_copied : Plain st_copied "copied" ps_copied := fun _ _ _ _ _ _ us hl => match us, hl with | [_], _ => rfl
abbrev st_checked_standing : Stmt := topS 16
abbrev ns_checked_standing : List Str := ["thing"]
abbrev ps_checked_standing : List Str := ["thing"]
theorem sc_checked_standing : FnScope ns_checked_standing ps_checked_standing (defScope st_checked_standing) := ⟨rfl, rfl, rfl, by decide +kernel, rfl, by decide +kernel, by decide +kernel⟩
theorem b_checked_standing : Plain st_checked_standing "checked_standing" ps_checked_standing := fun _ _ _ _ _ _ us hl => match us, hl with | [_], _ => rfl
abbrev st_checked_day : Stmt := topS 17
abbrev ns_checked_day : List Str := ["day"]
abbrev ps_checked_day : List Str := ["day"]
theorem sc_checked_day : FnScope ns_checked_day ps_checked_day (defScope st_checked_day) := ⟨rfl, rfl, rfl, by decide +kernel, rfl, by decide +kernel, by decide +kernel⟩
theorem b_checked_day : Plain st_checked_day "checked_day" ps_checked_day := fun _ _ _ _ _ _ us hl => match us, hl with | [_], _ => rfl
abbrev st_day_behind : Stmt := topS 18
abbrev ns_day_behind : List Str := ["standing", "goers", "company"]
abbrev ps_day_behind : List Str := ["standing"]
theorem sc_day_behind : FnScope ns_day_behind ps_day_behind (defScope st_day_behind) := ⟨rfl, rfl, rfl, by decide +kernel, rfl, by decide +kernel, by decide +kernel⟩
theorem b_day_behind : Plain st_day_behind "day_behind" ps_day_behind := fun _ _ _ _ _ _ us hl => match us, hl with | [_], _ => rfl
abbrev st_least_rings : Stmt := topS 19
abbrev ns_least_rings : List Str := ["many", "k"]
abbrev ps_least_rings : List Str := ["many"]
theorem sc_least_rings : FnScope ns_least_rings ps_least_rings (defScope st_least_rings) := ⟨rfl, rfl, rfl, by decide +kernel, rfl, by decide +kernel, by decide +kernel⟩
theorem b_least_rings : Plain st_least_rings "least_rings" ps_least_rings := fun _ _ _ _ _ _ us hl => match us, hl with | [_], _ => rfl
abbrev st_has_settled : Stmt := topS 20
abbrev ns_has_settled : List Str := ["standing", "k", "n", "company"]
abbrev ps_has_settled : List Str := ["standing"]
theorem sc_has_settled : FnScope ns_has_settled ps_has_settled (defScope st_has_settled) := ⟨rfl, rfl, rfl, by decide +kernel, rfl, by decide +kernel, by decide +kernel⟩
theorem b_has_settled : Plain st_has_settled "has_settled" ps_has_settled := fun _ _ _ _ _ _ us hl => match us, hl with | [_], _ => rfl
abbrev st_is_deed : Stmt := topS 23
abbrev st_refuse : Stmt := topS 24
abbrev st_done : Stmt := topS 25
abbrev st_checked_deeds : Stmt := topS 26
abbrev ns_checked_deeds : List Str := ["deeds", "found", "deed"]
abbrev ps_checked_deeds : List Str := ["deeds"]
theorem sc_checked_deeds : FnScope ns_checked_deeds ps_checked_deeds (defScope st_checked_deeds) := ⟨rfl, rfl, rfl, by decide +kernel, rfl, by decide +kernel, by decide +kernel⟩
theorem b_checked_deeds : Plain st_checked_deeds "checked_deeds" ps_checked_deeds := fun _ _ _ _ _ _ us hl => match us, hl with | [_], _ => rfl
abbrev st_common : Stmt := topS 28
abbrev ns_common : List Str := ["one", "other"]
abbrev ps_common : List Str := ["one", "other"]
theorem sc_common : FnScope ns_common ps_common (defScope st_common) := ⟨rfl, rfl, rfl, by decide +kernel, rfl, by decide +kernel, by decide +kernel⟩
theorem b_common : Plain st_common "common" ps_common := fun _ _ _ _ _ _ us hl => match us, hl with | [_, _], _ => rfl
abbrev st_least_multiple : Stmt := topS 29
abbrev ns_least_multiple : List Str := ["numbers", "found", "number"]
abbrev ps_least_multiple : List Str := ["numbers"]
theorem sc_least_multiple : FnScope ns_least_multiple ps_least_multiple (defScope st_least_multiple) := ⟨rfl, rfl, rfl, by decide +kernel, rfl, by decide +kernel, by decide +kernel⟩
theorem b_least_multiple : Plain st_least_multiple "least_multiple" ps_least_multiple := fun _ _ _ _ _ _ us hl => match us, hl with | [_], _ => rfl
abbrev st_turned : Stmt := topS 30
abbrev ns_turned : List Str := ["number", "by", "near", "far", "times"]
abbrev ps_turned : List Str := ["number", "by"]
theorem sc_turned : FnScope ns_turned ps_turned (defScope st_turned) := ⟨rfl, rfl, rfl, by decide +kernel, rfl, by decide +kernel, by decide +kernel⟩
theorem b_turned : Plain st_turned "turned" ps_turned := fun _ _ _ _ _ _ us hl => match us, hl with | [_, _], _ => rfl
abbrev st_joined : Stmt := topS 31
abbrev ns_joined : List Str := ["one", "other", "rest", "every", "due", "by", "measure", "less"]
abbrev ps_joined : List Str := ["one", "other"]
theorem sc_joined : FnScope ns_joined ps_joined (defScope st_joined) := ⟨rfl, rfl, rfl, by decide +kernel, rfl, by decide +kernel, by decide +kernel⟩
theorem b_joined : Plain st_joined "joined" ps_joined := fun _ _ _ _ _ _ us hl => match us, hl with | [_, _], _ => rfl
abbrev st_all_joined : Stmt := topS 32
abbrev ns_all_joined : List Str := ["pairs", "found", "pair"]
abbrev ps_all_joined : List Str := ["pairs"]
theorem sc_all_joined : FnScope ns_all_joined ps_all_joined (defScope st_all_joined) := ⟨rfl, rfl, rfl, by decide +kernel, rfl, by decide +kernel, by decide +kernel⟩
theorem b_all_joined : Plain st_all_joined "all_joined" ps_all_joined := fun _ _ _ _ _ _ us hl => match us, hl with | [_], _ => rfl
abbrev st_Course___init__ : Stmt := inClass (topS 34) 0
abbrev ns_Course___init__ : List Str := ["self", "standing", "deeds", "here", "deeds_by", "last", "deed", "first", "number", "company", "place", "name", "size", "ring", "rest"]
abbrev ps_Course___init__ : List Str := ["self", "standing", "deeds"]
theorem sc_Course___init__ : FnScope ns_Course___init__ ps_Course___init__ (defScope st_Course___init__) := ⟨rfl, rfl, rfl, by decide +kernel, rfl, by decide +kernel, by decide +kernel⟩
abbrev st_Course_standing_on : Stmt := inClass (topS 34) 1
abbrev ns_Course_standing_on : List Str := ["self", "day", "found", "number", "company"]
abbrev ps_Course_standing_on : List Str := ["self", "day"]
theorem sc_Course_standing_on : FnScope ns_Course_standing_on ps_Course_standing_on (defScope st_Course_standing_on) := ⟨rfl, rfl, rfl, by decide +kernel, rfl, by decide +kernel, by decide +kernel⟩
theorem b_Course_standing_on : PlainM st_Course_standing_on "standing_on" "Course.standing_on" ps_Course_standing_on := fun _ _ _ _ _ _ us hl => match us, hl with | [_, _], _ => rfl
abbrev st_Course_company_begun : Stmt := inClass (topS 34) 2
abbrev ns_Course_company_begun : List Str := ["self", "day", "found", "size", "name"]
abbrev ps_Course_company_begun : List Str := ["self", "day"]
theorem sc_Course_company_begun : FnScope ns_Course_company_begun ps_Course_company_begun (defScope st_Course_company_begun) := ⟨rfl, rfl, rfl, by decide +kernel, rfl, by decide +kernel, by decide +kernel⟩
theorem b_Course_company_begun : PlainM st_Course_company_begun "company_begun" "Course.company_begun" ps_Course_company_begun := fun _ _ _ _ _ _ us hl => match us, hl with | [_, _], _ => rfl
abbrev st_Course_on_day : Stmt := inClass (topS 34) 3
abbrev ns_Course_on_day : List Str := ["self", "day"]
abbrev ps_Course_on_day : List Str := ["self", "day"]
theorem sc_Course_on_day : FnScope ns_Course_on_day ps_Course_on_day (defScope st_Course_on_day) := ⟨rfl, rfl, rfl, by decide +kernel, rfl, by decide +kernel, by decide +kernel⟩
theorem b_Course_on_day : PlainM st_Course_on_day "on_day" "Course.on_day" ps_Course_on_day := fun _ _ _ _ _ _ us hl => match us, hl with | [_, _], _ => rfl
abbrev st_Course_rings : Stmt := inClass (topS 34) 5
abbrev st_Course_ring : Stmt := inClass (topS 34) 8
abbrev ns_Course_ring : List Str := ["self", "name"]
abbrev ps_Course_ring : List Str := ["self", "name"]
theorem sc_Course_ring : FnScope ns_Course_ring ps_Course_ring (defScope st_Course_ring) := ⟨rfl, rfl, rfl, by decide +kernel, rfl, by decide +kernel, by decide +kernel⟩
theorem b_Course_ring : PlainM st_Course_ring "ring" "Course.ring" ps_Course_ring := fun _ _ _ _ _ _ us hl => match us, hl with | [_, _], _ => rfl
abbrev st_Course_checked_folk : Stmt := inClass (topS 34) 11
abbrev ns_Course_checked_folk : List Str := ["self", "folk", "name"]
abbrev ps_Course_checked_folk : List Str := ["self", "folk"]
theorem sc_Course_checked_folk : FnScope ns_Course_checked_folk ps_Course_checked_folk (defScope st_Course_checked_folk) := ⟨rfl, rfl, rfl, by decide +kernel, rfl, by decide +kernel, by decide +kernel⟩
theorem b_Course_checked_folk : PlainM st_Course_checked_folk "checked_folk" "Course.checked_folk" ps_Course_checked_folk := fun _ _ _ _ _ _ us hl => match us, hl with | [_, _], _ => rfl
abbrev st_Course_meeting : Stmt := inClass (topS 34) 12
abbrev st_Course_together : Stmt := inClass (topS 34) 13
abbrev st_Course_company_days : Stmt := inClass (topS 34) 19
abbrev ns_Course_company_days : List Str := ["self", "row", "rings", "sizes", "first", "every", "found", "gaps", "some", "size", "rest", "pair"]
abbrev ps_Course_company_days : List Str := ["self", "row"]
theorem sc_Course_company_days : FnScope ns_Course_company_days ps_Course_company_days (defScope st_Course_company_days) := ⟨rfl, rfl, rfl, by decide +kernel, rfl, by decide +kernel, by decide +kernel⟩
theorem b_Course_company_days : PlainM st_Course_company_days "company_days" "Course.company_days" ps_Course_company_days := fun _ _ _ _ _ _ us hl => match us, hl with | [_, _], _ => rfl
abbrev st__law_cell_at : Stmt := topS 36
abbrev ns__law_cell_at : List Str := ["_law_script", "_law_k"]
abbrev ps__law_cell_at : List Str := ["_law_script", "_law_k"]
theorem sc__law_cell_at : FnScope ns__law_cell_at ps__law_cell_at (defScope st__law_cell_at) := ⟨rfl, rfl, rfl, by decide +kernel, rfl, by decide +kernel, by decide +kernel⟩
theorem b__law_cell_at : Plain st__law_cell_at "_law_cell_at" ps__law_cell_at := fun _ _ _ _ _ _ us hl => match us, hl with | [_, _], _ => rfl
abbrev st__law_mixed : Stmt := topS 37
abbrev ns__law_mixed : List Str := ["_law_cell", "_law_k", "_law_low"]
abbrev ps__law_mixed : List Str := ["_law_cell", "_law_k"]
theorem sc__law_mixed : FnScope ns__law_mixed ps__law_mixed (defScope st__law_mixed) := ⟨rfl, rfl, rfl, by decide +kernel, rfl, by decide +kernel, by decide +kernel⟩
theorem b__law_mixed : Plain st__law_mixed "_law_mixed" ps__law_mixed := fun _ _ _ _ _ _ us hl => match us, hl with | [_, _], _ => rfl
abbrev st__law_source : Stmt := topS 38
abbrev ns__law_source : List Str := ["_law_script", "_law_k", "_law_cell"]
abbrev ps__law_source : List Str := ["_law_script", "_law_k"]
theorem sc__law_source : FnScope ns__law_source ps__law_source (defScope st__law_source) := ⟨rfl, rfl, rfl, by decide +kernel, rfl, by decide +kernel, by decide +kernel⟩
theorem b__law_source : Plain st__law_source "_law_source" ps__law_source := fun _ _ _ _ _ _ us hl => match us, hl with | [_, _], _ => rfl
abbrev st__law_next : Stmt := topS 39
abbrev ns__law_next : List Str := ["_law_source_here", "_law_many", "_law_found"]
abbrev ps__law_next : List Str := ["_law_source_here", "_law_many"]
theorem sc__law_next : FnScope ns__law_next ps__law_next (defScope st__law_next) := ⟨rfl, rfl, rfl, by decide +kernel, rfl, by decide +kernel, by decide +kernel⟩
theorem b__law_next : Plain st__law_next "_law_next" ps__law_next := fun _ _ _ _ _ _ us hl => match us, hl with | [_, _], _ => rfl
abbrev st__law_name : Stmt := topS 40
abbrev ns__law_name : List Str := ["_law_number", "_law_found"]
abbrev ps__law_name : List Str := ["_law_number"]
theorem sc__law_name : FnScope ns__law_name ps__law_name (defScope st__law_name) := ⟨rfl, rfl, rfl, by decide +kernel, rfl, by decide +kernel, by decide +kernel⟩
theorem b__law_name : Plain st__law_name "_law_name" ps__law_name := fun _ _ _ _ _ _ us hl => match us, hl with | [_], _ => rfl
abbrev st__law_names : Stmt := topS 41
abbrev ns__law_names : List Str := ["_law_source_here", "_law_many", "_law_first", "_law_step", "_law_at"]
abbrev ps__law_names : List Str := ["_law_source_here", "_law_many"]
theorem sc__law_names : FnScope ns__law_names ps__law_names (defScope st__law_names) := ⟨rfl, rfl, rfl, by decide +kernel, rfl, by decide +kernel, by decide +kernel⟩
theorem b__law_names : Plain st__law_names "_law_names" ps__law_names := fun _ _ _ _ _ _ us hl => match us, hl with | [_, _], _ => rfl
abbrev st__law_standing : Stmt := topS 42
abbrev ns__law_standing : List Str := ["_law_source_here", "_law_names_here", "_law_found", "_law_left", "_law_most_one", "_law_size"]
abbrev ps__law_standing : List Str := ["_law_source_here", "_law_names_here"]
theorem sc__law_standing : FnScope ns__law_standing ps__law_standing (defScope st__law_standing) := ⟨rfl, rfl, rfl, by decide +kernel, rfl, by decide +kernel, by decide +kernel⟩
theorem b__law_standing : Plain st__law_standing "_law_standing" ps__law_standing := fun _ _ _ _ _ _ us hl => match us, hl with | [_, _], _ => rfl
abbrev st__law_behind : Stmt := topS 43
abbrev ns__law_behind : List Str := ["_law_standing_here", "_law_goers", "_law_others", "_law_company"]
abbrev ps__law_behind : List Str := ["_law_standing_here"]
theorem sc__law_behind : FnScope ns__law_behind ps__law_behind (defScope st__law_behind) := ⟨rfl, rfl, rfl, by decide +kernel, rfl, by decide +kernel, by decide +kernel⟩
theorem b__law_behind : Plain st__law_behind "_law_behind" ps__law_behind := fun _ _ _ _ _ _ us hl => match us, hl with | [_], _ => rfl
abbrev st__law_shape : Stmt := topS 44
abbrev ns__law_shape : List Str := ["_law_standing_here", "_law_many", "_law_k", "_law_sizes", "_law_company", "_law_n", "_law_size"]
abbrev ps__law_shape : List Str := ["_law_standing_here"]
theorem sc__law_shape : FnScope ns__law_shape ps__law_shape (defScope st__law_shape) := ⟨rfl, rfl, rfl, by decide +kernel, rfl, by decide +kernel, by decide +kernel⟩
theorem b__law_shape : Plain st__law_shape "_law_shape" ps__law_shape := fun _ _ _ _ _ _ us hl => match us, hl with | [_], _ => rfl
abbrev st__law_settled_walk : Stmt := topS 45
abbrev ns__law_settled_walk : List Str := ["_law_standing_here", "_law_found"]
abbrev ps__law_settled_walk : List Str := ["_law_standing_here"]
theorem sc__law_settled_walk : FnScope ns__law_settled_walk ps__law_settled_walk (defScope st__law_settled_walk) := ⟨rfl, rfl, rfl, by decide +kernel, rfl, by decide +kernel, by decide +kernel⟩
theorem b__law_settled_walk : Plain st__law_settled_walk "_law_settled_walk" ps__law_settled_walk := fun _ _ _ _ _ _ us hl => match us, hl with | [_], _ => rfl
abbrev st__law_rings : Stmt := topS 46
abbrev ns__law_rings : List Str := ["_law_standing_here", "_law_when", "_law_found", "_law_number", "_law_company", "_law_place", "_law_name_here"]
abbrev ps__law_rings : List Str := ["_law_standing_here", "_law_when"]
theorem sc__law_rings : FnScope ns__law_rings ps__law_rings (defScope st__law_rings) := ⟨rfl, rfl, rfl, by decide +kernel, rfl, by decide +kernel, by decide +kernel⟩
theorem b__law_rings : Plain st__law_rings "_law_rings" ps__law_rings := fun _ _ _ _ _ _ us hl => match us, hl with | [_, _], _ => rfl
abbrev st__law_far : Stmt := topS 47
abbrev ns__law_far : List Str := ["_law_rings_here", "_law_when", "_law_named", "_law_greatest", "_law_found", "_law_number", "_law_row_here", "_law_size", "_law_name_here", "_law_ring"]
abbrev ps__law_far : List Str := ["_law_rings_here", "_law_when"]
theorem sc__law_far : FnScope ns__law_far ps__law_far (defScope st__law_far) := ⟨rfl, rfl, rfl, by decide +kernel, rfl, by decide +kernel, by decide +kernel⟩
theorem b__law_far : Plain st__law_far "_law_far" ps__law_far := fun _ _ _ _ _ _ us hl => match us, hl with | [_, _], _ => rfl
abbrev st__law_common : Stmt := topS 48
abbrev ns__law_common : List Str := ["_law_one", "_law_other"]
abbrev ps__law_common : List Str := ["_law_one", "_law_other"]
theorem sc__law_common : FnScope ns__law_common ps__law_common (defScope st__law_common) := ⟨rfl, rfl, rfl, by decide +kernel, rfl, by decide +kernel, by decide +kernel⟩
theorem b__law_common : Plain st__law_common "_law_common" ps__law_common := fun _ _ _ _ _ _ us hl => match us, hl with | [_, _], _ => rfl
abbrev st__law_meeting : Stmt := topS 49
abbrev ns__law_meeting : List Str := ["_law_pairs", "_law_rest", "_law_every", "_law_size", "_law_due_here", "_law_tries"]
abbrev ps__law_meeting : List Str := ["_law_pairs"]
theorem sc__law_meeting : FnScope ns__law_meeting ps__law_meeting (defScope st__law_meeting) := ⟨rfl, rfl, rfl, by decide +kernel, rfl, by decide +kernel, by decide +kernel⟩
theorem b__law_meeting : Plain st__law_meeting "_law_meeting" ps__law_meeting := fun _ _ _ _ _ _ us hl => match us, hl with | [_], _ => rfl
abbrev st__law_some : Stmt := topS 50
abbrev ns__law_some : List Str := ["_law_source_here", "_law_names_here", "_law_most_many", "_law_left", "_law_found", "_law_k"]
abbrev ps__law_some : List Str := ["_law_source_here", "_law_names_here", "_law_most_many"]
theorem sc__law_some : FnScope ns__law_some ps__law_some (defScope st__law_some) := ⟨rfl, rfl, rfl, by decide +kernel, rfl, by decide +kernel, by decide +kernel⟩
theorem b__law_some : Plain st__law_some "_law_some" ps__law_some := fun _ _ _ _ _ _ us hl => match us, hl with | [_, _, _], _ => rfl
abbrev st__law_kin : Stmt := topS 51
abbrev st__law_due : Stmt := topS 52
abbrev ns__law_due : List Str := ["_law_row_here", "_law_rings_here", "_law_greatest", "_law_every", "_law_name_here", "_law_first", "_law_found", "_law_sizes", "_law_last", "_law_taken", "_law_rests", "_law_due_here", "_law_more", "_law_ring"]
abbrev ps__law_due : List Str := ["_law_row_here", "_law_rings_here"]
theorem sc__law_due : FnScope ns__law_due ps__law_due (defScope st__law_due) := ⟨rfl, rfl, rfl, by decide +kernel, rfl, by decide +kernel, by decide +kernel⟩
theorem b__law_due : Plain st__law_due "_law_due" ps__law_due := fun _ _ _ _ _ _ us hl => match us, hl with | [_, _], _ => rfl
abbrev st__law_row : Stmt := topS 53
abbrev ns__law_row : List Str := ["_law_source_here", "_law_rings_here", "_law_when", "_law_rows", "_law_row_here", "_law_names_here", "_law_other", "_law_branch"]
abbrev ps__law_row : List Str := ["_law_source_here", "_law_rings_here", "_law_when"]
theorem sc__law_row : FnScope ns__law_row ps__law_row (defScope st__law_row) := ⟨rfl, rfl, rfl, by decide +kernel, rfl, by decide +kernel, by decide +kernel⟩
theorem b__law_row : Plain st__law_row "_law_row" ps__law_row := fun _ _ _ _ _ _ us hl => match us, hl with | [_, _, _], _ => rfl
abbrev st_law : Stmt := topS 54
abbrev ns_law : List Str := ["_law_script", "_law_k", "_law_source_here", "_law_many", "_law_standing_here", "_law_walk", "_law_first", "_law_rings_here", "_law_course", "_law_turn", "_law_when", "_law_row_here", "_law_kept", "_law_rests", "_law_every", "_law_days", "_law_far_here", "_law_rest"]
abbrev ps_law : List Str := ["_law_script"]
theorem sc_law : FnScope ns_law ps_law (defScope st_law) := ⟨rfl, rfl, rfl, by decide +kernel, rfl, by decide +kernel, by decide +kernel⟩
theorem b_law : Plain st_law "law" ps_law := fun _ _ _ _ _ _ us hl => match us, hl with | [_], _ => rfl
structure Txt (K : PySem.W.Frag) (mg : Str → Option Value) : Prop where
  d__wall : DefAt K mg "_wall" st__wall [] []
  d_is_whole : DefAt K mg "is_whole" st_is_whole [.int (0)] []
  d_is_name : DefAt K mg "is_name" st_is_name [] []
  d_is_company : DefAt K mg "is_company" st_is_company [] []
  d_folk_of : DefAt K mg "folk_of" st_folk_of [] []
  d_is_standing : DefAt K mg "is_standing" st_is_standing [] []
  d_copied : DefAt K mg "copied" st_copied [] []
  d_checked_standing : DefAt K mg "checked_standing" st_checked_standing [] []
  d_checked_day : DefAt K mg "checked_day" st_checked_day [] []
  d_day_behind : DefAt K mg "day_behind" st_day_behind [] []
  d_least_rings : DefAt K mg "least_rings" st_least_rings [] []
  d_has_settled : DefAt K mg "has_settled" st_has_settled [] []
  d_is_deed : DefAt K mg "is_deed" st_is_deed [] []
  d_refuse : DefAt K mg "refuse" st_refuse [] []
  d_done : DefAt K mg "done" st_done [] []
  d_checked_deeds : DefAt K mg "checked_deeds" st_checked_deeds [] []
  d_common : DefAt K mg "common" st_common [] []
  d_least_multiple : DefAt K mg "least_multiple" st_least_multiple [] []
  d_turned : DefAt K mg "turned" st_turned [] []
  d_joined : DefAt K mg "joined" st_joined [] []
  d_all_joined : DefAt K mg "all_joined" st_all_joined [] []
  f_Course___init__ : ∃ fd, FunD K "__init__" "Course.__init__" (defArgs st_Course___init__) (defBody st_Course___init__) (defScope st_Course___init__) [] [("deeds", .non)] (He.ma K (He.ga K "Course") "__init__") fd
  f_Course_standing_on : ∃ fd, FunD K "standing_on" "Course.standing_on" (defArgs st_Course_standing_on) (defBody st_Course_standing_on) (defScope st_Course_standing_on) [] [] (He.ma K (He.ga K "Course") "standing_on") fd
  f_Course_company_begun : ∃ fd, FunD K "company_begun" "Course.company_begun" (defArgs st_Course_company_begun) (defBody st_Course_company_begun) (defScope st_Course_company_begun) [] [] (He.ma K (He.ga K "Course") "company_begun") fd
  f_Course_on_day : ∃ fd, FunD K "on_day" "Course.on_day" (defArgs st_Course_on_day) (defBody st_Course_on_day) (defScope st_Course_on_day) [] [] (He.ma K (He.ga K "Course") "on_day") fd
  f_Course_rings : ∃ fd, FunD K "rings" "Course.rings" (defArgs st_Course_rings) (defBody st_Course_rings) (defScope st_Course_rings) [] [] (He.ma K (He.ga K "Course") "rings") fd
  f_Course_ring : ∃ fd, FunD K "ring" "Course.ring" (defArgs st_Course_ring) (defBody st_Course_ring) (defScope st_Course_ring) [] [] (He.ma K (He.ga K "Course") "ring") fd
  f_Course_checked_folk : ∃ fd, FunD K "checked_folk" "Course.checked_folk" (defArgs st_Course_checked_folk) (defBody st_Course_checked_folk) (defScope st_Course_checked_folk) [] [] (He.ma K (He.ga K "Course") "checked_folk") fd
  f_Course_meeting : ∃ fd, FunD K "meeting" "Course.meeting" (defArgs st_Course_meeting) (defBody st_Course_meeting) (defScope st_Course_meeting) [] [] (He.ma K (He.ga K "Course") "meeting") fd
  f_Course_together : ∃ fd, FunD K "together" "Course.together" (defArgs st_Course_together) (defBody st_Course_together) (defScope st_Course_together) [] [] (He.ma K (He.ga K "Course") "together") fd
  f_Course_company_days : ∃ fd, FunD K "company_days" "Course.company_days" (defArgs st_Course_company_days) (defBody st_Course_company_days) (defScope st_Course_company_days) [] [] (He.ma K (He.ga K "Course") "company_days") fd
  d__law_cell_at : DefAt K mg "_law_cell_at" st__law_cell_at [] []
  d__law_mixed : DefAt K mg "_law_mixed" st__law_mixed [] []
  d__law_source : DefAt K mg "_law_source" st__law_source [] []
  d__law_next : DefAt K mg "_law_next" st__law_next [] []
  d__law_name : DefAt K mg "_law_name" st__law_name [] []
  d__law_names : DefAt K mg "_law_names" st__law_names [] []
  d__law_standing : DefAt K mg "_law_standing" st__law_standing [] []
  d__law_behind : DefAt K mg "_law_behind" st__law_behind [] []
  d__law_shape : DefAt K mg "_law_shape" st__law_shape [] []
  d__law_settled_walk : DefAt K mg "_law_settled_walk" st__law_settled_walk [] []
  d__law_rings : DefAt K mg "_law_rings" st__law_rings [] []
  d__law_far : DefAt K mg "_law_far" st__law_far [] []
  d__law_common : DefAt K mg "_law_common" st__law_common [] []
  d__law_meeting : DefAt K mg "_law_meeting" st__law_meeting [] []
  d__law_some : DefAt K mg "_law_some" st__law_some [] []
  d__law_kin : DefAt K mg "_law_kin" st__law_kin [] []
  d__law_due : DefAt K mg "_law_due" st__law_due [] []
  d__law_row : DefAt K mg "_law_row" st__law_row [] []
  d_law : DefAt K mg "law" st_law [] []
  n_all : mg "all" = none
  n_any : mg "any" = none
  n_bool : mg "bool" = none
  n_dict : mg "dict" = none
  n_enumerate : mg "enumerate" = none
  n_int : mg "int" = none
  n_isinstance : mg "isinstance" = none
  n_len : mg "len" = none
  n_list : mg "list" = none
  n_max : mg "max" = none
  n_min : mg "min" = none
  n_range : mg "range" = none
  n_set : mg "set" = none
  n_sorted : mg "sorted" = none
  n_str : mg "str" = none
  n_sum : mg "sum" = none
  n_tuple : mg "tuple" = none
  g_SMALL : ∃ t, mg "SMALL" = some (.str "abcdefghijklmnopqrstuvwxyz" t)
  g_MOST_LETTERS : ∃ t, mg "MOST_LETTERS" = some (.int (8) t)
  g_LAST_DAY : ∃ t, mg "LAST_DAY" = some (.int (1000) t)
  c_Course : mg "Course" = some (.ref (He.ga K "Course"))
  cls_Course : Cls K (He.ga K "Course")
  mk_Course : Mk K (He.ga K "Course") (He.ma K (He.ga K "Course") "__init__")
  na_rows : NoAttr K (He.ga K "Course") "rows"
  na_begin : NoAttr K (He.ga K "Course") "begin"
  na_deed_days : NoAttr K (He.ga K "Course") "deed_days"
  na_ring_by : NoAttr K (He.ga K "Course") "ring_by"
  na_name_by : NoAttr K (He.ga K "Course") "name_by"
  na_greatest : NoAttr K (He.ga K "Course") "greatest"
  me_standing_on : Meth K (He.ga K "Course") "standing_on" (He.ma K (He.ga K "Course") "standing_on")
  me_company_begun : Meth K (He.ga K "Course") "company_begun" (He.ma K (He.ga K "Course") "company_begun")
  me_on_day : Meth K (He.ga K "Course") "on_day" (He.ma K (He.ga K "Course") "on_day")
  me_rings : Meth K (He.ga K "Course") "rings" (He.ma K (He.ga K "Course") "rings")
  me_ring : Meth K (He.ga K "Course") "ring" (He.ma K (He.ga K "Course") "ring")
  me_checked_folk : Meth K (He.ga K "Course") "checked_folk" (He.ma K (He.ga K "Course") "checked_folk")
  me_meeting : Meth K (He.ga K "Course") "meeting" (He.ma K (He.ga K "Course") "meeting")
  me_together : Meth K (He.ga K "Course") "together" (He.ma K (He.ga K "Course") "together")
  me_company_days : Meth K (He.ga K "Course") "company_days" (He.ma K (He.ga K "Course") "company_days")
end L
namespace M
structure Src where
  a : Int
  b : Int
  n : Int
def Src.l (s : Src) : List Int := [s.a, s.b, s.n]
def mixed (c k : Int) : Int :=
  let l := c % 2147483629 + c / 2147483629 * 30011
  let l := (l + 69621 * k + 1) * 48271 % 2147483629
  let l := l * (l / 907 + 16831 + k) % 2147483587
  l * (l / 1201 + 30011) % 2147483563
def cellAt (xs : List Int) (k : Int) : Int := if k < xs.length then xs.getD k.toNat 0 else 0
def srcOf (xs : List Int) (k : Int) : Src :=
  if k < xs.length then ⟨xs.getD k.toNat 0, xs.getD k.toNat 0, 0⟩ else ⟨mixed (cellAt xs 0) (1000 + k), mixed (cellAt xs 0) (1000 + k), 0⟩
def Src.draw (s : Src) (m : Int) : Int := if 10 ^ 18 ≤ s.a then s.a % m else mixed s.b (s.n + 1) % m
def Src.next (s : Src) (m : Int) : Src := if 10 ^ 18 ≤ s.a then ⟨s.a / m, s.b, s.n⟩ else ⟨s.a, s.b, s.n + 1⟩
theorem draw_nn {s : Src} {m : Int} (h : 0 < m) : 0 ≤ s.draw m := by
  unfold Src.draw
  split <;> exact Int.emod_nonneg _ (by omega)
theorem draw_lt {s : Src} {m : Int} (h : 0 < m) : s.draw m < m := by
  unfold Src.draw
  split <;> exact Int.emod_lt_of_pos _ h
end M
namespace L
open PySem PySem.Spec PyProof.Rows L2 G M
section
variable {P : Program} {w : World} {K : PySem.W.Frag} {mg : Str → Option Value} {base : Heap}
def r_cell_at : DE → Int → DE → Prop := fun Γ x Γ' => ∃ (xs : Scr Int) (k : Int), 0 ≤ k ∧ Γ = [.is xs, .is k] ∧ x = cellAt xs.l k ∧ Γ' = Γ
theorem can_cell_at (T : Txt K mg) : Can P w K mg base CX0 1 "_law_cell_at" ps__law_cell_at [] (spM K (sh Int) 2 r_cell_at) := by
  refine canD T.d__law_cell_at sc__law_cell_at b__law_cell_at fun cdv A outer s H E Γ x Γ' hr hR => ?_
  obtain ⟨xs, k, h0, rfl, rfl, rfl⟩ := hR
  refine sd_if (tx_cmp cr_lt (px_var 1) (px_lenS T.n_len (px_var 0))) (fun h => ?_) (fun h => sd_nil ?_)
  · have hk : k < xs.l.length := of_decide_eq_true h
    refine sd_ret (px_ixS (px_var 0) (px_var 1) (atI_int (d := 0) h0 hk)) ⟨?_, .is (.is .nil)⟩
    unfold cellAt; rw [if_pos hk]
  · have hk : ¬ k < xs.l.length := of_decide_eq_false h
    exact sd_ret px_int ⟨by unfold cellAt; rw [if_neg hk], .is (.is .nil)⟩
theorem div_ok {i : Int} {j : Int} (h : 0 < j) (h2 : j < 2 ^ 62) : CDivW i j := ⟨h, Nat.lt_of_lt_of_le (PySem.Flt.log2_lt_of (k := 62) (by decide) (by omega)) (by decide)⟩
def r_mixed : DE → Int → DE → Prop := fun Γ x Γ' => ∃ c k : Int, Γ = [.is c, .is k] ∧ x = mixed c k ∧ Γ' = Γ
theorem can_mixed (T : Txt K mg) : Can P w K mg base CX0 1 "_law_mixed" ps__law_mixed [] (spM K (sh Int) 2 r_mixed) := by
  refine canD T.d__law_mixed sc__law_mixed b__law_mixed fun cdv A outer s H E Γ x Γ' hr hR => ?_
  obtain ⟨c, k, rfl, rfl, rfl⟩ := hR
  have p0 : (0 : Int) < 2147483629 := by decide
  have p1 : (0 : Int) < 2147483587 := by decide
  refine sd_set 2 (px_add (px_mod (px_var 0) px_int p0) (px_mulR (px_div (px_var 0) px_int (div_ok p0 (by decide))) px_int (by decide))) ?_ sc__law_mixed.nd
  refine sd_set 2 (px_mod (px_mulR (px_add (px_add (px_var 2) (px_mulL px_int (px_var 1) (by decide))) px_int) px_int (by decide)) px_int p0) ?_ sc__law_mixed.nd
  refine sd_set 2 (px_mod (px_mulL (px_var 2) (px_add (px_add (px_div (px_var 2) px_int (div_ok (by decide) (by decide))) px_int) (px_var 1)) ?_) px_int p1) ?_ sc__law_mixed.nd
  · have h1 := Int.emod_nonneg ((c % 2147483629 + c / 2147483629 * 30011 + 69621 * k + 1) * 48271) (show (2147483629 : Int) ≠ 0 by decide)
    have h2 := Int.emod_lt_of_pos ((c % 2147483629 + c / 2147483629 * 30011 + 69621 * k + 1) * 48271) p0
    omega
  · refine sd_ret (px_mod (px_mulL (px_var 2) (px_add (px_div (px_var 2) px_int (div_ok (by decide) (by decide))) px_int) ?_) px_int (by decide)) ⟨rfl, .is (.is .nil)⟩
    have h1 := fun y : Int => Int.emod_nonneg y (show (2147483587 : Int) ≠ 0 by decide)
    have h2 := fun y : Int => Int.emod_lt_of_pos y p1
    exact ⟨Int.lt_of_lt_of_le (by decide) (h1 _), Int.lt_trans (h2 _) (by decide)⟩
def r_source : DE → List Int → DE → Prop := fun Γ x Γ' => ∃ (xs : Scr Int) (k : Int), 0 ≤ k ∧ Γ = [.is xs, .is k] ∧ x = (srcOf xs.l k).l ∧ Γ' = Γ
theorem can_source (T : Txt K mg) : Can P w K mg base CX0 2 "_law_source" ps__law_source [] (spM K (nw Int) 2 r_source) := by
  refine canD T.d__law_source sc__law_source b__law_source fun cdv A outer s H E Γ x Γ' hr hR => ?_
  obtain ⟨xs, k, h0, rfl, rfl, rfl⟩ := hR
  have at_ : k < xs.l.length → atI xs.l k = some (xs.l.getD k.toNat 0) := atI_int h0
  refine sd_if (tx_cmp cr_lt (px_var 1) (px_lenS T.n_len (px_var 0))) (fun h => ?_) (fun h => sd_nil ?_)
  · have hk : k < xs.l.length := of_decide_eq_true h
    refine sd_ret (px_lst (lx_cons (px_ixS (px_var 0) (px_var 1) (at_ hk)) (lx_cons (px_ixS (px_var 0) (px_var 1) (at_ hk)) (lx_cons px_int lx_nil)))) ⟨?_, .is (.is .nil)⟩
    unfold srcOf Src.l; rw [if_pos hk]
  · have hk : ¬ k < xs.l.length := of_decide_eq_false h
    refine sd_set 2 (px_c (can_mixed T) hr (ax_cons (px_c (can_cell_at T) hr (ax_cons (px_var 0) (ax_cons px_int ax_nil)) ⟨xs, 0, by decide, rfl, rfl, rfl⟩ defOk_nil) (ax_cons (px_add px_int (px_var 1)) ax_nil)) ⟨_, _, rfl, rfl, rfl⟩ defOk_nil) ?_ sc__law_source.nd
    refine sd_ret (px_lst (lx_cons (px_var 2) (lx_cons (px_var 2) (lx_cons px_int lx_nil)))) ⟨?_, .is (.is .nil)⟩
    unfold srcOf Src.l; rw [if_neg hk]
def r_next : DE → Int → DE → Prop := fun Γ x Γ' => ∃ (ad : Addr) (s : Src) (m : Int), 0 < m ∧ m < 2 ^ 300 ∧ Γ = [.own ad s.l, .is m] ∧ x = s.draw m ∧ Γ' = [.own ad (s.next m).l, .is m]
theorem can_next (T : Txt K mg) : Can P w K mg base CX0 2 "_law_next" ps__law_next [] (spM K (sh Int) 2 r_next) := by
  refine canD T.d__law_next sc__law_next b__law_next fun cdv A outer s H E Γ x Γ' hr hR => ?_
  obtain ⟨ad, s, m, h0, h1, rfl, rfl, rfl⟩ := hR
  obtain ⟨a, b, n⟩ := s
  refine sd_if (tx_cmp cr_ge (px_ixO 0 (y := a) px_int rfl rfl rfl) (px_pow px_int px_int ⟨by decide, by decide, by decide⟩)) (fun h => ?_) (fun h => sd_nil ?_)
  · have hk : (10 : Int) ^ 18 ≤ a := of_decide_eq_true h
    refine sd_set 2 (px_mod (px_ixO 0 (y := a) px_int rfl rfl rfl) (px_var 1) h0) ?_ sc__law_next.nd
    refine sd_setix (j := 0) 0 (px_div (px_ixO 0 (y := a) px_int rfl rfl rfl) (px_var 1) (wide_div (b := 300) h0 (by omega) (by decide) (by decide))) px_int rfl rfl ?_
    refine sd_ret (px_var 2) ⟨?_, ?_⟩
    · unfold Src.draw; rw [if_pos hk]
    · unfold Src.next Src.l; rw [if_pos hk]; exact .own (.is .nil)
  · have hk : ¬ (10 : Int) ^ 18 ≤ a := of_decide_eq_false h
    refine sd_setix (j := 2) 0 (px_add (px_ixO 0 (y := n) px_int rfl rfl rfl) px_int) px_int rfl rfl ?_
    refine sd_ret (px_mod (px_c ((can_mixed T).mono (by decide)) hr (ax_cons (px_ixO 0 (y := b) px_int rfl rfl rfl) (ax_cons (px_ixO 0 (y := n + 1) px_int rfl rfl rfl) ax_nil)) ⟨_, _, rfl, rfl, rfl⟩ defOk_nil) (px_var 1) h0) ⟨?_, ?_⟩
    · unfold Src.draw; rw [if_neg hk]
    · unfold Src.next Src.l; rw [if_neg hk]; exact .own (.is .nil)
end
end L
namespace M
/-- found // common * number -/
def lcm1 (f n : Int) : Int := f / (Int.gcd f n : Int) * n
def lcmL (ns : List Int) : Int := ns.foldl lcm1 1
theorem lcm1_pos {f n : Int} (hf : 0 < f) (hn : 0 < n) : 0 < lcm1 f n := by
  unfold lcm1
  have hg : (0 : Int) < (Int.gcd f n : Int) := by
    have := Int.gcd_pos_of_ne_zero_left n (show f ≠ 0 by omega)
    omega
  have hd : (Int.gcd f n : Int) ∣ f := Int.gcd_dvd_left ..
  exact Int.mul_pos (Int.ediv_pos_of_pos_of_dvd hf (by omega) hd) hn
theorem lcm1_eq {f n : Int} (hf : 0 < f) (hn : 0 < n) : lcm1 f n = (Int.lcm f n : Int) := by
  obtain ⟨a, rfl⟩ : ∃ a : Nat, f = (a : Int) := ⟨f.toNat, by omega⟩
  obtain ⟨b, rfl⟩ : ∃ b : Nat, n = (b : Int) := ⟨n.toNat, by omega⟩
  unfold lcm1 Int.lcm Int.gcd Nat.lcm
  simp only [Int.natAbs_natCast]
  rw [Nat.mul_comm a b, Nat.mul_div_assoc b (Nat.gcd_dvd_left a b), Nat.mul_comm b]
  norm_cast
theorem gcd_turn {a b : Int} (ha : 0 ≤ a) (hb : 0 < b) : Int.gcd b (a % b) = Int.gcd a b ∧ (a % b).toNat < b.toNat := by
  constructor
  · obtain ⟨p, rfl⟩ : ∃ p : Nat, a = p := ⟨a.toNat, by omega⟩
    obtain ⟨q, rfl⟩ : ∃ q : Nat, b = q := ⟨b.toNat, by omega⟩
    unfold Int.gcd
    rw [← Int.natCast_emod]
    simp only [Int.natAbs_natCast]
    rw [Nat.gcd_comm q, ← Nat.gcd_rec, Nat.gcd_comm]
  · have := Int.emod_lt_of_pos a hb
    omega
/-- in how many ways some are chosen of many -/
def ch : Nat → Nat → Nat
  | _, 0 => 1
  | 0, _ + 1 => 0
  | n + 1, k + 1 => ch n k + ch n (k + 1)
/-- the greatest number of rings that so many fill -/
def tri (k : Nat) : Nat := k * (k + 1) / 2
theorem tri_succ (k : Nat) : tri (k + 1) = tri k + (k + 1) := by
  unfold tri
  have e : (k + 1) * (k + 1 + 1) = k * (k + 1) + (k + 1) * 2 := by
    rw [Nat.mul_comm k (k + 1), ← Nat.mul_add]
  rw [e, Nat.add_mul_div_right _ _ (by decide)]
theorem tri_mono {a b : Nat} (h : a ≤ b) : tri a ≤ tri b := by
  induction h with
  | refl => exact Nat.le_refl _
  | step _ ih => rw [Nat.succ_eq_add_one, tri_succ]; omega
theorem tri_ge (k : Nat) : k ≤ tri k := by
  induction k with
  | zero => exact Nat.le_refl _
  | succ k ih => rw [tri_succ]; omega
def rings (n : Nat) : Nat := (List.range (n + 1)).foldl (fun b k => if tri k ≤ n then k else b) 0
/-- k rings are full and no more -/
def IsRings (n k : Nat) : Prop := tri k ≤ n ∧ n < tri (k + 1)
theorem isRings_inj {n j k : Nat} (h : IsRings n j) (g : IsRings n k) : j = k := by
  obtain ⟨a, b⟩ := h
  obtain ⟨c, d⟩ := g
  rcases Nat.lt_trichotomy j k with z | z | z
  · have := tri_mono (show j + 1 ≤ k by omega); omega
  · exact z
  · have := tri_mono (show k + 1 ≤ j by omega); omega
end M
namespace L
open PySem PySem.Spec PyProof.Rows L2 G M
section
variable {P : Program} {w : World} {K : PySem.W.Frag} {mg : Str → Option Value} {base : Heap}
def r_common : DE → Int → DE → Prop := fun Γ x Γ' => ∃ a b : Int, 0 ≤ a ∧ 0 ≤ b ∧ Γ = [.is a, .is b] ∧ x = (Int.gcd a b : Int) ∧ Γ' = Γ
theorem can_common (T : Txt K mg) : Can P w K mg base CX0 1 "common" ps_common [] (spM K (sh Int) 2 r_common) := by
  refine canD T.d_common sc_common b_common fun cdv A outer s H E Γ x Γ' hr hR => ?_
  obtain ⟨a, b, ha, hb, rfl, rfl, rfl⟩ := hR
  refine sd_while (N := fun Γ' => Γ' = [.is (Int.gcd a b : Int), .is (0 : Int)]) (fun s : Int × Int => [.is s.1, .is s.2]) (fun s => 0 ≤ s.1 ∧ 0 ≤ s.2 ∧ Int.gcd s.1 s.2 = Int.gcd a b) (fun s => s.2.toNat) (fun s => !decide (s.2 = 0)) (a, b) ⟨ha, hb, rfl⟩ Wk.refl
    (fun s _ => tx_cmp cr_ne (px_var 1) px_int) (fun s ⟨h1, h2, h3⟩ hb => ?_) (fun s ⟨h1, h2, h3⟩ hb => ?_) (fun Γ' e => ?_)
  · have hn : 0 < s.2 := by
      have : s.2 ≠ 0 := by simpa using hb
      omega
    refine sd_par 0 1 (px_var 1) (px_mod (px_var 0) (px_var 1) hn) (sd_nil ⟨(s.2, s.1 % s.2), ⟨h2, Int.emod_nonneg _ (by omega), ?_⟩, ?_, Wk.refl⟩) sc_common.nd
    · show Int.gcd s.2 (s.1 % s.2) = _
      rw [← h3]
      obtain ⟨p, hp⟩ : ∃ p : Nat, s.1 = p := ⟨s.1.toNat, by omega⟩
      obtain ⟨q, hq⟩ : ∃ q : Nat, s.2 = q := ⟨s.2.toNat, by omega⟩
      rw [hp, hq]
      unfold Int.gcd
      rw [← Int.natCast_emod]
      simp only [Int.natAbs_natCast]
      rw [Nat.gcd_comm q, ← Nat.gcd_rec, Nat.gcd_comm]
    · have := Int.emod_lt_of_pos s.1 hn
      show (s.1 % s.2).toNat < s.2.toNat
      omega
  · have hz : s.2 = 0 := by simpa using hb
    rw [hz] at h3 ⊢
    have e : s.1 = (Int.gcd a b : Int) := by
      rw [← h3, Int.gcd_zero_right]
      omega
    rw [e]
  · subst e
    exact sd_ret (px_var 0) ⟨rfl, .is (.is .nil)⟩
end
end L
namespace M
theorem lcmL_pos {ns : List Int} (h : ∀ n ∈ ns, 0 < n) : ∀ f : Int, 0 < f → 0 < ns.foldl lcm1 f := by
  induction ns with
  | nil => intro f hf; exact hf
  | cons n r ih => intro f hf; exact ih (fun m hm => h m (List.mem_cons_of_mem _ hm)) _ (lcm1_pos hf (h n List.mem_cons_self))
theorem rings_ex : ∀ n : Nat, ∃ k, IsRings n k
  | 0 => ⟨0, by decide, by decide⟩
  | n + 1 => by
    obtain ⟨k, a, b⟩ := rings_ex n
    by_cases h : n + 1 < tri (k + 1)
    · exact ⟨k, by omega, h⟩
    · refine ⟨k + 1, by omega, ?_⟩
      have := tri_succ (k + 1)
      omega
noncomputable def rg (n : Nat) : Nat := Classical.choose (rings_ex n)
theorem rg_is (n : Nat) : IsRings n (rg n) := Classical.choose_spec (rings_ex n)
theorem rg_eq {n k : Nat} (h : IsRings n k) : rg n = k := isRings_inj (rg_is n) h
theorem tri_int (k : Nat) : (k : Int) * ((k : Int) + 1) / 2 = (tri k : Int) := by
  unfold tri
  norm_cast
end M
namespace L
open PySem PySem.Spec PyProof.Rows L2 G M
section
variable {P : Program} {w : World} {K : PySem.W.Frag} {mg : Str → Option Value} {base : Heap}
def r_lcm : DE → Int → DE → Prop := fun Γ x Γ' => ∃ ns : List Int, (∀ n ∈ ns, 0 < n ∧ n < 2 ^ 62) ∧ Γ = [.is ns] ∧ x = lcmL ns ∧ Γ' = Γ
theorem can_least_multiple (T : Txt K mg) : Can P w K mg base CX0 2 "least_multiple" ps_least_multiple [] (spM K (sh Int) 1 r_lcm) := by
  refine canD T.d_least_multiple sc_least_multiple b_least_multiple fun cdv A outer s H E Γ x Γ' hr hR => ?_
  obtain ⟨ns, hn, rfl, rfl, rfl⟩ := hR
  refine sd_set 1 px_int ?_ sc_least_multiple.nd
  refine sd_foldP (ts := [2]) (it_list (px_var 0)) (fun f : Int => [.is ns, .is f, .no]) lcm1 1 (fun f => 0 < f) Wk.refl (by decide) (fun f n hm hf => ⟨_, gx_name 2 sc_least_multiple.nd, lcm1_pos hf (hn n hm).1, ?_⟩) fun hf => ?_
  · have h1 := (hn n hm).1
    have h2 := (hn n hm).2
    have g0 : 0 < (Int.gcd f n : Int) := by
      have := Int.gcd_pos_of_ne_zero_left n (show f ≠ 0 by omega)
      omega
    have g1 : (Int.gcd f n : Int) < 2 ^ 62 := by
      have := Int.le_of_dvd h1 (Int.gcd_dvd_right f n)
      omega
    refine sd_set 1 (px_mulR (px_div (px_var 1) (px_c ((can_common T).mono (by decide)) hr (ax_cons (px_var 1) (ax_cons (px_var 2) ax_nil)) ⟨_, _, by omega, by omega, rfl, rfl, rfl⟩ defOk_nil) (div_ok g0 g1)) (px_var 2) ⟨by omega, by omega⟩) (sd_nil ?_) sc_least_multiple.nd
    exact .same (.same (.no .nil))
  · exact sd_ret (px_var 1) ⟨rfl, .is .nil⟩
/-- whole numbers -/
def r_whole : DE → Bool → DE → Prop := fun Γ x Γ' => ∃ n l : Int, Γ = [.is n, .is l] ∧ x = decide (l ≤ n) ∧ Γ' = Γ
theorem can_is_whole (T : Txt K mg) : Can P w K mg base CX0 1 "is_whole" ps_is_whole [.int 0] (spM K (sh Bool) 2 r_whole) := by
  refine canD1 (dvs := [.int 0]) 1 0 T.d_is_whole sc_is_whole (List.cons_ne_nil _ _) rfl (fun T kV doc pm an cdv ct us its h1 h2 => match us, its, h1, h2 with | [_], [_], _, _ => ⟨_, rfl, rfl⟩) fun cdv A outer s H E Γ x Γ' hr hR => ?_
  obtain ⟨n, l, rfl, rfl, rfl⟩ := hR
  have e1 : bootBuiltins "int" = some (.type "int") := by decide +kernel
  have e2 : bootBuiltins "bool" = some (.type "bool") := by decide +kernel
  refine sd_ret (px_and (px_isiI (z := true) T.n_isinstance (px_var 0) (px_ty T.n_int e1) (by decide +kernel)) fun _ => px_and (px_not (px_isiI (z := false) T.n_isinstance (px_var 0) (px_ty T.n_bool e2) (by decide +kernel))) fun _ => px_one (px_cmp cr_ge (px_var 0) (px_var 1))) ⟨by simp, .is (.is .nil)⟩
def r_least_rings : DE → Int → DE → Prop := fun Γ x Γ' => ∃ n : Int, 0 ≤ n ∧ n < 2 ^ 61 ∧ Γ = [.is n] ∧ x = (rg n.toNat : Int) ∧ Γ' = Γ
theorem can_least_rings (T : Txt K mg) : Can P w K mg base CX0 1 "least_rings" ps_least_rings [] (spM K (sh Int) 1 r_least_rings) := by
  refine canD T.d_least_rings sc_least_rings b_least_rings fun cdv A outer s H E Γ x Γ' hr hR => ?_
  obtain ⟨n, n0, hn, rfl, rfl, rfl⟩ := hR
  obtain ⟨n, rfl⟩ : ∃ m : Nat, n = (m : Int) := ⟨n.toNat, by omega⟩
  rw [Int.toNat_natCast]
  have e : ∀ k : Nat, ((k : Int) + 1) * ((k : Int) + 2) / 2 = (tri (k + 1) : Int) := fun k => by
    have := tri_int (k + 1)
    rw [← this]
    congr 1
  refine sd_set 1 px_int ?_ sc_least_rings.nd
  refine sd_while (N := fun Γ' => Γ' = [.is (n : Int), .is (rg n : Int)]) (fun k : Nat => [.is (n : Int), .is (k : Int)]) (fun k => tri k ≤ n) (fun k => n - k) (fun k => decide (((k : Int) + 1) * ((k : Int) + 2) / 2 ≤ (n : Int))) 0 (Nat.zero_le _) Wk.refl
    (fun k hk => tx_cmp cr_le (px_div (px_mulL (px_add (px_var 1) px_int) (px_add (px_var 1) px_int) ?_) px_int (div_ok (by decide) (by decide))) (px_var 0)) (fun k hk hb => ?_) (fun k hk hb => ?_) (fun Γ' e => ?_)
  · have := tri_ge k
    exact ⟨by omega, by omega⟩
  · rw [e] at hb
    have hb : (tri (k + 1) : Int) ≤ n := of_decide_eq_true hb
    have := tri_ge (k + 1)
    refine sd_aug ip_add 1 rfl px_int (sd_nil ⟨k + 1, by omega, by omega, ?_⟩) sc_least_rings.nd
    exact .same (.same .nil)
  · rw [e] at hb
    have hb : ¬ (tri (k + 1) : Int) ≤ n := of_decide_eq_false hb
    rw [rg_eq ⟨hk, by omega⟩]
  · subst e
    exact sd_ret (px_var 1) ⟨rfl, .is .nil⟩
end
end L
namespace M
theorem dvd_lt {b k : Int} (hb : 0 < b) (h : b ∣ k) (h1 : -b < k) (h2 : k < b) : k = 0 := by
  obtain ⟨m, rfl⟩ := h
  have : m = 0 := by
    rcases Int.lt_trichotomy m 0 with z | z | z
    · have : b * m ≤ b * (-1) := Int.mul_le_mul_of_nonneg_left (by omega) (by omega)
      omega
    · exact z
    · have : b * 1 ≤ b * m := Int.mul_le_mul_of_nonneg_left (by omega) (by omega)
      omega
  subst this
  omega
theorem dvd_of_mod {b x y : Int} (h : x % b = y % b) : b ∣ x - y := Int.dvd_of_emod_eq_zero (Int.emod_eq_emod_iff_emod_sub_eq_zero.mp h)
theorem mod_of_dvd {b x y : Int} (h : b ∣ x - y) : x % b = y % b := Int.emod_eq_emod_iff_emod_sub_eq_zero.mpr (Int.emod_eq_zero_of_dvd h)
theorem dvd_mod_self (b x : Int) : b ∣ x - x % b := dvd_of_mod (Int.emod_emod _ _).symm
/-- the number that makes one with n, by b -/
def turnedF (n b : Int) : Int := ((((List.range b.toNat).find? fun x : Nat => decide ((n * (x : Int)) % b = 1 % b)).getD 0 : Nat) : Int)
theorem turned_one {n b x : Int} (hb : 1 < b) (h0 : 0 ≤ x) (h1 : x < b) (h : (n * x) % b = 1 % b) : turnedF n b = x := by
  have uniq : ∀ y : Int, 0 ≤ y → y < b → (n * y) % b = 1 % b → y = x := fun y y0 y1 hy => by
    obtain ⟨p, hp⟩ := dvd_of_mod h
    obtain ⟨q, hq⟩ := dvd_of_mod hy
    have d3 : b ∣ y - x := ⟨x * q - y * p, by grind⟩
    have := dvd_lt (by omega) d3 (by omega) (by omega)
    omega
  unfold turnedF
  cases q : (List.range b.toNat).find? fun y : Nat => decide ((n * (y : Int)) % b = 1 % b) with
  | none =>
    have := List.find?_eq_none.mp q x.toNat (List.mem_range.mpr (by omega))
    rw [show ((x.toNat : Nat) : Int) = x by omega] at this
    simp [h] at this
  | some y =>
    have h1 := List.find?_some q
    have h2 := List.mem_range.mp (List.mem_of_find?_eq_some q)
    have h1 : (n * (y : Int)) % b = 1 % b := by simpa using h1
    exact uniq y (by omega) (by omega) h1
theorem bez : ∀ (b a : Nat), ∃ x y : Int, (a : Int) * x + (b : Int) * y = (Nat.gcd a b : Int)
  | 0, a => ⟨1, 0, by simp⟩
  | b + 1, a => by
    have lt : a % (b + 1) < b + 1 := Nat.mod_lt _ (by omega)
    obtain ⟨x, y, h⟩ := bez (a % (b + 1)) (b + 1)
    refine ⟨y, x - (a / (b + 1) : Nat) * y, ?_⟩
    rw [Nat.gcd_comm a, Nat.gcd_rec, Nat.gcd_comm, ← h]
    have e : (a : Int) = ((b + 1 : Nat) : Int) * ((a / (b + 1) : Nat) : Int) + ((a % (b + 1) : Nat) : Int) := by
      have := Nat.div_add_mod a (b + 1)
      rw [← Int.natCast_mul, ← Int.natCast_add, this]
    generalize ((b + 1 : Nat) : Int) = B at *
    generalize ((a / (b + 1) : Nat) : Int) = D at *
    generalize ((a % (b + 1) : Nat) : Int) = R at *
    grind
/-- two numbers by their measure -/
theorem parts_of {e b : Int} (he : 0 < e) (hb : 0 < b) : ∃ g e' b' x y : Int, g = (Int.gcd e b : Int) ∧ 0 < g ∧ 0 < e' ∧ 0 < b' ∧ e = g * e' ∧ b = g * b' ∧ e / g = e' ∧ b / g = b' ∧ e' * x + b' * y = 1 := by
  obtain ⟨n, rfl⟩ : ∃ n : Nat, e = n := ⟨e.toNat, by omega⟩
  obtain ⟨m, rfl⟩ : ∃ m : Nat, b = m := ⟨b.toNat, by omega⟩
  have hg : Int.gcd (n : Int) (m : Int) = Nat.gcd n m := by unfold Int.gcd; simp
  have g0 : 0 < Nat.gcd n m := Nat.gcd_pos_of_pos_left _ (by omega)
  obtain ⟨e', h1⟩ := Nat.gcd_dvd_left n m
  obtain ⟨b', h2⟩ := Nat.gcd_dvd_right n m
  obtain ⟨x, y, h3⟩ := bez m n
  rw [hg]
  generalize Nat.gcd n m = g at *
  have e0 : 0 < e' := Nat.pos_of_ne_zero fun z => by subst z; omega
  have b0 : 0 < b' := Nat.pos_of_ne_zero fun z => by subst z; omega
  refine ⟨g, e', b', x, y, rfl, by omega, by omega, by omega, by rw [h1]; simp, by rw [h2]; simp, ?_, ?_, ?_⟩
  · rw [h1, Int.natCast_mul, Int.mul_ediv_cancel_left _ (by omega)]
  · rw [h2, Int.natCast_mul, Int.mul_ediv_cancel_left _ (by omega)]
  · have : (g : Int) * ((e' : Int) * x + (b' : Int) * y) = (g : Int) * 1 := by
      rw [h1, h2] at h3
      simp only [Int.natCast_mul] at h3
      grind
    exact Int.eq_of_mul_eq_mul_left (by omega) this
theorem turned_is {n b x y : Int} (hb : 1 < b) (h : n * x + b * y = 1) : ∃ k, n * turnedF n b = 1 + b * k := by
  have h1 : (n * (x % b)) % b = 1 % b := by
    refine mod_of_dvd ?_
    obtain ⟨k, hk⟩ := dvd_mod_self b x
    exact ⟨-y - n * k, by grind⟩
  rw [turned_one hb (Int.emod_nonneg _ (by omega)) (Int.emod_lt_of_pos _ (by omega)) h1]
  obtain ⟨k, hk⟩ := dvd_of_mod h1
  exact ⟨k, by omega⟩
/-- two remainders together -/
def joinF (one other : Int × Int) : Option (Int × Int) :=
  if (other.1 - one.1) % (Int.gcd one.2 other.2 : Int) = 0 then
    some ((if 1 < other.2 / (Int.gcd one.2 other.2 : Int) then one.1 + (other.1 - one.1) / (Int.gcd one.2 other.2 : Int) * turnedF (one.2 / (Int.gcd one.2 other.2 : Int)) (other.2 / (Int.gcd one.2 other.2 : Int)) % (other.2 / (Int.gcd one.2 other.2 : Int)) * one.2 else one.1) % (one.2 * (other.2 / (Int.gcd one.2 other.2 : Int))),
      one.2 * (other.2 / (Int.gcd one.2 other.2 : Int)))
  else none
/-- x leaves this remainder -/
def On (p : Int × Int) (x : Int) : Prop := p.2 ∣ x - p.1
theorem join_none {p q : Int × Int} (h : joinF p q = none) (x : Int) : ¬ (On p x ∧ On q x) := by
  rintro ⟨h1, h2⟩
  unfold joinF at h
  split at h
  · cases h
  · rename_i z
    refine z (Int.emod_eq_zero_of_dvd ?_)
    have d1 := Int.dvd_trans (Int.gcd_dvd_left p.2 q.2) h1
    have d2 := Int.dvd_trans (Int.gcd_dvd_right p.2 q.2) h2
    have := Int.dvd_sub d1 d2
    rw [show x - p.1 - (x - q.1) = q.1 - p.1 by omega] at this
    exact this
theorem lcm_dvd_iff {e b e' b' g x y : Int} (h1 : e = g * e') (h2 : b = g * b') (g0 : 0 < g) (h3 : e' * x + b' * y = 1) (z : Int) : e * b' ∣ z ↔ e ∣ z ∧ b ∣ z := by
  constructor
  · rintro ⟨k, rfl⟩
    exact ⟨⟨b' * k, by grind⟩, ⟨e' * k, by grind⟩⟩
  · rintro ⟨⟨k, rfl⟩, ⟨l, hl⟩⟩
    have e1 : g * (e' * k) = g * (b' * l) := by grind
    have e2 := Int.eq_of_mul_eq_mul_left (by omega) e1
    exact ⟨l * x + y * k, by grind⟩
theorem join_some {p q f : Int × Int} (hp : 0 < p.2) (hq : 0 < q.2) (h : joinF p q = some f) : 0 < f.2 ∧ f.2 = lcm1 p.2 q.2 ∧ 0 ≤ f.1 ∧ f.1 < f.2 ∧ ∀ x, On f x ↔ On p x ∧ On q x := by
  obtain ⟨r, e⟩ := p
  obtain ⟨d, b⟩ := q
  obtain ⟨g, e', b', x, y, hg, g0, e0, b0, h1, h2, h3, h4, h5⟩ := parts_of hp hq
  unfold joinF at h
  simp only at h hp hq h1 h2 h3 h4 hg
  rw [← hg, h3, h4] at h
  split at h
  · rename_i hz
    have h := (Option.some.inj h).symm
    subst h
    have E0 : 0 < e * b' := Int.mul_pos hp b0
    obtain ⟨t, ht⟩ := Int.dvd_of_emod_eq_zero hz
    have hdiv : (d - r) / g = t := by rw [ht]; exact Int.mul_ediv_cancel_left _ (by omega)
    rw [hdiv]
    have key : ∃ R, (if 1 < b' then r + t * turnedF e' b' % b' * e else r) = R ∧ e ∣ R - r ∧ b ∣ R - d := by
      refine ⟨_, rfl, ?_⟩
      split
      · rename_i hb
        obtain ⟨k, hk⟩ := turned_is hb h5
        obtain ⟨l, hl⟩ := dvd_mod_self b' (t * turnedF e' b')
        generalize t * turnedF e' b' % b' = w at *
        generalize turnedF e' b' = v at *
        refine ⟨⟨w, by grind⟩, ⟨t * k - e' * l, ?_⟩⟩
        have a1 : w = t * v - b' * l := by omega
        have a2 : r + w * e - d = w * e - g * t := by omega
        rw [a2, a1, h1, h2]
        have a3 : (t * v - b' * l) * (g * e') = g * t * (e' * v) - g * b' * l * e' := by grind
        rw [a3, hk]
        grind
      · rename_i hb
        have : b' = 1 := by omega
        subst this
        exact ⟨⟨0, by omega⟩, ⟨-t, by grind⟩⟩
    obtain ⟨R, hR, k1, k2⟩ := key
    rw [hR]
    have base := dvd_mod_self (e * b') R
    refine ⟨E0, ?_, Int.emod_nonneg _ (by omega), Int.emod_lt_of_pos _ E0, fun z => ?_⟩
    · unfold lcm1
      show e * b' = e / (Int.gcd e b : Int) * b
      rw [← hg, h3, h1, h2]
      grind
    · show e * b' ∣ z - R % (e * b') ↔ e ∣ z - r ∧ b ∣ z - d
      have s1 : e * b' ∣ z - R % (e * b') ↔ e * b' ∣ z - R := by
        obtain ⟨k, hk⟩ := base
        constructor
        · rintro ⟨l, hl⟩; exact ⟨l - k, by grind⟩
        · rintro ⟨l, hl⟩; exact ⟨l + k, by grind⟩
      rw [s1, lcm_dvd_iff h1 h2 g0 h5]
      constructor
      · rintro ⟨u1, u2⟩
        exact ⟨by have := Int.dvd_add u1 k1; rwa [show z - R + (R - r) = z - r by omega] at this, by have := Int.dvd_add u2 k2; rwa [show z - R + (R - d) = z - d by omega] at this⟩
      · rintro ⟨u1, u2⟩
        exact ⟨by have := Int.dvd_sub u1 k1; rwa [show z - r - (R - r) = z - R by omega] at this, by have := Int.dvd_sub u2 k2; rwa [show z - d - (R - d) = z - R by omega] at this⟩
  · cases h
/-- there is one such alone -/
theorem join_one {p q : Int × Int} {R : Int} (hp : 0 < p.2) (hq : 0 < q.2) (h1 : On p R) (h2 : On q R) (h3 : 0 ≤ R) (h4 : R < lcm1 p.2 q.2) : joinF p q = some (R, lcm1 p.2 q.2) := by
  cases h : joinF p q with
  | none => exact absurd ⟨h1, h2⟩ (join_none h R)
  | some f =>
    obtain ⟨a, b, c, d, i⟩ := join_some hp hq h
    have z : f.2 ∣ R - f.1 := (i R).mpr ⟨h1, h2⟩
    have := dvd_lt a z (by omega) (by omega)
    obtain ⟨f1, f2⟩ := f
    simp only at *
    rw [b, show f1 = R by omega]
/-- many of them -/
def joinL : List (Int × Int) → Int × Int → Option (Int × Int)
  | [], f => some f
  | p :: ps, f => match joinF f p with
    | none => none
    | some g => joinL ps g
def allJ (ps : List (Int × Int)) : Option (Int × Int) := joinL ps (0, 1)
theorem joinL_some : ∀ {ps : List (Int × Int)} {f g : Int × Int}, 0 < f.2 → 0 ≤ f.1 → f.1 < f.2 → (∀ p ∈ ps, 0 < p.2) → joinL ps f = some g → 0 < g.2 ∧ g.2 = (ps.map (·.2)).foldl lcm1 f.2 ∧ 0 ≤ g.1 ∧ g.1 < g.2 ∧ ∀ x, On g x ↔ On f x ∧ ∀ p ∈ ps, On p x
  | [], f, g, h1, h2, h3, _, h => by
    cases (Option.some.inj h : f = g)
    exact ⟨h1, rfl, h2, h3, fun x => by simp⟩
  | p :: ps, f, g, h1, h2, h3, hp, h => by
    unfold joinL at h
    cases q : joinF f p with
    | none => rw [q] at h; cases h
    | some k =>
      rw [q] at h
      obtain ⟨a, b, c, d, i⟩ := join_some h1 (hp p List.mem_cons_self) q
      obtain ⟨a2, b2, c2, d2, i2⟩ := joinL_some a c d (fun u hu => hp u (List.mem_cons_of_mem _ hu)) h
      refine ⟨a2, by rw [b2, b]; rfl, c2, d2, fun x => ?_⟩
      rw [i2, i, List.forall_mem_cons, and_assoc]
theorem joinL_none : ∀ {ps : List (Int × Int)} {f : Int × Int}, 0 < f.2 → 0 ≤ f.1 → f.1 < f.2 → (∀ p ∈ ps, 0 < p.2) → joinL ps f = none → ∀ x, ¬ (On f x ∧ ∀ p ∈ ps, On p x)
  | [], f, _, _, _, _, h => by cases h
  | p :: ps, f, h1, h2, h3, hp, h => by
    unfold joinL at h
    rintro x ⟨u, v⟩
    cases q : joinF f p with
    | none => exact join_none q x ⟨u, v p List.mem_cons_self⟩
    | some k =>
      rw [q] at h
      obtain ⟨a, b, c, d, i⟩ := join_some h1 (hp p List.mem_cons_self) q
      exact joinL_none a c d (fun u hu => hp u (List.mem_cons_of_mem _ hu)) h x ⟨(i x).mpr ⟨u, v p List.mem_cons_self⟩, fun w hw => v w (List.mem_cons_of_mem _ hw)⟩
theorem joinL_app : ∀ (ps qs : List (Int × Int)) (f : Int × Int), joinL (ps ++ qs) f = (joinL ps f).bind (joinL qs)
  | [], _, _ => rfl
  | p :: ps, qs, f => by
    rw [List.cons_append, joinL, joinL]
    cases joinF f p with
    | none => rfl
    | some g => exact joinL_app ps qs g
/-- stepped out -/
theorem step_some {r e d b t : Int} (he : 0 < e) (hb : 0 < b) (hd : (r + t * e) % b = d) : joinF (r, e) (d, b) = some ((r + t * e) % lcm1 e b, lcm1 e b) := by
  have L0 := lcm1_pos he hb
  obtain ⟨g, e', b', x, y, hg, g0, e0, b0, h1, h2, h3, h4, h5⟩ := parts_of he hb
  have hL : lcm1 e b = e * b' := by
    unfold lcm1
    rw [← hg, h3, h1, h2]
    grind
  obtain ⟨k, hk⟩ := dvd_mod_self (lcm1 e b) (r + t * e)
  obtain ⟨l, hl⟩ := dvd_mod_self b (r + t * e)
  rw [hd] at hl
  generalize hR : (r + t * e) % lcm1 e b = R at *
  have R0 : 0 ≤ R := by rw [← hR]; exact Int.emod_nonneg _ (by omega)
  have R1 : R < lcm1 e b := by rw [← hR]; exact Int.emod_lt_of_pos _ L0
  refine join_one he hb ⟨t - b' * k, ?_⟩ ⟨l - e' * k, ?_⟩ R0 R1
  · show R - r = _
    rw [hL] at hk
    grind
  · show R - d = _
    rw [hL] at hk
    grind
theorem step_none {r e d b : Int} (he : 0 < e) (hb : 0 < b) (r0 : 0 ≤ r) (r1 : r < e) (hd : ∀ t : Nat, (t : Int) < b → (r + t * e) % b ≠ d) (d0 : 0 ≤ d) (d1 : d < b) : joinF (r, e) (d, b) = none := by
  cases h : joinF (r, e) (d, b) with
  | none => rfl
  | some f =>
    exfalso
    obtain ⟨a, _, c, _, i⟩ := join_some he hb h
    obtain ⟨⟨m, hm⟩, h2⟩ := (i f.1).mp ⟨0, by omega⟩
    have hm : f.1 - r = e * m := hm
    have h2 : b ∣ f.1 - d := h2
    have m0 : 0 ≤ m := by
      rcases Int.lt_or_le m 0 with z | z
      · have : e * m ≤ e * (-1) := Int.mul_le_mul_of_nonneg_left (by omega) (by omega)
        omega
      · exact z
    have t0 : 0 ≤ m % b := Int.emod_nonneg _ (by omega)
    have t1 : m % b < b := Int.emod_lt_of_pos _ hb
    refine hd (m % b).toNat (by omega) ?_
    rw [show (((m % b).toNat : Nat) : Int) = m % b by omega]
    obtain ⟨k, hk⟩ := dvd_mod_self b m
    obtain ⟨l, hl⟩ := h2
    have : b ∣ (r + m % b * e) - d := ⟨l - k * e, by grind⟩
    rw [mod_of_dvd this, Int.emod_eq_of_lt d0 d1]
end M
namespace M
section
variable {α : Type}
/-- a day -/
def behind (S : List (List α)) : List (List α) := if S.isEmpty then [] else S.filterMap List.head? :: (S.filter fun c => decide (1 < c.length)).map List.tail
/-- .. with the empty companies kept -/
def stepA (A : List (List α)) : List (List α) := A.filterMap List.head? :: A.map List.tail
def clean (A : List (List α)) : List (List α) := A.filter fun c => !c.isEmpty
theorem clean_heads : ∀ A : List (List α), (clean A).filterMap List.head? = A.filterMap List.head?
  | [] => rfl
  | [] :: r => by
    show (clean r).filterMap List.head? = _
    rw [clean_heads r]; rfl
  | (x :: c) :: r => by
    show ((x :: c) :: clean r).filterMap List.head? = _
    rw [List.filterMap_cons, List.filterMap_cons, clean_heads r]
theorem clean_tails : ∀ A : List (List α), ((clean A).filter fun c => decide (1 < c.length)).map List.tail = clean (A.map List.tail)
  | [] => rfl
  | [] :: r => by
    show ((clean r).filter _).map _ = clean ([] :: r.map List.tail)
    rw [clean_tails r]; rfl
  | [x] :: r => by
    show (([x] :: clean r).filter _).map _ = clean ([] :: r.map List.tail)
    rw [List.filter_cons, if_neg (by simp), clean_tails r]; rfl
  | (x :: y :: c) :: r => by
    show (((x :: y :: c) :: clean r).filter _).map _ = clean ((y :: c) :: r.map List.tail)
    rw [List.filter_cons, if_pos (by simp), List.map_cons, clean_tails r]; rfl
theorem clean_nil {A : List (List α)} (h : clean A = []) : A.filterMap List.head? = [] ∧ clean (A.map List.tail) = [] := by
  have h1 := clean_heads A
  have h2 := clean_tails A
  rw [h] at h1 h2
  exact ⟨h1.symm, h2.symm⟩
theorem behind_clean (A : List (List α)) : behind (clean A) = clean (stepA A) := by
  unfold behind
  by_cases h : clean A = []
  · rw [h]
    show [] = clean (stepA A)
    obtain ⟨h1, h2⟩ := clean_nil h
    unfold stepA
    rw [h1]
    show _ = clean (A.map List.tail)
    rw [h2]
  · rw [if_neg (by simpa using h), clean_heads, clean_tails]
    unfold stepA
    have hne : A.filterMap List.head? ≠ [] := by
      intro z
      apply h
      unfold clean
      rw [List.filter_eq_nil_iff]
      intro c hc
      have := List.filterMap_eq_nil_iff.mp z c hc
      cases c with
      | nil => simp
      | cons x r => cases this
    show _ = List.filter _ (_ :: _)
    rw [List.filter_cons, if_pos (by cases q : A.filterMap List.head? with | nil => exact absurd q hne | cons _ _ => rfl)]
    rfl
/-- the place p of the company of age a -/
def cell (A : List (List α)) (a p : Nat) : Option α := (A[a]?).bind (·[p]?)
theorem cell_succ (A : List (List α)) (a p : Nat) : cell (stepA A) (a + 1) p = cell A a (p + 1) := by
  unfold cell stepA
  rw [List.getElem?_cons_succ, List.getElem?_map]
  cases A[a]? with
  | none => rfl
  | some c => cases c <;> simp
theorem cell_zero (A : List (List α)) (p : Nat) : cell (stepA A) 0 p = (A.filterMap List.head?)[p]? := rfl
def cnt (A : List (List α)) : Nat := (A.filterMap List.head?).length
theorem cnt_append (A B : List (List α)) : cnt (A ++ B) = cnt A + cnt B := by unfold cnt; rw [List.filterMap_append, List.length_append]
theorem cnt_le (A : List (List α)) : cnt A ≤ A.length := List.length_filterMap_le ..
theorem cnt_full : ∀ (L : Nat) (A : List (List α)), (∀ a, a < L → (cell A a 0).isSome) → L ≤ cnt (A.take L)
  | 0, _, _ => Nat.zero_le _
  | L + 1, [], h => by have := h 0 (by omega); simp [cell] at this
  | L + 1, c :: r, h => by
    have h0 := h 0 (by omega)
    have ih := cnt_full L r fun a ha => by simpa [cell] using h (a + 1) (by omega)
    cases c with
    | nil => simp [cell] at h0
    | cons x c =>
      show L + 1 ≤ (((x :: c) :: r.take L).filterMap List.head?).length
      rw [List.filterMap_cons]
      unfold cnt at ih
      simp only [List.head?_cons, List.length_cons]
      omega
theorem cnt_split (L : Nat) (A : List (List α)) : cnt A = cnt (A.take L) + cnt (A.drop L) := by rw [← cnt_append, List.take_append_drop]
theorem cnt_ge {L : Nat} {A : List (List α)} (h : ∀ a, a < L → (cell A a 0).isSome) : L ≤ cnt A := by
  have := cnt_full L A h
  rw [cnt_split L A]; omega
theorem cnt_pos {A : List (List α)} {j : Nat} (h : (cell A j 0).isSome) : 0 < cnt A := by
  unfold cell at h
  cases q : A[j]? with
  | none => rw [q] at h; cases h
  | some c =>
    rw [q] at h
    unfold cnt
    have hm := List.mem_of_getElem? q
    cases c with
    | nil => cases h
    | cons x c =>
      have : x ∈ A.filterMap List.head? := List.mem_filterMap.mpr ⟨_, hm, rfl⟩
      exact List.length_pos_of_mem this
theorem cnt_more {L j : Nat} {A : List (List α)} (h : ∀ a, a < L → (cell A a 0).isSome) (hj : L ≤ j) (h2 : (cell A j 0).isSome) : L + 1 ≤ cnt A := by
  have h1 := cnt_full L A h
  have h3 : 0 < cnt (A.drop L) := cnt_pos (j := j - L) (by
    unfold cell at h2 ⊢
    rw [List.getElem?_drop, show L + (j - L) = j by omega]
    exact h2)
  rw [cnt_split L A]; omega
theorem cnt_zero : ∀ {A : List (List α)}, (∀ a, cell A a 0 = none) → cnt A = 0
  | [], _ => rfl
  | c :: r, h => by
    have h0 := h 0
    have ih := cnt_zero (A := r) fun a => by simpa [cell] using h (a + 1)
    cases c with
    | nil => exact ih
    | cons x c => simp [cell] at h0
theorem cnt_few {L : Nat} {A : List (List α)} (h : ∀ a, L ≤ a → cell A a 0 = none) : cnt A ≤ L := by
  have h1 := cnt_le (A.take L)
  rw [List.length_take] at h1
  have h2 : cnt (A.drop L) = 0 := cnt_zero fun a => by
    have := h (L + a) (by omega)
    unfold cell at this ⊢
    rw [List.getElem?_drop]; exact this
  rw [cnt_split L A]; omega
/-- so many days on -/
def itA : Nat → List (List α) → List (List α)
  | 0, A => A
  | n + 1, A => stepA (itA n A)
def it : Nat → List (List α) → List (List α)
  | 0, S => S
  | n + 1, S => behind (it n S)
theorem it_clean (A : List (List α)) : ∀ n, it n (clean A) = clean (itA n A)
  | 0 => rfl
  | n + 1 => by
    show behind (it n (clean A)) = clean (stepA (itA n A))
    rw [it_clean A n, behind_clean]
theorem it_add (S : List (List α)) (m : Nat) : ∀ n, it (m + n) S = it n (it m S)
  | 0 => rfl
  | n + 1 => congrArg behind (it_add S m n)
theorem cell_later (A : List (List α)) (d a p : Nat) : ∀ i, cell (itA (d + i) A) (a + i) p = cell (itA d A) a (p + i)
  | 0 => rfl
  | i + 1 => by
    show cell (stepA (itA (d + i) A)) (a + i + 1) p = _
    rw [cell_succ, cell_later A d a (p + 1) i, Nat.add_right_comm, Nat.add_assoc]
/-- whether the company of age l has a first one -/
def hd (A : List (List α)) (d l : Nat) : Bool := (cell (itA d A) l 0).isSome
theorem cell_hd (A : List (List α)) (d a p : Nat) : (cell (itA d A) a p).isSome = hd A (d + p) (a + p) := by
  unfold hd
  rw [cell_later A d a 0 p, Nat.zero_add]
theorem hd_step (A : List (List α)) (d l : Nat) : hd A (d + l + 1) l = decide (l < cnt (itA d A)) := by
  have := cell_later A (d + 1) 0 0 l
  unfold hd
  rw [show d + l + 1 = d + 1 + l by omega, show cell (itA (d + 1 + l) A) l 0 = cell (itA (d + 1 + l) A) (0 + l) 0 by rw [Nat.zero_add], this, Nat.zero_add]
  show (cell (stepA (itA d A)) 0 l).isSome = _
  rw [cell_zero]
  unfold cnt
  by_cases h : l < ((itA d A).filterMap List.head?).length
  · rw [List.getElem?_eq_getElem h]; simp [h]
  · rw [List.getElem?_eq_none (by omega)]; simp [h]
end
/-- how the heads of companies by their ages go: c d of them on day d -/
structure Heads (h : Nat → Nat → Bool) (c : Nat → Nat) (N : Nat) : Prop where
  step : ∀ d l, h (d + l + 1) l = decide (l < c d)
  ge : ∀ d L, (∀ a, a < L → h d a = true) → L ≤ c d
  more : ∀ d L j, (∀ a, a < L → h d a = true) → L ≤ j → h d j = true → L + 1 ≤ c d
  few : ∀ d L, (∀ a, L ≤ a → h d a = false) → c d ≤ L
  bound : ∀ d l, h d l = true → l < N
section
variable {h : Nat → Nat → Bool} {c : Nat → Nat} {N : Nat}
def holes (h : Nat → Nat → Bool) (l s : Nat) : Nat := ((List.range' s (l + 1)).filter fun d => !h d l).length
theorem holes_succ (l s : Nat) : holes h l (s + 1) + (if h s l = true then 0 else 1) = holes h l s + (if h (s + l + 1) l = true then 0 else 1) := by
  unfold holes
  have e1 : List.range' s (l + 1) = s :: List.range' (s + 1) l := List.range'_succ ..
  have e2 : List.range' (s + 1) (l + 1) = List.range' (s + 1) l ++ [s + l + 1] := by
    rw [List.range'_concat]; congr 2; omega
  rw [e1, e2, List.filter_append, List.length_append]
  simp only [List.filter_cons, List.filter_nil]
  cases h1 : h s l <;> cases h2 : h (s + l + 1) l <;> simp <;> omega
theorem holes_full {l s : Nat} (z : holes h l s = 0) : ∀ d, s ≤ d → d ≤ s + l → h d l = true := by
  intro d h1 h2
  unfold holes at z
  have z := List.eq_nil_of_length_eq_zero z
  rw [List.filter_eq_nil_iff] at z
  have := z d (by rw [List.mem_range'_1]; omega)
  simpa using this
theorem holes_le (l s : Nat) : holes h l s ≤ l + 1 := by
  unfold holes
  have := List.length_filter_le (fun d => !h d l) (List.range' s (l + 1))
  rwa [List.length_range'] at this
variable (H : Heads h c N) {t l : Nat} (hf : ∀ j, j < l → ∀ d, t ≤ d → h d j = true)
include H hf
theorem keeps {d : Nat} (hd : t ≤ d) (hh : h d l = true) : h (d + l + 1) l = true := by
  rw [H.step]
  exact decide_eq_true (H.more d l l (fun a ha => hf a ha d hd) (Nat.le_refl _) hh)
theorem fills {d j : Nat} (hd : t ≤ d) (hj : l < j) (hh : h d j = true) : h (d + l + 1) l = true := by
  rw [H.step]
  exact decide_eq_true (H.more d l j (fun a ha => hf a ha d hd) (Nat.le_of_lt hj) hh)
theorem drops {d j : Nat} (hd : t ≤ d) (hj : l < j) (hl : h d l = true) (hh : h d j = true) : h (d + l + 2) (l + 1) = true := by
  have := H.step d (l + 1)
  rw [show d + (l + 1) + 1 = d + l + 2 by omega] at this
  rw [this]
  refine decide_eq_true (H.more d (l + 1) j (fun a ha => ?_) hj hh)
  by_cases z : a = l
  · rw [z]; exact hl
  · exact hf a (by omega) d hd
theorem holes_mono {s : Nat} (hs : t ≤ s) : holes h l (s + 1) ≤ holes h l s := by
  have e := holes_succ (h := h) l s
  cases h1 : h s l with
  | true =>
    rw [keeps H hf hs h1, h1] at e
    simp at e; omega
  | false =>
    rw [h1] at e
    simp at e
    split at e <;> omega
theorem holes_monoN {s : Nat} (hs : t ≤ s) : ∀ i, holes h l (s + i) ≤ holes h l s
  | 0 => Nat.le_refl _
  | i + 1 => Nat.le_trans (holes_mono H hf (s := s + i) (by omega)) (holes_monoN hs i)
theorem holes_less {s : Nat} (hs : t ≤ s) (h1 : h s l = false) (h2 : h (s + l + 1) l = true) : holes h l (s + 1) < holes h l s := by
  have e := holes_succ (h := h) l s
  rw [h1, h2] at e
  simp at e; omega
/-- nobody above ring l + 1 -/
def NoneAbove (h : Nat → Nat → Bool) (l s : Nat) : Prop := ∀ j, l < j → ∀ d, s ≤ d → h d j = false
/-- the days within which a hole is filled -/
def win (N l : Nat) : Nat := N + (l + 2) * (l + 2)
theorem fill_one {s : Nat} (hs : t ≤ s) : NoneAbove h l s ∨ holes h l s = 0 ∨ holes h l (s + win N l) < holes h l s := by
  by_cases ht : ∃ j, l < j ∧ ∃ d, s ≤ d ∧ d ≤ s + j ∧ h d j = true
  · refine .inr ?_
    by_cases hz : holes h l s = 0
    · exact .inl hz
    refine .inr (Nat.lt_of_not_le fun hle => ?_)
    -- no hole is filled in the window
    have same : ∀ d, s ≤ d → d < s + win N l → h d l = false → h (d + l + 1) l = false := fun d h1 h2 h3 => by
      cases q : h (d + l + 1) l with
      | false => rfl
      | true =>
        exfalso
        have a := holes_less H hf (s := d) (by omega) h3 q
        have b := holes_monoN H hf (s := s) hs (d - s)
        rw [show s + (d - s) = d by omega] at b
        have e := holes_monoN H hf (s := d + 1) (by omega) (s + win N l - (d + 1))
        rw [show d + 1 + (s + win N l - (d + 1)) = s + win N l by omega] at e
        omega
    obtain ⟨j, hj, d, d0, d1, hd⟩ := ht
    have jN := H.bound d j hd
    have hw : win N l = N + (l + 2) * (l + 2) := rfl
    have e4 : (l + 2) * (l + 2) = l * (l + 2) + 2 * (l + 2) := by rw [Nat.add_mul]
    -- the token at d stands over a place that is taken
    have hdl : h d l = true := by
      cases q : h d l with
      | true => rfl
      | false =>
        exfalso
        have := same d d0 (by omega) q
        rw [fills H hf (by omega) hj hd] at this
        cases this
    have tok : ∀ i, i ≤ l → h (d + l + 2 + i * (l + 2)) (l + 1) = true ∧ h (d + l + 2 + i * (l + 2)) l = true := by
      intro i
      induction i with
      | zero =>
        intro _
        rw [Nat.zero_mul, Nat.add_zero]
        have t0 := drops H hf (by omega) hj hdl hd
        refine ⟨t0, ?_⟩
        cases q : h (d + l + 2) l with
        | true => rfl
        | false =>
          exfalso
          have := same _ (by omega) (by omega) q
          rw [fills H hf (by omega) (Nat.lt_succ_self l) t0] at this
          cases this
      | succ i ih =>
        intro hi
        obtain ⟨t0, t1⟩ := ih (by omega)
        have e5 : (i + 1) * (l + 2) = i * (l + 2) + (l + 2) := Nat.succ_mul ..
        have e6 : (i + 1) * (l + 2) ≤ l * (l + 2) := Nat.mul_le_mul_right _ hi
        have t2 := drops H hf (d := d + l + 2 + i * (l + 2)) (by omega) (Nat.lt_succ_self l) t1 t0
        rw [show d + l + 2 + i * (l + 2) + l + 2 = d + l + 2 + (i + 1) * (l + 2) by omega] at t2
        refine ⟨t2, ?_⟩
        cases q : h (d + l + 2 + (i + 1) * (l + 2)) l with
        | true => rfl
        | false =>
          exfalso
          have := same _ (by omega) (by omega) q
          rw [fills H hf (by omega) (Nat.lt_succ_self l) t2] at this
          cases this
    -- the hole
    have hx : ∃ x, s ≤ x ∧ x ≤ s + l ∧ h x l = false := by
      unfold holes at hz
      have : ∃ x, x ∈ (List.range' s (l + 1)).filter fun d => !h d l := by
        cases q : (List.range' s (l + 1)).filter fun d => !h d l with
        | nil => rw [q] at hz; exact absurd rfl hz
        | cons x r => exact ⟨x, List.mem_cons_self⟩
      obtain ⟨x, hx⟩ := this
      rw [List.mem_filter, List.mem_range'_1] at hx
      exact ⟨x, hx.1.1, by omega, by simpa using hx.2⟩
    obtain ⟨x, x0, x1, hx⟩ := hx
    have far : ∀ k, x + k * (l + 1) ≤ s + win N l → h (x + k * (l + 1)) l = false := by
      intro k
      induction k with
      | zero => intro _; simpa using hx
      | succ k ih =>
        intro hk
        have e5 : (k + 1) * (l + 1) = k * (l + 1) + (l + 1) := Nat.succ_mul ..
        have := same _ (by omega) (by omega) (ih (by omega))
        rw [show x + k * (l + 1) + l + 1 = x + (k + 1) * (l + 1) by omega] at this
        exact this
    -- where they meet
    let e := d + l + 2
    have he : x ≤ e := by show x ≤ d + l + 2; omega
    let i := (l + 1 - (e - x) % (l + 1)) % (l + 1)
    have hi : i ≤ l := by
      have := Nat.mod_lt (l + 1 - (e - x) % (l + 1)) (show 0 < l + 1 by omega)
      show (l + 1 - (e - x) % (l + 1)) % (l + 1) ≤ l
      omega
    have hm : (e - x + i) % (l + 1) = 0 := by
      show (e - x + (l + 1 - (e - x) % (l + 1)) % (l + 1)) % (l + 1) = 0
      have hlt := Nat.mod_lt (e - x) (show 0 < l + 1 by omega)
      rw [Nat.add_mod, Nat.mod_mod, ← Nat.add_mod]
      have e7 := Nat.div_add_mod (e - x) (l + 1)
      rw [show e - x + (l + 1 - (e - x) % (l + 1)) = (l + 1) * ((e - x) / (l + 1)) + (l + 1) by omega, ← Nat.mul_succ, Nat.mul_mod_right]
    obtain ⟨k, hk⟩ := Nat.dvd_of_mod_eq_zero hm
    obtain ⟨_, t1⟩ := tok i hi
    have e8 : i * (l + 2) = i * (l + 1) + i := by rw [show l + 2 = (l + 1) + 1 by omega, Nat.mul_succ]
    have e9 : i * (l + 2) ≤ l * (l + 2) := Nat.mul_le_mul_right _ hi
    have e10 : (k + i) * (l + 1) = (l + 1) * k + i * (l + 1) := by rw [Nat.add_mul, Nat.mul_comm k]
    have pe : x + (k + i) * (l + 1) = d + l + 2 + i * (l + 2) := by
      have : e = d + l + 2 := rfl
      omega
    have := far (k + i) (by omega)
    rw [pe, t1] at this
    cases this
  · refine .inl ?_
    intro j
    -- by the day
    suffices key : ∀ n d, d < n → s ≤ d → ∀ j, l < j → h d j = false from fun hj d hd => key (d + 1) d (Nat.lt_succ_self _) hd j hj
    intro n
    induction n with
    | zero => intro d hd; omega
    | succ n ih =>
      intro d hd hs2 j hj
      cases q : h d j with
      | false => rfl
      | true =>
        exfalso
        by_cases z : d ≤ s + j
        · exact ht ⟨j, hj, d, hs2, z, q⟩
        · have e1 := H.step (d - j - 1) j
          rw [show d - j - 1 + j + 1 = d by omega, q] at e1
          have e2 : j < c (d - j - 1) := of_decide_eq_true e1.symm
          have e3 := H.few (d - j - 1) (l + 1) fun a ha => ih _ (by omega) (by omega) a ha
          omega
theorem fill_all : ∀ (m s : Nat), t ≤ s → holes h l s ≤ m → ∃ s', s ≤ s' ∧ s' ≤ s + m * win N l ∧ (NoneAbove h l s' ∨ holes h l s' = 0)
  | 0, s, hs, hm => ⟨s, Nat.le_refl _, by omega, .inr (by omega)⟩
  | m + 1, s, hs, hm => by
    rcases fill_one H hf hs with z | z | z
    · exact ⟨s, Nat.le_refl _, by omega, .inl z⟩
    · exact ⟨s, Nat.le_refl _, by omega, .inr z⟩
    · obtain ⟨s', h1, h2, h3⟩ := fill_all m (s + win N l) (by omega) (by omega)
      have : (m + 1) * win N l = m * win N l + win N l := Nat.succ_mul ..
      exact ⟨s', by omega, by omega, h3⟩
theorem full_of {s : Nat} (hs : t ≤ s) (z : holes h l s = 0) : ∀ d, s ≤ d → h d l = true := by
  suffices key : ∀ n d, d < n → s ≤ d → h d l = true from fun d hd => key (d + 1) d (Nat.lt_succ_self _) hd
  intro n
  induction n with
  | zero => intro d hd; omega
  | succ n ih =>
    intro d hd h1
    by_cases q : d ≤ s + l
    · exact holes_full z d h1 q
    · have := keeps H hf (d := d - l - 1) (by omega) (ih _ (by omega) (by omega))
      rwa [show d - l - 1 + l + 1 = d by omega] at this
omit hf
/-- the days to the end, at most -/
def days (N : Nat) : Nat → Nat
  | 0 => 0
  | l + 1 => days N l + (l + 1) * win N l
/-- either all rings below are full, or it is settled below -/
theorem settles : ∀ L, (∃ l t, l < L ∧ t ≤ days N L ∧ (∀ j, j < l → ∀ d, t ≤ d → h d j = true) ∧ NoneAbove h l t) ∨ ∃ t, t ≤ days N L ∧ ∀ j, j < L → ∀ d, t ≤ d → h d j = true
  | 0 => .inr ⟨0, Nat.le_refl _, fun j hj => by omega⟩
  | L + 1 => by
    have hl : days N L ≤ days N (L + 1) := Nat.le_add_right _ _
    rcases settles L with ⟨l, t, a, b, f, n⟩ | ⟨t, b, f⟩
    · exact .inl ⟨l, t, by omega, by omega, f, n⟩
    · obtain ⟨s, s0, s1, z⟩ := fill_all H f (L + 1) t (Nat.le_refl _) (holes_le L t)
      have hd : days N (L + 1) = days N L + (L + 1) * win N L := rfl
      rcases z with z | z
      · exact .inl ⟨L, s, Nat.lt_succ_self _, by omega, fun j hj d hd => f j hj d (by omega), z⟩
      · refine .inr ⟨s, by omega, fun j hj d hd => ?_⟩
        by_cases q : j = L
        · rw [q]; exact full_of H f s0 z d hd
        · exact f j (by omega) d (by omega)
end
end M
namespace M
section
variable {α : Type}
def total (S : List (List α)) : Nat := (S.map List.length).sum
theorem total_cons (c : List α) (S : List (List α)) : total (c :: S) = c.length + total S := by unfold total; rw [List.map_cons, List.sum_cons]
theorem total_stepA : ∀ A : List (List α), total (stepA A) = total A
  | [] => rfl
  | [] :: r => by
    have ih := total_stepA r
    unfold stepA at ih ⊢
    rw [total_cons] at ih ⊢
    rw [List.map_cons, total_cons, total_cons]
    show ((List.filterMap List.head? r).length) + (0 + _) = 0 + _
    omega
  | (x :: c) :: r => by
    have ih := total_stepA r
    unfold stepA at ih ⊢
    rw [total_cons] at ih ⊢
    rw [List.map_cons, total_cons, total_cons, List.filterMap_cons]
    simp only [List.head?_cons, List.length_cons, List.tail_cons]
    omega
theorem total_itA (A : List (List α)) : ∀ n, total (itA n A) = total A
  | 0 => rfl
  | n + 1 => by rw [← total_itA A n]; exact total_stepA _
theorem total_clean : ∀ A : List (List α), total (clean A) = total A
  | [] => rfl
  | [] :: r => by
    show total (clean r) = _
    rw [total_clean r, total_cons]; simp
  | (x :: c) :: r => by
    show total ((x :: c) :: clean r) = _
    rw [total_cons, total_cons, total_clean r]
/-- no company is empty -/
def Full (S : List (List α)) : Prop := ∀ c ∈ S, c ≠ []
theorem clean_full {S : List (List α)} (h : Full S) : clean S = S := by
  unfold clean
  rw [List.filter_eq_self]
  intro c hc
  have := h c hc
  cases c with
  | nil => exact absurd rfl this
  | cons _ _ => rfl
theorem full_clean (A : List (List α)) : Full (clean A) := fun c hc => by
  unfold clean at hc
  have := (List.mem_filter.mp hc).2
  intro z
  rw [z] at this
  cases this
theorem full_it {S : List (List α)} (h : Full S) (n : Nat) : Full (it n S) := by
  rw [← clean_full h, it_clean]
  exact full_clean _
theorem total_it {S : List (List α)} (h : Full S) (n : Nat) : total (it n S) = total S := by
  rw [← clean_full h, it_clean, total_clean, total_itA, total_clean]
theorem cnt_total (A : List (List α)) : cnt A ≤ total A := by
  have := total_stepA A
  unfold stepA at this
  rw [total_cons] at this
  unfold cnt; omega
theorem cell_lt : ∀ {A : List (List α)}, Full A → ∀ {a p : Nat}, (cell A a p).isSome → a + p < total A
  | [], _, a, p, h => by simp [cell] at h
  | c :: r, hf, 0, p, h => by
    have h : p < c.length := by
      unfold cell at h
      rw [List.getElem?_cons_zero] at h
      by_cases z : p < c.length
      · exact z
      · rw [Option.bind_some, List.getElem?_eq_none (by omega)] at h; cases h
    rw [total_cons]; omega
  | c :: r, hf, a + 1, p, h => by
    have ih := cell_lt (A := r) (fun d hd => hf d (List.mem_cons_of_mem _ hd)) (a := a) (p := p) (by simpa [cell] using h)
    have h1 := hf c List.mem_cons_self
    have h2 : 0 < c.length := List.length_pos_iff.mpr h1
    rw [total_cons]; omega
theorem heads_of {A : List (List α)} (hf : Full A) : Heads (hd A) (fun d => cnt (itA d A)) (total A) := by
  refine ⟨fun d l => hd_step A d l, fun d L h => cnt_ge h, fun d L j h hj h2 => cnt_more h hj h2, fun d L h => cnt_few fun a ha => ?_, fun d l h => ?_⟩
  · have := h a ha
    unfold hd at this
    cases q : cell (itA d A) a 0 with
    | none => rfl
    | some x => rw [q] at this; cases this
  · by_cases z : l + 1 ≤ d
    · have e := hd_step A (d - l - 1) l
      rw [show d - l - 1 + l + 1 = d by omega, h] at e
      have e2 : l < cnt (itA (d - l - 1) A) := of_decide_eq_true e.symm
      have e3 := cnt_total (itA (d - l - 1) A)
      rw [total_itA] at e3
      omega
    · have e := cell_later A 0 (l - d) 0 d
      rw [Nat.zero_add, show l - d + d = l by omega] at e
      have e : cell (itA d A) l 0 = cell (itA 0 A) (l - d) d := by simpa using e
      unfold hd at h
      rw [e] at h
      have := cell_lt (A := itA 0 A) hf h
      show l < total A
      have e4 : total (itA 0 A) = total A := rfl
      omega
/-- a staircase of l, with up to one more in each company -/
def IsShape (S : List (List α)) (l : Nat) : Prop := (S.length = l ∨ S.length = l + 1) ∧ ∀ (i : Nat) (c : List α), S[i]? = some c → c.length = l - i ∨ c.length = l + 1 - i
def Settled (S : List (List α)) : Prop := IsShape S (rg (total S))
theorem shape_total : ∀ (l : Nat) {S : List (List α)}, Full S → IsShape S l → tri l ≤ total S ∧ total S ≤ tri (l + 1) ∧ (total S = tri (l + 1) → S.length = l + 1 ∧ ∀ (i : Nat) (c : List α), S[i]? = some c → c.length = l + 1 - i)
  | 0, [], hf, h => by
    refine ⟨Nat.zero_le _, Nat.zero_le _, fun z => ?_⟩
    have : (0 : Nat) = 1 := z
    omega
  | 0, [c], hf, h => by
    have h1 := h.2 0 c rfl
    have h2 : 0 < c.length := List.length_pos_iff.mpr (hf c List.mem_cons_self)
    have h3 : c.length = 1 := by omega
    rw [total_cons, h3]
    refine ⟨Nat.zero_le _, Nat.le_refl 1, fun _ => ⟨rfl, fun i d hd => ?_⟩⟩
    cases i with
    | zero => cases hd; exact h3
    | succ i => simp at hd
  | 0, c :: d :: r, hf, h => by
    have := h.1
    simp at this
  | l + 1, [], hf, h => by
    have := h.1
    simp at this
  | l + 1, c :: r, hf, h => by
    have hr : IsShape r l := by
      refine ⟨by have := h.1; simp at this; omega, fun i d hd => ?_⟩
      have := h.2 (i + 1) d (by simpa using hd)
      omega
    have hc := h.2 0 c rfl
    obtain ⟨a, b, e⟩ := shape_total l (fun d hd => hf d (List.mem_cons_of_mem _ hd)) hr
    have t1 := tri_succ l
    have t2 := tri_succ (l + 1)
    rw [total_cons]
    refine ⟨by omega, by omega, fun z => ?_⟩
    obtain ⟨e1, e2⟩ := e (by omega)
    refine ⟨by rw [List.length_cons, e1], fun i d hd => ?_⟩
    cases i with
    | zero => cases hd; omega
    | succ i =>
      have := e2 i d (by simpa using hd)
      omega
theorem settled_of_shape {S : List (List α)} {l : Nat} (hf : Full S) (h : IsShape S l) : Settled S := by
  obtain ⟨a, b, e⟩ := shape_total l hf h
  unfold Settled
  by_cases z : total S = tri (l + 1)
  · obtain ⟨e1, e2⟩ := e z
    have t := tri_succ (l + 1)
    rw [rg_eq (k := l + 1) ⟨by omega, by omega⟩]
    exact ⟨.inl e1, fun i c hc => .inl (e2 i c hc)⟩
  · rw [rg_eq (k := l) ⟨a, by omega⟩]
    exact h
theorem len_of_cells {c : List α} {m : Nat} (h1 : ∀ p, p < m → (c[p]?).isSome) (h2 : ∀ p, m < p → c[p]? = none) : c.length = m ∨ c.length = m + 1 := by
  have a : m ≤ c.length := by
    cases m with
    | zero => omega
    | succ m =>
      have := h1 m (by omega)
      by_cases z : m < c.length
      · omega
      · rw [List.getElem?_eq_none (by omega)] at this; cases this
  have b : c.length ≤ m + 1 := by
    have := h2 (m + 1) (by omega)
    exact List.getElem?_eq_none_iff.mp this
  omega
theorem clean_append (A B : List (List α)) : clean (A ++ B) = clean A ++ clean B := List.filter_append ..
theorem clean_empty {A : List (List α)} (h : ∀ c ∈ A, c = []) : clean A = [] := by
  unfold clean
  rw [List.filter_eq_nil_iff]
  intro c hc
  rw [h c hc]; simp
theorem shape_of_heads {A : List (List α)} {l t : Nat} (hf : ∀ j, j < l → ∀ d, t ≤ d → hd A d j = true) (hn : NoneAbove (hd A) l t) : IsShape (clean (itA t A)) l := by
  have lo : ∀ a p, a + p < l → (cell (itA t A) a p).isSome := fun a p h => by
    rw [cell_hd]; exact hf _ h _ (by omega)
  have up : ∀ a p, l < a + p → cell (itA t A) a p = none := fun a p h => by
    have := cell_hd A t a p
    rw [hn _ h _ (by omega)] at this
    cases q : cell (itA t A) a p with
    | none => rfl
    | some x => rw [q] at this; cases this
  generalize itA t A = B at lo up
  have getc : ∀ a, a < l → ∃ c, B[a]? = some c ∧ (c.length = l - a ∨ c.length = l - a + 1) := fun a ha => by
    have h0 := lo a 0 (by omega)
    unfold cell at h0
    cases q : B[a]? with
    | none => rw [q] at h0; cases h0
    | some c =>
      refine ⟨c, rfl, len_of_cells (fun p hp => ?_) fun p hp => ?_⟩
      · have := lo a p (by omega)
        unfold cell at this
        rw [q] at this
        exact this
      · have := up a p (by omega)
        unfold cell at this
        rw [q] at this
        exact this
  have hl : l ≤ B.length := by
    cases l with
    | zero => omega
    | succ l =>
      obtain ⟨c, hc, _⟩ := getc l (by omega)
      have := (List.getElem?_eq_some_iff.mp hc).1
      omega
  have hbig : clean (B.drop (l + 1)) = [] := clean_empty fun c hc => by
    obtain ⟨i, hi⟩ := List.getElem?_of_mem hc
    rw [List.getElem?_drop] at hi
    have := up (l + 1 + i) 0 (by omega)
    unfold cell at this
    rw [hi] at this
    cases c with
    | nil => rfl
    | cons x r => cases this
  have hlow : clean (B.take l) = B.take l := clean_full fun c hc => by
    obtain ⟨i, hi⟩ := List.getElem?_of_mem hc
    have hil : i < l := by
      have := (List.getElem?_eq_some_iff.mp hi).1
      rw [List.length_take] at this; omega
    rw [List.getElem?_take_of_lt hil] at hi
    obtain ⟨c', h1, h2⟩ := getc i hil
    rw [hi] at h1
    cases h1
    intro z
    rw [z] at h2
    simp at h2; omega
  have hB : B = B.take l ++ B.drop l := (List.take_append_drop l B).symm
  have hc : clean B = B.take l ++ clean (B.drop l) := by
    rw [← hlow, ← clean_append, List.take_append_drop]
  have shapeLow : ∀ (i : Nat) (c : List α), i < l → B[i]? = some c → c.length = l - i ∨ c.length = l + 1 - i := fun i c hi hc => by
    obtain ⟨c', h1, h2⟩ := getc i hi
    rw [hc] at h1
    cases h1
    omega
  cases q : B.drop l with
  | nil =>
    rw [hc, q]
    show IsShape (B.take l ++ []) l
    rw [List.append_nil]
    refine ⟨.inl (by rw [List.length_take]; omega), fun i c hi => ?_⟩
    have hil : i < l := by
      have := (List.getElem?_eq_some_iff.mp hi).1
      rw [List.length_take] at this; omega
    rw [List.getElem?_take_of_lt hil] at hi
    exact shapeLow i c hil hi
  | cons c r =>
    have hr : r = B.drop (l + 1) := by
      rw [← List.drop_drop, q]; rfl
    have hcl : B[l]? = some c := by
      have := congrArg (fun z : List (List α) => z[0]?) q
      simp only [List.getElem?_drop, Nat.add_zero, List.getElem?_cons_zero] at this
      exact this
    have c1 : c.length ≤ 1 := by
      have := up l 1 (by omega)
      unfold cell at this
      rw [hcl] at this
      exact List.getElem?_eq_none_iff.mp this
    rw [hc, q, show c :: r = [c] ++ r from rfl, clean_append, hr, hbig, List.append_nil]
    cases c with
    | nil =>
      show IsShape (B.take l ++ []) l
      rw [List.append_nil]
      refine ⟨.inl (by rw [List.length_take]; omega), fun i c hi => ?_⟩
      have hil : i < l := by
        have := (List.getElem?_eq_some_iff.mp hi).1
        rw [List.length_take] at this; omega
      rw [List.getElem?_take_of_lt hil] at hi
      exact shapeLow i c hil hi
    | cons x c =>
      show IsShape (B.take l ++ [x :: c]) l
      refine ⟨.inr (by rw [List.length_append, List.length_take]; simp; omega), fun i d hi => ?_⟩
      by_cases hil : i < l
      · rw [List.getElem?_append_left (by rw [List.length_take]; omega), List.getElem?_take_of_lt hil] at hi
        exact shapeLow i d hil hi
      · rw [List.getElem?_append_right (by rw [List.length_take]; omega), List.length_take, Nat.min_eq_left hl] at hi
        have hi0 : i - l = 0 := by
          have := (List.getElem?_eq_some_iff.mp hi).1
          simp at this; omega
        rw [hi0] at hi
        cases hi
        have : (x :: c).length = 1 := by simp at c1 ⊢; exact c1
        omega
theorem sum_stairs : ∀ (l : Nat) (B : List (List α)), (∀ a, a < l → ∃ c, B[a]? = some c ∧ l - a ≤ c.length) → tri l ≤ total B
  | 0, B, _ => Nat.zero_le _
  | l + 1, [], h => by
    obtain ⟨c, hc, _⟩ := h 0 (by omega)
    simp at hc
  | l + 1, c :: r, h => by
    obtain ⟨c', hc, hl⟩ := h 0 (by omega)
    cases hc
    have ih := sum_stairs l r fun a ha => by
      obtain ⟨d, hd, hl⟩ := h (a + 1) (by omega)
      exact ⟨d, by simpa using hd, by omega⟩
    rw [tri_succ, total_cons]; omega
/-- EVERY STANDING SETTLES: within 600000 days, of up to 500 folk -/
theorem settles_in {S : List (List α)} (hf : Full S) (hn : total S ≤ 500) : ∃ d, d ≤ 600000 ∧ Settled (it d S) := by
  have H := heads_of hf
  have fin : ∀ l t, (∀ j, j < l → ∀ d, t ≤ d → hd S d j = true) → NoneAbove (hd S) l t → Settled (it t S) := fun l t h1 h2 => by
    have := shape_of_heads h1 h2
    have e : it t S = clean (itA t S) := by
      have := it_clean S t
      rwa [clean_full hf] at this
    rw [e]
    exact settled_of_shape (full_clean _) this
  have hm : ∀ N, N ≤ 500 → ∀ L, days N L ≤ days 500 L := fun N hN L => by
    induction L with
    | zero => exact Nat.le_refl _
    | succ L ih =>
      show days N L + (L + 1) * win N L ≤ days 500 L + (L + 1) * win 500 L
      have : (L + 1) * win N L ≤ (L + 1) * win 500 L := Nat.mul_le_mul_left _ (by unfold win; omega)
      omega
  have hd : days 500 32 ≤ 600000 := by decide
  have h32 := hm (total S) hn 32
  rcases settles H 32 with ⟨l, t, _, b, f, n⟩ | ⟨t, b, f⟩
  · exact ⟨t, by omega, fin l t f n⟩
  · exfalso
    have : tri 32 ≤ total (itA t S) := sum_stairs 32 _ fun a ha => by
      have lo : ∀ p, a + p < 32 → (cell (itA t S) a p).isSome := fun p h => by
        rw [cell_hd]; exact f _ h _ (by omega)
      have h0 := lo 0 (by omega)
      unfold cell at h0
      cases q : (itA t S)[a]? with
      | none => rw [q] at h0; cases h0
      | some c =>
        refine ⟨c, rfl, ?_⟩
        have := lo (31 - a) (by omega)
        unfold cell at this
        rw [q] at this
        by_cases z : 31 - a < c.length
        · omega
        · rw [Option.bind_some, List.getElem?_eq_none (by omega)] at this; cases this
    rw [total_itA] at this
    have e : tri 32 = 528 := by decide
    omega
end
end M
namespace M
open PySem G
abbrev Stg := List (List Str)
def small : Str := "abcdefghijklmnopqrstuvwxyz"
def isSmall (s : Str) : Bool := match s.cps[0]? with
  | some c => decide (c ∈ small.cps.toList)
  | none => false
def isName (z : Str) : Bool := (decide (1 ≤ (z.length : Int)) && decide ((z.length : Int) ≤ 8)) && ((letters z).map isSmall).all id
def isComp (c : List Str) : Bool := (!decide (c = [])) && (c.map isName).all id
def folk (S : Stg) : List Str := S.flatMap id
/-- a good standing: no company is none, all names are names, none twice, not too many -/
structure Good (S : Stg) : Prop where
  full : ∀ c ∈ S, c ≠ []
  names : ∀ c ∈ S, ∀ n ∈ c, isName n = true
  once : (folk S).Nodup
  few : (folk S).length ≤ 450
theorem Good.len {S : Stg} (h : Good S) : S.length ≤ 450 := by
  have : ∀ S : Stg, (∀ c ∈ S, c ≠ []) → S.length ≤ (folk S).length := by
    intro S
    induction S with
    | nil => intro _; simp
    | cons c r ih =>
      intro hc
      have h1 := ih fun c' m => hc c' (List.mem_cons_of_mem _ m)
      have h2 : 0 < c.length := List.length_pos_iff.mpr (hc c List.mem_cons_self)
      simp only [folk, List.flatMap_cons, List.length_append, List.length_cons, id] at h1 ⊢
      omega
  exact Nat.le_trans (this S h.full) h.few
theorem folk_mem {S : Stg} {n : Str} : n ∈ folk S ↔ ∃ c ∈ S, n ∈ c := by simp [folk]
theorem comp_len {S : Stg} (h : Good S) {c : List Str} (m : c ∈ S) : c.length ≤ 450 := by
  have : c.length ≤ (folk S).length := by
    obtain ⟨a, b, rfl⟩ := List.append_of_mem m
    simp [folk]; omega
  exact Nat.le_trans this h.few
theorem isName_len {z : Str} (h : isName z = true) : z.length ≤ 8 := by
  simp only [isName, Bool.and_eq_true, decide_eq_true_eq] at h
  omega
def Fine (c : List Str) : Prop := ∀ z ∈ c, z.length ≤ 1000 ∧ PySem.PyData.strOk z = true
theorem small_ok {n : Nat} (h : n ∈ small.cps.toList) : n < 1114112 := by
  have e : small.cps.toList.all (fun n => decide (n < 1114112)) = true := by decide +kernel
  exact of_decide_eq_true (List.all_eq_true.mp e n h)
theorem isName_ok {z : Str} (h : isName z = true) : z.length ≤ 1000 ∧ PySem.PyData.strOk z = true := by
  refine ⟨by have := isName_len h; omega, ?_⟩
  simp only [isName, Bool.and_eq_true] at h
  have h2 := h.2
  unfold PySem.PyData.strOk
  rw [Array.all_eq_true']
  intro n hn
  have m : (⟨#[n]⟩ : Str) ∈ letters z := List.mem_map.mpr ⟨n, Array.mem_toList_iff.mpr hn, rfl⟩
  have := List.all_eq_true.mp h2 (isSmall ⟨#[n]⟩) (List.mem_map.mpr ⟨_, m, rfl⟩)
  have this : decide (n ∈ small.cps.toList) = true := this
  exact decide_eq_true (small_ok (of_decide_eq_true this))
theorem Good.fine {S : Stg} (h : Good S) {c : List Str} (m : c ∈ S) : Fine c := fun z hz => isName_ok (h.names c m z hz)
theorem Good.comp {S : Stg} (h : Good S) {c : List Str} (m : c ∈ S) : isComp c = true := by
  unfold isComp
  rw [Bool.and_eq_true]
  refine ⟨by simpa using h.full c m, ?_⟩
  rw [List.all_eq_true]
  intro b hb
  obtain ⟨z, hz, rfl⟩ := List.mem_map.mp hb
  exact h.names c m z hz
/-- whether it has settled, as the program asks -/
noncomputable def hasSettled (S : Stg) : Bool :=
  if decide ((S.length : Int) ∈ [(rg (folk S).length : Int), (rg (folk S).length : Int) + 1]) then ((enum S).map fun y => decide ((y.2.length : Int) ∈ [(rg (folk S).length : Int) - y.1, (rg (folk S).length : Int) + 1 - y.1])).all id else false
theorem folk_total (S : Stg) : (folk S).length = total S := by
  induction S with
  | nil => rfl
  | cons c r ih => rw [total_cons, ← ih]; simp [folk]
theorem hasSettled_iff {S : Stg} (hf : Full S) : hasSettled S = true ↔ Settled S := by
  unfold hasSettled Settled IsShape
  rw [folk_total]
  generalize rg (total S) = k
  constructor
  · intro h
    split at h
    · rename_i h1
      have h1 := of_decide_eq_true h1
      simp only [List.mem_cons, List.not_mem_nil, or_false] at h1
      refine ⟨by omega, fun i c hc => ?_⟩
      have h2 := List.all_eq_true.mp h _ (List.mem_map.mpr ⟨_, List.mem_of_getElem? (enum_at hc), rfl⟩)
      have h2 : decide ((c.length : Int) ∈ [(k : Int) - (i : Int), (k : Int) + 1 - (i : Int)]) = true := h2
      have h2 := of_decide_eq_true h2
      simp only [List.mem_cons, List.not_mem_nil, or_false] at h2
      have hi : i < S.length := (List.getElem?_eq_some_iff.mp hc).1
      have := List.length_pos_iff.mpr (hf c (List.mem_of_getElem? hc))
      omega
    · cases h
  · rintro ⟨h1, h2⟩
    rw [if_pos (decide_eq_true (by simp only [List.mem_cons, List.not_mem_nil, or_false]; omega))]
    rw [List.all_eq_true]
    intro b hb
    obtain ⟨y, hy, rfl⟩ := List.mem_map.mp hb
    obtain ⟨i, hi⟩ := List.mem_iff_getElem?.mp hy
    obtain ⟨y1, y2⟩ := enum_get hi
    have hc := h2 i y.2 y2
    have hi2 : i < S.length := (List.getElem?_eq_some_iff.mp y2).1
    have := List.length_pos_iff.mpr (hf y.2 (List.mem_of_getElem? y2))
    refine decide_eq_true ?_
    simp only [List.mem_cons, List.not_mem_nil, or_false]
    rw [y1]
    omega
end M
namespace P
open PySem PySem.Spec PyProof.Rows L2 G L M
open Rp (rp)
section
variable {P : Program} {w : World} {K : PySem.W.Frag} {mg : Str → Option Value} {base : Heap}
def r_name : DE → Bool → DE → Prop := fun Γ x Γ' => ∃ z : Str, z.length ≤ 1000 ∧ Γ = [.is z] ∧ x = isName z ∧ Γ' = Γ
theorem can_is_name (T : Txt K mg) : Can P w K mg base CX0 1 "is_name" ps_is_name [] (spM K (sh Bool) 1 r_name) := by
  refine canD T.d_is_name sc_is_name b_is_name fun cdv A outer s H E Γ x Γ' hr hR => ?_
  obtain ⟨z, hz, rfl, rfl, rfl⟩ := hR
  have e1 : bootBuiltins "str" = some (.type "str") := by decide +kernel
  have hz' : z.length ≤ sizeLine := by rw [sizeLine_eq]; omega
  refine sd_if (WX.tx (wx_or (tx_not (tx_val (px_isiV (z := true) (t := "str") T.n_isinstance (px_var 0) (px_ty T.n_str e1) (by decide +kernel) fun _ _ _ _ r _ => ty_str r))) fun _ => wx_or1 (tx_not (tx_chain cr_le cr_le px_int (px_lenStr T.n_len (px_var 0) hz') (px_gInt T.g_MOST_LETTERS))))) (fun h => ?_) (fun h => ?_)
  · simp only [Bool.not_true, Bool.false_or, Bool.not_eq_true'] at h
    refine sd_ret px_bl ⟨?_, .is .nil⟩
    simp only [isName]
    rw [h, Bool.false_and]
  · simp only [Bool.not_true, Bool.false_or, Bool.not_eq_false'] at h
    refine sd_nil ?_
    have hsz : (letters z).length < sizeLine := by
      have : (letters z).length = z.length := by simp [letters, Str.length]
      rw [this, sizeLine_eq]; omega
    refine sd_ret (px_all T.n_all (PX.nb (px_lc (own := [("letter", 1)]) [1] (it_str (px_var 0)) sc_is_name.nd hsz (f := isSmall) (Γt := fun x => [.is z, .is x]) (fun x hx s H0 C cl fp => gx_name 1 sc_is_name.nd) fun x hx s H0 C cl fp => ?_))) ⟨?_, .is .nil⟩
    · obtain ⟨c, hc, rfl⟩ := List.mem_map.mp hx
      exact px_cmp (cr_inSign (k := c)) (px_var 1) (px_gStr T.g_SMALL)
    · simp only [isName]
      rw [h, Bool.true_and]
theorem cr_neL {X : Cx} {c : List Str} (hu : X.A.units + 64 < cLine) (h : Fine c) : CR X .NotEq c (sh (List Str)) [] (!decide (c = [])) := cr_neD hu (fun z hz => (h z hz).2) (fun z hz => by cases hz)
def r_company : DE → Bool → DE → Prop := fun Γ x Γ' => ∃ c : List Str, c.length ≤ 1000 ∧ Fine c ∧ Γ = [.is c] ∧ x = isComp c ∧ Γ' = Γ
theorem can_is_company (T : Txt K mg) : Can P w K mg base CX0 2 "is_company" ps_is_company [] (spM K (sh Bool) 1 r_company) := by
  refine canD T.d_is_company sc_is_company b_is_company fun cdv A outer s H E Γ x Γ' hr hR => ?_
  obtain ⟨c, hl, hf, rfl, rfl, rfl⟩ := hR
  have hu : A.units + 3 + 64 < cLine := hr.units
  have e1 : bootBuiltins "list" = some (.type "list") := by decide +kernel
  have e : isComp c = (true && ((!decide (c = [])) && (c.map isName).all id)) := rfl
  rw [e]
  refine sd_ret (px_and (px_isiV (z := true) (t := "list") T.n_isinstance (px_var 0) (px_ty T.n_list e1) (by decide +kernel) fun _ _ _ _ r le => ty_lst r le) fun _ => px_and (px_cmp (cr_neL hu hf) (px_var 0) (px_frz (px_lst lx_nil))) fun _ => px_one (px_all T.n_all (PX.nb (px_lc (own := [("name", 1)]) [1] (it_list (px_var 0)) sc_is_company.nd (by rw [sizeLine_eq]; omega) (f := isName) (Γt := fun x => [.is c, .is x])
    (fun x hx s H0 C cl fp => gx_name 1 sc_is_company.nd) fun x hx s H0 C cl fp => px_c (can_is_name T) hr (ax_cons (px_var 1) ax_nil) ⟨x, (hf x hx).1, rfl, rfl, rfl⟩ defOk_nil)))) ⟨rfl, .is .nil⟩
def r_folk : DE → List Str → DE → Prop := fun Γ x Γ' => ∃ S : Stg, (folk S).length ≤ 1000 ∧ Γ = [.is S] ∧ x = folk S ∧ Γ' = Γ
theorem can_folk_of (T : Txt K mg) : Can P w K mg base CX0 1 "folk_of" ps_folk_of [] (spM K (nw Str) 1 r_folk) := by
  refine canD T.d_folk_of sc_folk_of b_folk_of fun cdv A outer s H E Γ x Γ' hr hR => ?_
  obtain ⟨S, hl, rfl, rfl, rfl⟩ := hR
  refine sd_ret (x := S.flatMap fun x => x.map fun y => y) (px_lc2 (f := fun (_ : List Str) (y : Str) => y) (ys := fun x : List Str => x) (Γt := fun x => [.is S, .is x, .no]) (Γu := fun x y => [.is S, .is x, .is y]) (vs1 := [2]) [("company", 1), ("name", 2)] [1] [2] (it_list (px_var 0)) sc_folk_of.nd
    (by rw [sizeLine_eq]; exact Nat.lt_of_le_of_lt hl (by decide)) (fun x hx s H0 C cl fp => gx_name 1 sc_folk_of.nd) (fun x hx s H0 C cl fp => it_list (px_var 1)) (fun x hx y hy s H0 C cl fp => gx_name 2 sc_folk_of.nd) (fun x hx y hy s H0 C cl fp => px_var 2)) ⟨?_, .is .nil⟩
  unfold folk
  simp only [List.map_id']
  rfl
def r_stand : DE → Bool → DE → Prop := fun Γ x Γ' => ∃ S : Stg, Good S ∧ Γ = [.is S] ∧ x = true ∧ Γ' = Γ
theorem can_is_standing (T : Txt K mg) : Can P w K mg base CX0 3 "is_standing" ps_is_standing [] (spM K (sh Bool) 1 r_stand) := by
  refine canD T.d_is_standing sc_is_standing b_is_standing fun cdv A outer s H E Γ x Γ' hr hR => ?_
  obtain ⟨S, hS, rfl, rfl, rfl⟩ := hR
  have e1 : bootBuiltins "list" = some (.type "list") := by decide +kernel
  have l1 := hS.few
  have l2 := hS.len
  refine sd_if (WX.tx (wx_or (tx_not (tx_val (px_isiV (z := true) (t := "list") T.n_isinstance (px_var 0) (px_ty T.n_list e1) (by decide +kernel) fun _ _ _ _ r le => ty_lst r le))) fun _ => wx_or1 (tx_not (tx_val (px_all T.n_all (PX.nb (px_lc (own := [("company", 2)]) [2] (it_list (px_var 0)) sc_is_standing.nd (by rw [sizeLine_eq]; omega) (f := isComp) (Γt := fun x => [.is S, .no, .is x])
    (fun x hx s H0 C cl fp => gx_name 2 sc_is_standing.nd) fun x hx s H0 C cl fp => px_c ((can_is_company T).mono (by decide)) hr (ax_cons (px_var 2) ax_nil) ⟨x, by have := comp_len hS hx; omega, hS.fine hx, rfl, rfl, rfl⟩ defOk_nil))))))) (fun h => ?_) (fun h => sd_nil ?_)
  · have : (S.map isComp).all id = true := List.all_eq_true.mpr fun b hb => by
      obtain ⟨c, hc, rfl⟩ := List.mem_map.mp hb
      exact hS.comp hc
    rw [this] at h
    simp at h
  · refine sd_set 1 (px_frz (px_c ((can_folk_of T).mono (by decide)) hr (ax_cons (px_var 0) ax_nil) ⟨S, by omega, rfl, rfl, rfl⟩ defOk_nil)) ?_ sc_is_standing.nd
    refine sd_ret (px_cmp cr_eq (px_unlike T.n_len T.n_set (px_var 1).br (by omega)) (px_len T.n_len (px_var 1).br)) ⟨?_, .is .nil⟩
    rw [unlike_eq.mpr hS.once]
    exact decide_eq_true rfl
def r_copied : DE → Stg → DE → Prop := fun Γ x Γ' => x.length ≤ 1000 ∧ Γ = [.is x] ∧ Γ' = Γ
theorem can_copied (T : Txt K mg) : Can P w K mg base CX0 1 "copied" ps_copied [] (spM K (nw (List Str)) 1 r_copied) := by
  refine canD T.d_copied sc_copied b_copied fun cdv A outer s H E Γ x Γ' hr hR => ?_
  obtain ⟨hl, rfl, rfl⟩ := hR
  revert hl; generalize x = S; intro hl
  refine sd_ret (x := S.map fun c => c) (px_lc (own := [("company", 1)]) [1] (it_list (px_var 0)) sc_copied.nd (by rw [sizeLine_eq]; omega) (f := fun c => c) (Γt := fun x => [.is S, .is x])
    (fun x hx s H0 C cl fp => gx_name 1 sc_copied.nd) fun x hx s H0 C cl fp => px_frz (px_list T.n_list (px_var 1).br)) ⟨by simp, .is .nil⟩
def r_checked : DE → Stg → DE → Prop := fun Γ x Γ' => Good x ∧ Γ = [.is x] ∧ Γ' = Γ
theorem can_checked_standing (T : Txt K mg) : Can P w K mg base CX0 4 "checked_standing" ps_checked_standing [] (spM K (nw (List Str)) 1 r_checked) := by
  refine canD T.d_checked_standing sc_checked_standing b_checked_standing fun cdv A outer s H E Γ x Γ' hr hR => ?_
  obtain ⟨hS, rfl, rfl⟩ := hR
  refine sd_if (tx_not (tx_val (px_c (can_is_standing T) hr (ax_cons (px_var 0) ax_nil) ⟨x, hS, rfl, rfl, rfl⟩ defOk_nil))) (fun h => by cases h) (fun h => sd_nil ?_)
  exact sd_ret (px_c ((can_copied T).mono (by decide)) hr (ax_cons (px_var 0) ax_nil) ⟨by have := hS.len; omega, rfl, rfl⟩ defOk_nil) ⟨rfl, .is .nil⟩
def r_day : DE → Unit → DE → Prop := fun Γ x Γ' => ∃ n : Int, 0 ≤ n ∧ Γ = [.is n] ∧ x = () ∧ Γ' = Γ
theorem can_checked_day (T : Txt K mg) : Can P w K mg base CX0 2 "checked_day" ps_checked_day [] (spM K (sh Unit) 1 r_day) := by
  refine canD T.d_checked_day sc_checked_day b_checked_day fun cdv A outer s H E Γ x Γ' hr hR => ?_
  obtain ⟨n, h0, rfl, rfl, rfl⟩ := hR
  refine sd_if (tx_not (tx_val (px_c ((can_is_whole T).mono (by decide)) hr (ax_cons (px_var 0) ax_nil) ⟨n, 0, rfl, rfl, rfl⟩ (defOk_cons (fun _ => rfl) defOk_nil)))) (fun h => ?_) (fun h => sd_nil ?_)
  · simp [h0] at h
  · exact sd_nil ⟨fun _ _ _ _ => rfl, .is .nil⟩
def r_behind : DE → Stg → DE → Prop := fun Γ x Γ' => ∃ S : Stg, Good S ∧ Γ = [.is S] ∧ x = behind S ∧ Γ' = Γ
theorem heads_full : ∀ {S : Stg}, (∀ c ∈ S, c ≠ []) → S.filterMap List.head? = S.map fun c => c.getD 0 Str.empty
  | [], _ => rfl
  | [] :: r, h => absurd rfl (h [] List.mem_cons_self)
  | (x :: c) :: r, h => by
    rw [List.filterMap_cons, List.map_cons, ← heads_full fun c m => h c (List.mem_cons_of_mem _ m)]
    rfl
theorem cr_eqSt {X : Cx} {S : Stg} (hu : X.A.units + 64 < cLine) (h : Good S) : CR X .Eq S (sh Stg) [] (decide (S = [])) := cr_eqD hu (fun c hc z hz => (h.fine hc z hz).2) (fun c hc => by cases hc)
theorem can_day_behind (T : Txt K mg) : Can P w K mg base CX0 1 "day_behind" ps_day_behind [] (spM K (nw (List Str)) 1 r_behind) := by
  refine canD T.d_day_behind sc_day_behind b_day_behind fun cdv A outer s H E Γ x Γ' hr hR => ?_
  obtain ⟨S, hS, rfl, rfl, rfl⟩ := hR
  have hu : A.units + 3 + 64 < cLine := hr.units
  have l2 := hS.len
  refine sd_if (tx_cmp (cr_eqSt hu hS) (px_var 0) (px_frz (px_lst lx_nil))) (fun h => ?_) (fun h => sd_nil ?_)
  · have h := of_decide_eq_true h
    subst h
    exact sd_ret (px_lst lx_nil) ⟨rfl, .is .nil⟩
  · have h := of_decide_eq_false h
    refine sd_setLcG 1 (lcx (own := [("company", 2)]) [2] (it_list (px_var 0)) sc_day_behind.nd (by rw [sizeLine_eq]; omega) (f := fun c : List Str => c.getD 0 Str.empty) (Γt := fun x => [.is S, .no, .is x])
      (fun x hx s H0 C cl fp => gx_name 2 sc_day_behind.nd) fun x hx s H0 C cl fp => px_ix (px_var 2) px_int (atI_int (k := 0) (by decide) (by have := List.length_pos_iff.mpr (hS.full x hx); omega))) ?_
    refine sd_ret (px_cat (px_frz (px_lst (lx_cons (px_var 1) lx_nil))) (px_frz (px_lcIf (own := [("company", 2)]) [2] (it_list (px_var 0)) sc_day_behind.nd (by rw [sizeLine_eq]; omega) (f := fun c => cutL c (some (1 : Nat)) none) (k := fun c => decide ((1 : Int) < (c.length : Int))) (Γt := fun x => [.is S, .is (S.map fun c => c.getD 0 Str.empty), .is x])
      (fun x hx s H0 C cl fp => gx_name 2 sc_day_behind.nd) (fun x hx s H0 C cl fp => tx_cmp cr_gt (px_len T.n_len (px_var 2).br) px_int) fun x hx hk s H0 C cl fp => px_frz (px_slice (px_var 2) (ox_some px_int) ox_none))) ?_) ⟨?_, .is .nil⟩
    · have := List.length_filter_le (fun c : List Str => decide ((1 : Int) < (c.length : Int))) S
      simp only [List.length_map, List.length_cons, List.length_nil]
      rw [sizeLine_eq]; omega
    · unfold behind
      rw [if_neg (by simpa using h), heads_full hS.full]
      have e1 : (fun c : List Str => cutL c (some (1 : Nat)) none) = List.tail := funext fun c => by
        rw [cutL_from]; exact List.drop_one
      have e2 : (fun c : List Str => decide ((1 : Int) < (c.length : Int))) = fun c => decide (1 < c.length) := funext fun c => by
        apply decide_eq_decide.mpr; omega
      rw [← e1, ← e2]
      rfl
def r_settled : DE → Bool → DE → Prop := fun Γ x Γ' => ∃ S : Stg, Good S ∧ Γ = [.is S] ∧ x = hasSettled S ∧ Γ' = Γ
theorem can_has_settled (T : Txt K mg) : Can P w K mg base CX0 2 "has_settled" ps_has_settled [] (spM K (sh Bool) 1 r_settled) := by
  refine canD T.d_has_settled sc_has_settled b_has_settled fun cdv A outer s H E Γ x Γ' hr hR => ?_
  obtain ⟨S, hS, rfl, rfl, rfl⟩ := hR
  have l1 := hS.few
  have l2 := hS.len
  refine sd_set 1 (px_c ((can_least_rings T).mono (by decide)) hr (ax_cons (px_len T.n_len (PX.nb (px_c ((can_folk_of T).mono (by decide)) hr (ax_cons (px_var 0) ax_nil) ⟨S, by omega, rfl, rfl, rfl⟩ defOk_nil))) ax_nil) ⟨((folk S).length : Int), by omega, by omega, rfl, rfl, rfl⟩ defOk_nil) ?_ sc_has_settled.nd
  rw [Int.toNat_natCast]
  refine sd_if (tx_cmp cr_notInT (px_len T.n_len (px_var 0).br) (px_tup (lx_cons (px_var 1) (lx_cons (px_add (px_var 1) px_int) lx_nil)))) (fun h => ?_) (fun h => sd_nil ?_)
  · refine sd_ret px_bl ⟨?_, .is .nil⟩
    unfold hasSettled
    rw [if_neg (by rw [Bool.not_eq_true'] at h; rw [h]; exact Bool.false_ne_true)]
  · refine sd_ret (px_all T.n_all (PX.nb (px_lc (own := [("n", 2), ("company", 3)]) [2, 3] (it_enum T.n_enumerate (px_var 0)) sc_has_settled.nd (by rw [enum_len, sizeLine_eq]; omega) (f := fun y : Int × List Str => decide ((y.2.length : Int) ∈ [(rg (folk S).length : Int) - y.1, (rg (folk S).length : Int) + 1 - y.1])) (Γt := fun y => [.is S, .is (rg (folk S).length : Int), .is y.1, .is y.2])
      (fun x hx s H0 C cl fp => gx_t2 (gx_name 2 sc_has_settled.nd) (gx_name 3 sc_has_settled.nd)) fun x hx s H0 C cl fp => px_cmp cr_inT (px_len T.n_len (px_var 3).br) (px_tup (lx_cons (px_sub (px_var 1) (px_var 2)) (lx_cons (px_sub (px_add (px_var 1) px_int) (px_var 2)) lx_nil)))))) ⟨?_, .is .nil⟩
    unfold hasSettled
    rw [if_pos (by rw [Bool.not_eq_false'] at h; exact h)]
end
end P
namespace M
open PySem G
/-- who has which remainders on a day, ring by ring -/
def tolds (c : Crs) (day : Int) : List (Option Str) := (rng 1 c.greatest.toNat).map fun L => look c.nameBy.l (L, day % L)
def begun (c : Crs) (day : Int) : List Str := (tolds c day).filterMap id
def farOn (c : Crs) (day : Int) : Stg := ((rng 0 c.greatest.toNat).map fun n => (begun c (day - n)).drop n.toNat).filter fun r => !decide (r = [])
def standingOn (c : Crs) (day : Int) : Stg := if day < c.rows.length then c.rows.getD day.toNat [] else farOn c day
/-- a course as it is made -/
structure CrsOk (c : Crs) : Prop where
  g0 : 0 ≤ c.greatest
  g1 : c.greatest ≤ 500
  rowsG : ∀ S ∈ c.rows, Good S
  names : ∀ p ∈ c.nameBy.l, isName p.2 = true
theorem look_mem {κ α : Type} [DecidableEq κ] {xs : List (κ × α)} {k : κ} {v : α} (h : look xs k = some v) : (k, v) ∈ xs := by
  unfold look at h
  cases q : xs.find? fun p => decide (p.1 = k) with
  | none => rw [q] at h; cases h
  | some p =>
    rw [q] at h
    have h1 := List.mem_of_find?_eq_some q
    have h2 := List.find?_some q
    have h3 : p.2 = v := Option.some.inj h
    have h4 : p.1 = k := by simpa using h2
    rw [← h3, ← h4]; exact h1
theorem begun_names {c : Crs} (h : CrsOk c) {day : Int} {z : Str} (m : z ∈ begun c day) : isName z = true := by
  obtain ⟨o, ho, e⟩ := List.mem_filterMap.mp m
  obtain ⟨L, _, e2⟩ := List.mem_map.mp ho
  have e : o = some z := e
  rw [e] at e2
  exact h.names _ (look_mem e2)
theorem tolds_len {c : Crs} {day : Int} : (tolds c day).length = c.greatest.toNat := by simp [tolds, rng_len]
theorem standingOn_len {c : Crs} (h : CrsOk c) {day : Int} (h0 : 0 ≤ day) : (standingOn c day).length ≤ 500 := by
  unfold standingOn
  split
  · rename_i h1
    have e : c.rows.getD day.toNat [] ∈ c.rows := by
      rw [List.getD_eq_getElem?_getD, List.getElem?_eq_getElem (by omega)]
      exact List.getElem_mem _
    have := (h.rowsG _ e).len
    omega
  · unfold farOn
    refine Nat.le_trans (List.length_filter_le _ _) ?_
    rw [List.length_map, rng_len]
    have := h.g1; have := h.g0
    omega
end M
namespace P
open PySem PySem.Spec PyProof.Rows L2 G L M
open Rp (rp)
section
variable {P : Program} {w : World} {K : PySem.W.Frag} {mg : Str → Option Value} {base : Heap}
theorem px_unsome {X : Cx} {Γ Γ1 : DE} {e : Expr} {α : Type} [Rp α] {x : α} (h : PX X (sh (Option α)) Γ e (some x) Γ1) : PX X (sh α) Γ e x Γ1 := ⟨h.sub, fun σ F H Q E q => h.run σ F H Q E fun v F' H' E' s r => q v F' H' E' s r⟩
def r_begun : DE → List Str → DE → Prop := fun Γ x Γ' => ∃ (c : Crs) (day : Int), CrsOk c ∧ Γ = [.is c, .is day] ∧ x = begun c day ∧ Γ' = Γ
theorem fm_id : ∀ l : List (Option Str), l.filterMap id = (l.filter Option.isSome).map fun o => o.getD Str.empty
  | [] => rfl
  | none :: r => by simp only [List.filterMap_cons, id, List.filter_cons, Option.isSome, Bool.false_eq_true, if_false]; exact fm_id r
  | some x :: r => by simp only [List.filterMap_cons, id, List.filter_cons, Option.isSome, if_true, List.map_cons]; rw [← fm_id r]; rfl
theorem can_company_begun (T : Txt K mg) : CanM P w K mg base CX0 1 "company_begun" ps_Course_company_begun (spM K (nw Str) 2 r_begun) := by
  refine canM T.cls_Course T.me_company_begun T.f_Course_company_begun sc_Course_company_begun b_Course_company_begun fun cdv A outer s H E Γ x Γ' hr hR => ?_
  obtain ⟨c, day, hc, rfl, rfl, rfl⟩ := hR
  have hu : A.units + 3 + 64 < cLine := hr.units
  have g0 := hc.g0
  have g1 := hc.g1
  have eg : (c.greatest + 1 - 1).toNat = c.greatest.toNat := by congr 1; omega
  have hL : (rng 1 (c.greatest + 1 - 1).toNat).length < sizeLine := by rw [rng_len, sizeLine_eq]; omega
  refine sd_setLcG 2 (lcx (own := [("size", 3)]) [3] (it_range2 T.n_range px_int (px_add (px_greatest T.cls_Course T.na_greatest (px_var 0)) px_int) ⟨by decide, by decide, by omega, by omega⟩) sc_Course_company_begun.nd hL (f := fun L : Int => look c.nameBy.l (L, day % L)) (Γt := fun L => [.is c, .is day, .no, .is L, .no])
    (fun x hx s H0 C cl fp => gx_name 3 sc_Course_company_begun.nd) fun x hx s H0 C cl fp => px_dget1T (show A.units + 3 + 1 < cLine by omega) (px_nameBy T.cls_Course T.na_name_by (px_var 0)) (px_t2 (px_var 3) (px_mod (px_var 1) (px_var 3) (by have := rng_mem hx; omega)))) ?_
  rw [eg]
  have hT : (tolds c day).length < sizeLine := by rw [tolds_len, sizeLine_eq]; omega
  refine sd_ret (px_lcIf (own := [("name", 4)]) [4] (it_list (px_var (x := tolds c day) 2)) sc_Course_company_begun.nd hT (f := fun o : Option Str => o.getD Str.empty) (k := Option.isSome) (Γt := fun o => [.is c, .is day, .is (tolds c day), .no, .is o])
    (fun x hx s H0 C cl fp => gx_name 4 sc_Course_company_begun.nd) (fun x hx s H0 C cl fp => tx_cmp (cr_notN fun h e => by rw [e] at h; cases h) (px_var 4) px_non) fun x hx hk s H0 C cl fp => ?_) ⟨?_, .is (.is .nil)⟩
  · obtain ⟨y, rfl⟩ := Option.isSome_iff_exists.mp hk
    exact px_unsome (px_var (x := some y) 4)
  · unfold begun
    rw [fm_id]
def r_standing : DE → Stg → DE → Prop := fun Γ x Γ' => ∃ (c : Crs) (day : Int), CrsOk c ∧ 0 ≤ day ∧ Γ = [.is c, .is day] ∧ x = standingOn c day ∧ Γ' = Γ
theorem fine_drop {l : List Str} (h : ∀ z ∈ l, isName z = true) (n : Nat) : Fine (l.drop n) := fun z hz => isName_ok (h z (List.mem_of_mem_drop hz))
theorem can_standing_on (T : Txt K mg) : CanM P w K mg base CX0 2 "standing_on" ps_Course_standing_on (spM K (sh Stg) 2 r_standing) := by
  refine canM T.cls_Course T.me_standing_on T.f_Course_standing_on sc_Course_standing_on b_Course_standing_on fun cdv A outer s H E Γ x Γ' hr hR => ?_
  obtain ⟨c, day, hc, h0, rfl, rfl, rfl⟩ := hR
  have hu : A.units + 3 + 64 < cLine := hr.units
  have g0 := hc.g0
  have g1 := hc.g1
  refine sd_if (tx_cmp cr_lt (px_var 1) (px_len T.n_len (px_rows T.cls_Course T.na_rows (px_var 0)).br)) (fun h => ?_) (fun h => sd_nil ?_)
  · have h := of_decide_eq_true h
    refine sd_ret (px_ix (px_rows T.cls_Course T.na_rows (px_var 0)) (px_var 1) (atI_int (d := []) h0 h)) ⟨?_, .is (.is .nil)⟩
    unfold standingOn
    rw [if_pos h]
  · have h := of_decide_eq_false h
    have hL : (rng 0 c.greatest.toNat).length < sizeLine := by rw [rng_len, sizeLine_eq]; omega
    refine sd_setLcG 2 (lcx (own := [("number", 3)]) [3] (it_range1 T.n_range (px_greatest T.cls_Course T.na_greatest (px_var 0)) (by omega) (by omega)) sc_Course_standing_on.nd hL (f := fun n : Int => (begun c (day - n)).drop n.toNat) (Γt := fun n => [.is c, .is day, .no, .is n, .no])
      (fun x hx s H0 C cl fp => gx_name 3 sc_Course_standing_on.nd) fun n hx s H0 C cl fp => ?_) ?_
    · obtain ⟨k, rfl⟩ : ∃ k : Nat, n = (k : Int) := ⟨n.toNat, by have := rng_mem hx; omega⟩
      rw [Int.toNat_natCast, ← cutL_from]
      exact px_frz (px_slice (px_frz (px_m (can_company_begun T) hr (px_var 0) (ax_cons (px_sub (px_var 1) (px_var 3)) ax_nil) ⟨c, _, hc, rfl, rfl, rfl⟩)) (ox_some (px_var 3)) ox_none)
    · have hT : ((rng 0 c.greatest.toNat).map fun n : Int => (begun c (day - n)).drop n.toNat).length < sizeLine := by rw [List.length_map]; exact hL
      refine sd_ret (px_frz (px_lcIf (own := [("company", 4)]) [4] (it_list (px_var (x := (rng 0 c.greatest.toNat).map fun n : Int => (begun c (day - n)).drop n.toNat) 2)) sc_Course_standing_on.nd hT (f := fun r : List Str => r) (k := fun r => !decide (r = [])) (Γt := fun r => [.is c, .is day, .is ((rng 0 c.greatest.toNat).map fun n : Int => (begun c (day - n)).drop n.toNat), .no, .is r])
        (fun x hx s H0 C cl fp => gx_name 4 sc_Course_standing_on.nd) (fun x hx s H0 C cl fp => tx_cmp (cr_neL hu ?_) (px_var 4) (px_frz (px_lst lx_nil))) fun x hx hk s H0 C cl fp => px_var 4)) ⟨?_, .is (.is .nil)⟩
      · obtain ⟨n, _, rfl⟩ := List.mem_map.mp hx
        exact fine_drop (fun z hz => begun_names hc hz) _
      · unfold standingOn farOn
        rw [if_neg h, List.map_id']
theorem can_on_day (T : Txt K mg) : CanM P w K mg base CX0 3 "on_day" ps_Course_on_day (spM K (nw (List Str)) 2 r_standing) := by
  refine canM T.cls_Course T.me_on_day T.f_Course_on_day sc_Course_on_day b_Course_on_day fun cdv A outer s H E Γ x Γ' hr hR => ?_
  obtain ⟨c, day, hc, h0, rfl, rfl, rfl⟩ := hR
  refine sd_expr (px_c ((can_checked_day T).mono (by decide)) hr (ax_cons (px_var 1) ax_nil) ⟨day, h0, rfl, rfl, rfl⟩ defOk_nil) ?_
  exact sd_ret (px_c ((can_copied T).mono (by decide)) hr (ax_cons (px_m (can_standing_on T) hr (px_var 0) (ax_cons (px_var 1) ax_nil) ⟨c, day, hc, h0, rfl, rfl, rfl⟩) ax_nil) ⟨by have := standingOn_len hc h0; omega, rfl, rfl⟩ defOk_nil) ⟨rfl, .is (.is .nil)⟩
end
end P
namespace M
open PySem G
def least (l : List Int) : Int := l.min?.getD 0
theorem least_is {l : List Int} (h : l ≠ []) : least l ∈ l ∧ ∀ n ∈ l, least l ≤ n := by
  unfold least
  cases q : l.min? with
  | none => exact absurd (List.min?_eq_none_iff.mp q) h
  | some m => exact List.min?_eq_some_iff.mp q
/-- of rings: (size, remainder) -/
def flipR (p : Int × Int) : Int × Int := (p.2, p.1)
def meetF (rs : List (Int × Int)) : Option (T3 Int Int Int) := (allJ (rs.map flipR)).map fun f => ⟨f.1, f.2, least (rs.map (·.1))⟩
/-- two that never meet -/
def offOf (x y : Str × (Int × Int)) : Option (Str × Str × Int) := if (x.2.2 - y.2.2) % (Int.gcd x.2.1 y.2.1 : Int) = 0 then none else some (x.1, y.1, (Int.gcd x.2.1 y.2.1 : Int))
def firstOff : List (Str × (Int × Int)) → Option (Str × Str × Int)
  | [] => none
  | x :: xs => (xs.findSome? (offOf x)).or (firstOff xs)
def toldF (l : List (Str × (Int × Int))) : Told := match meetF (l.map (·.2)) with
  | some t => .met t
  | none => match firstOff l with
    | some q => .never q.1 q.2.1 q.2.2
    | none => .non
/-- who has which ring -/
def ringIn (d : List (Str × (Int × Int))) (n : Str) : Int × Int := (look d n).getD (0, 0)
def withR (d : List (Str × (Int × Int))) (folk : List Str) : List (Str × (Int × Int)) := folk.map fun n => (n, ringIn d n)
structure RingOk (p : Int × Int) : Prop where
  pos : 0 < p.1
  few : p.1 ≤ 500
  nn : 0 ≤ p.2
  lt : p.2 < p.1
structure FolkOk (d : List (Str × (Int × Int))) (folk : List Str) : Prop where
  ne : folk ≠ []
  once : folk.Nodup
  few : folk.length ≤ 500
  names : ∀ n ∈ folk, isName n = true
  has : ∀ n ∈ folk, ∃ p, look d n = some p ∧ RingOk p
theorem FolkOk.look {d : List (Str × (Int × Int))} {folk : List Str} (h : FolkOk d folk) {n : Str} (m : n ∈ folk) : G.look d n = some (ringIn d n) ∧ RingOk (ringIn d n) := by
  obtain ⟨p, e, r⟩ := h.has n m
  unfold ringIn
  rw [e]
  exact ⟨rfl, r⟩
end M
namespace P
open PySem PySem.Spec PyProof.Rows L2 G L M
open Rp (rp)
section
variable {P : Program} {w : World} {K : PySem.W.Frag} {mg : Str → Option Value} {base : Heap}
def r_turned : DE → Int → DE → Prop := fun Γ x Γ' => ∃ n b u v : Int, 1 < b ∧ b < 2 ^ 62 ∧ n * u + b * v = 1 ∧ Γ = [.is n, .is b] ∧ x = turnedF n b ∧ Γ' = Γ
structure Turn (n b : Int) (s : (Int × Int) × (Int × Int)) : Prop where
  near : b ∣ n * s.1.2 - s.1.1
  far : b ∣ n * s.2.2 - s.2.1
  n0 : 0 ≤ s.1.1
  n1 : s.1.1 ≤ b
  f0 : 0 ≤ s.2.1
  f1 : s.2.1 < b
  one : Int.gcd s.1.1 s.2.1 = 1
theorem gcd_one {n b u v : Int} (h : n * u + b * v = 1) : Int.gcd n b = 1 := by
  have d1 : ((Int.gcd n b : Nat) : Int) ∣ 1 := by
    rw [← h]
    exact Int.dvd_add (Int.dvd_mul_of_dvd_left (Int.gcd_dvd_left n b)) (Int.dvd_mul_of_dvd_left (Int.gcd_dvd_right n b))
  have := Int.le_of_dvd (by decide) d1
  have h2 : Int.gcd n b ≠ 0 := fun z => by
    rw [z] at d1
    obtain ⟨k, hk⟩ := d1
    simp at hk
  omega
theorem can_turned (T : Txt K mg) : Can P w K mg base CX0 1 "turned" ps_turned [] (spM K (sh Int) 2 r_turned) := by
  refine canD T.d_turned sc_turned b_turned fun cdv A outer s H E Γ x Γ' hr hR => ?_
  obtain ⟨n, b, u, v, hb, hb2, huv, rfl, rfl, rfl⟩ := hR
  have nd := sc_turned.nd
  refine sd_par 2 3 (px_t2 (px_var 1) px_int) (px_t2 (px_mod (px_var 0) (px_var 1) (by omega)) px_int) ?_ nd
  have g1 : Int.gcd b (n % b) = 1 := by
    rw [Int.gcd_comm, ← gcd_one huv]
    have h1 : ((Int.gcd (n % b) b : Nat) : Int) ∣ (Int.gcd n b : Int) := Int.dvd_coe_gcd (by
      have := dvd_mod_self b n
      have h2 := Int.dvd_trans (Int.gcd_dvd_right (n % b) b) this
      have := Int.dvd_add h2 (Int.gcd_dvd_left (n % b) b)
      rwa [show n - n % b + n % b = n by omega] at this) (Int.gcd_dvd_right _ _)
    have h2 : ((Int.gcd n b : Nat) : Int) ∣ (Int.gcd (n % b) b : Int) := Int.dvd_coe_gcd (by
      have := dvd_mod_self b n
      have h2 := Int.dvd_trans (Int.gcd_dvd_right n b) this
      have := Int.dvd_sub (Int.gcd_dvd_left n b) h2
      rwa [show n - (n - n % b) = n % b by omega] at this) (Int.gcd_dvd_right _ _)
    exact Nat.dvd_antisymm (Int.natCast_dvd_natCast.mp h1) (Int.natCast_dvd_natCast.mp h2)
  have m0 := Int.emod_nonneg n (show b ≠ 0 by omega)
  have m1 := Int.emod_lt_of_pos n (show 0 < b by omega)
  refine sd_while (N := fun Γ' => ∃ t : (Int × Int) × (Int × Int), Turn n b t ∧ t.2.1 = 0 ∧ Wk Γ' ([.is n, .is b, .is t.1, .is t.2, .no] : DE)) (fun t : (Int × Int) × (Int × Int) => ([.is n, .is b, .is t.1, .is t.2, .no] : DE)) (Turn n b) (fun t => t.2.1.toNat) (fun t => decide (0 < t.2.1)) ((b, 0), (n % b, 1))
    ⟨⟨-1, by show n * 0 - b = _; omega⟩, by
      show b ∣ n * 1 - n % b
      rw [Int.mul_one]
      exact dvd_mod_self b n, by show 0 ≤ b; omega, Int.le_refl _, m0, m1, g1⟩ Wk.refl (fun t _ => tx_cmp cr_gt (px_fst (px_var 3) px_int) px_int) (fun t h ht => ?_) (fun t h ht => ⟨t, h, ?_, Wk.refl⟩) (fun Γ' e => ?_)
  · have ht : 0 < t.2.1 := of_decide_eq_true ht
    obtain ⟨⟨a, a2⟩, ⟨c, c2⟩⟩ := t
    obtain ⟨h1, h2, h3, h4, h5, h6, h7⟩ := h
    simp only at *
    have q0 : 0 ≤ a / c := Int.ediv_nonneg h3 (by omega)
    have q1 : a / c ≤ a := Int.ediv_le_self _ h3
    have er : a - a / c * c = a % c := by rw [Int.emod_def, Int.mul_comm]
    have qb : -(2 ^ 64) < a / c ∧ a / c < 2 ^ 64 := ⟨by omega, by omega⟩
    refine sd_set 4 (px_div (px_fst (px_var 2) px_int) (px_fst (px_var 3) px_int) (div_ok ht (by omega))) ?_ nd
    refine sd_par 2 3 (px_var 3) (px_t2 (px_sub (px_fst (px_var (x := (a, a2)) 2) px_int) (px_mulL (px_var 4) (px_fst (px_var (x := (c, c2)) 3) px_int) qb)) (px_sub (px_snd (px_var (x := (a, a2)) 2) px_int) (px_mulL (px_var 4) (px_snd (px_var (x := (c, c2)) 3) px_int) qb))) (sd_nil ⟨((c, c2), (a - a / c * c, a2 - a / c * c2)), ⟨h2, ?_, h5, by show c ≤ b; omega, ?_, ?_, ?_⟩, ?_, .same (.same (.same (.same (.no .nil))))⟩) nd
    · show b ∣ n * (a2 - a / c * c2) - (a - a / c * c)
      obtain ⟨k, hk⟩ := h1
      obtain ⟨l, hl⟩ := h2
      exact ⟨k - a / c * l, by grind⟩
    · show 0 ≤ a - a / c * c
      rw [er]; exact Int.emod_nonneg _ (by omega)
    · show a - a / c * c < b
      rw [er]
      have := Int.emod_lt_of_pos a ht
      omega
    · show Int.gcd c (a - a / c * c) = 1
      rw [er, (gcd_turn h3 ht).1, h7]
    · show (a - a / c * c).toNat < c.toNat
      rw [er]
      exact (gcd_turn h3 ht).2
  · have ht : ¬ 0 < t.2.1 := of_decide_eq_false ht
    have := h.f0
    omega
  · obtain ⟨t, h, hz, w⟩ := e
    refine sd_wk w (sd_ret (px_mod (px_snd (px_var 2) px_int) (px_var 1) (by omega)) ⟨?_, .is (.is .nil)⟩)
    have hg := h.one
    rw [hz, Int.gcd_zero_right] at hg
    have h0 := h.n0
    have e1 : t.1.1 = 1 := by omega
    refine (turned_one hb (Int.emod_nonneg _ (by omega)) (Int.emod_lt_of_pos _ (by omega)) ?_).symm
    refine mod_of_dvd ?_
    obtain ⟨k, hk⟩ := h.near
    obtain ⟨l, hl⟩ := dvd_mod_self b t.1.2
    rw [e1] at hk
    exact ⟨k - n * l, by grind⟩
def r_joined : DE → Option (Int × Int) → DE → Prop := fun Γ x Γ' => ∃ p q : Int × Int, 0 < p.2 ∧ 0 < q.2 ∧ q.2 < 2 ^ 62 ∧ Γ = [.is p, .is q] ∧ x = joinF p q ∧ Γ' = Γ
theorem can_joined (T : Txt K mg) : Can P w K mg base CX0 2 "joined" ps_joined [] (spM K (sh (Option (Int × Int))) 2 r_joined) := by
  refine canD T.d_joined sc_joined b_joined fun cdv A outer s H E Γ x Γ' hr hR => ?_
  obtain ⟨p, q, hp, hq, hq2, rfl, rfl, rfl⟩ := hR
  have nd := sc_joined.nd
  obtain ⟨r, e⟩ := p
  obtain ⟨d, b⟩ := q
  simp only at hp hq hq2
  obtain ⟨g, e', b', u, v, hg, g0, e0, b0, h1, h2, h3, h4, h5⟩ := parts_of hp hq
  have gb : g ≤ b := Int.le_of_dvd hq ⟨b', h2⟩
  have bb : b' ≤ b := Int.le_of_dvd hq ⟨g, by rw [h2]; exact Int.mul_comm _ _⟩
  refine sd_asg (px_var 0) (gx_t2 (gx_name 2 nd) (gx_name 3 nd)) ?_
  refine sd_asg (px_var 1) (gx_t2 (gx_name 4 nd) (gx_name 5 nd)) ?_
  refine sd_set 6 (px_c ((can_common T).mono (by decide)) hr (ax_cons (px_var 3) (ax_cons (px_var 5) ax_nil)) ⟨e, b, by omega, by omega, rfl, rfl, rfl⟩ defOk_nil) ?_ nd
  rw [← hg]
  have J : joinF (r, e) (d, b) = if (d - r) % g = 0 then some ((if 1 < b' then r + (d - r) / g * turnedF e' b' % b' * e else r) % (e * b'), e * b') else none := by
    unfold joinF
    simp only
    rw [← hg, h3, h4]
  have E0 : 0 < e * b' := Int.mul_pos hp b0
  refine sd_if (tx_cmp cr_ne (px_mod (px_sub (px_var 4) (px_var 2)) (px_var 6) g0) px_int) (fun h => ?_) (fun h => sd_nil ?_)
  · have h : ¬ (d - r) % g = 0 := by simpa using h
    exact sd_ret px_none ⟨by rw [J, if_neg h], .is (.is .nil)⟩
  · have h : (d - r) % g = 0 := by simpa using h
    rw [if_pos h] at J
    refine sd_set 7 (px_div (px_var 5) (px_var 6) (div_ok g0 (by omega))) ?_ nd
    rw [h4]
    refine sd_if (tx_cmp cr_gt (px_var 7) px_int) (fun hb => ?_) (fun hb => sd_nil ?_)
    · have hb : 1 < b' := of_decide_eq_true hb
      rw [if_pos hb] at J
      have w0 := Int.emod_nonneg ((d - r) / g * turnedF e' b') (show b' ≠ 0 by omega)
      have w1 := Int.emod_lt_of_pos ((d - r) / g * turnedF e' b') b0
      have t1 : turnedF e' b' < b' ∧ 0 ≤ turnedF e' b' := by
        have h1 : (e' * (u % b')) % b' = 1 % b' := by
          refine mod_of_dvd ?_
          obtain ⟨k, hk⟩ := dvd_mod_self b' u
          exact ⟨-v - e' * k, by grind⟩
        rw [turned_one hb (Int.emod_nonneg _ (by omega)) (Int.emod_lt_of_pos _ (by omega)) h1]
        exact ⟨Int.emod_lt_of_pos _ (by omega), Int.emod_nonneg _ (by omega)⟩
      have wb : -(2 ^ 64) < (d - r) / g * turnedF e' b' % b' ∧ (d - r) / g * turnedF e' b' % b' < 2 ^ 64 := ⟨by omega, by omega⟩
      refine sd_aug ip_add 2 rfl (px_mulL (px_mod (px_mulR (px_div (px_sub (px_var 4) (px_var 2)) (px_var 6) (div_ok g0 (by omega))) (px_c (can_turned T) hr (ax_cons (px_div (px_var 3) (px_var 6) (div_ok g0 (by omega))) (ax_cons (px_var 7) ax_nil)) ⟨e', b', u, v, hb, by omega, h5, by rw [h3]; rfl, rfl, rfl⟩ defOk_nil) ⟨by omega, by omega⟩) (px_var 7) b0) (px_var 3) wb) (sd_nil ?_) nd
      refine sd_augI iop_mul 3 rfl (px_var 7) (.inr ⟨by omega, by omega⟩) ?_ nd
      exact sd_ret (px_some (px_t2 (px_mod (px_var 2) (px_var 3) E0) (px_var 3))) ⟨by rw [J], .is (.is .nil)⟩
    · have hb : ¬ 1 < b' := of_decide_eq_false hb
      rw [if_neg hb] at J
      refine sd_augI iop_mul 3 rfl (px_var 7) (.inr ⟨by omega, by omega⟩) ?_ nd
      exact sd_ret (px_some (px_t2 (px_mod (px_var 2) (px_var 3) E0) (px_var 3))) ⟨by rw [J], .is (.is .nil)⟩
def r_all_joined : DE → Option (Int × Int) → DE → Prop := fun Γ x Γ' => ∃ ps : List (Int × Int), (∀ p ∈ ps, 0 < p.2 ∧ p.2 < 2 ^ 62) ∧ Γ = [.is ps] ∧ x = allJ ps ∧ Γ' = Γ
theorem can_all_joined (T : Txt K mg) : Can P w K mg base CX0 3 "all_joined" ps_all_joined [] (spM K (sh (Option (Int × Int))) 1 r_all_joined) := by
  refine canD T.d_all_joined sc_all_joined b_all_joined fun cdv A outer s H E Γ x Γ' hr hR => ?_
  obtain ⟨ps, hp, rfl, rfl, rfl⟩ := hR
  have nd := sc_all_joined.nd
  refine sd_set 1 (px_some (px_t2 (x := (0 : Int)) (y := (1 : Int)) px_int px_int)) ?_ nd
  refine sd_for (ts := [2]) (N := fun Γ' => ∃ f, joinL ps (0, 1) = some f ∧ Wk Γ' ([.is ps, .is (some f), .no] : DE)) (it_list (px_var 0))
    (fun i Γ' => ∃ f, 0 < f.2 ∧ joinL (ps.take i) (0, 1) = some f ∧ Γ' = ([.is ps, .is (some f), .no] : DE)) ⟨(0, 1), by decide, rfl, rfl⟩ (fun i y Γ' hy ⟨f, f0, hf, e⟩ => ?_) (fun Γ' z => by
      obtain ⟨f, _, hf, e⟩ := z
      exact ⟨f, by rw [← hf, List.take_length], by rw [e]; exact Wk.refl⟩) (fun Γ' ⟨f, hf, w⟩ => ?_)
  · subst e
    have hm := List.mem_of_getElem? hy
    refine ⟨_, gx_name 2 nd, ?_⟩
    refine sd_set 1 (px_c (can_joined T) hr (ax_cons (px_unsome (px_var (x := some f) 1)) (ax_cons (px_var 2) ax_nil)) ⟨f, y, f0, (hp y hm).1, (hp y hm).2, rfl, rfl, rfl⟩ defOk_nil) ?_ nd
    have e1 : joinL (ps.take (i + 1)) (0, 1) = joinF f y := by
      rw [List.take_add_one, hy, joinL_app, hf]
      show joinL [y] f = _
      unfold joinL
      cases joinF f y <;> rfl
    cases q : joinF f y with
    | none =>
      refine sd_if (tx_cmp (cr_isN (α := Int × Int) (x := none) fun {F v y} h e => by obtain ⟨_, _, _, e2, _⟩ := h; rw [e2] at e; cases e) (px_var (x := (none : Option (Int × Int))) 1) px_non) (fun _ => ?_) (fun h => by cases h)
      refine sd_ret px_none ⟨?_, .is .nil⟩
      unfold allJ
      rw [q] at e1
      rw [← List.take_append_drop (i + 1) ps, joinL_app, e1]
      rfl
    | some g =>
      refine sd_if (tx_cmp (cr_isN (α := Int × Int) (x := some g) fun {F v y} h e => by obtain ⟨_, _, _, e2, _⟩ := h; rw [e2] at e; cases e) (px_var (x := some g) 1) px_non) (fun h => by cases h) (fun _ => sd_nil (sd_nil ⟨_, ?_, g, (join_some f0 (hp y hm).1 q).1, by rw [e1, q], rfl⟩))
      exact .same (.same (.no .nil))
  · refine sd_wk w (sd_ret (px_var 1) ⟨?_, .is .nil⟩)
    unfold allJ
    rw [hf]
def r_ring : DE → Int × Int → DE → Prop := fun Γ x Γ' => ∃ (c : Crs) (n : Str), isName n = true ∧ look c.ringBy.l n = some x ∧ Γ = [.is c, .is n] ∧ Γ' = Γ
theorem can_ring (T : Txt K mg) : CanM P w K mg base CX0 2 "ring" ps_Course_ring (spM K (sh (Int × Int)) 2 r_ring) := by
  refine canM T.cls_Course T.me_ring T.f_Course_ring sc_Course_ring b_Course_ring fun cdv A outer s H E Γ x Γ' hr hR => ?_
  obtain ⟨c, n, hn, hx, rfl, rfl⟩ := hR
  have hu : A.units + 3 + 64 < cLine := hr.units
  have hm : n ∈ c.ringBy.l.map (·.1) := by
    have := look_some c.ringBy.l n
    rw [hx] at this
    simpa using this.symm
  refine sd_if (WX.tx (wx_or (tx_not (tx_val (px_c (can_is_name T) hr (ax_cons (px_var 1) ax_nil) ⟨n, by have := isName_len hn; omega, rfl, rfl, rfl⟩ defOk_nil))) fun _ => wx_or1 (tx_dnotin (show A.units + 3 + 1 < cLine by omega) (px_var 1) (px_ringBy T.cls_Course T.na_ring_by (px_var 0))))) (fun h => ?_) (fun _ => sd_nil ?_)
  · simp [hn, hm] at h
  · exact sd_ret (px_dat (show A.units + 3 + 1 < cLine by omega) (px_ringBy T.cls_Course T.na_ring_by (px_var 0)) (px_var 1) hx) ⟨rfl, .is (.is .nil)⟩
theorem fine_folk {d : List (Str × (Int × Int))} {folk : List Str} (h : FolkOk d folk) : Fine folk := fun z hz => isName_ok (h.names z hz)
def r_checked_folk : DE → List (Int × Int) → DE → Prop := fun Γ x Γ' => ∃ (c : Crs) (folk : List Str), FolkOk c.ringBy.l folk ∧ Γ = [.is c, .is folk] ∧ x = folk.map (ringIn c.ringBy.l) ∧ Γ' = Γ
theorem can_checked_folk (T : Txt K mg) : CanM P w K mg base CX0 3 "checked_folk" ps_Course_checked_folk (spM K (nw (Int × Int)) 2 r_checked_folk) := by
  refine canM T.cls_Course T.me_checked_folk T.f_Course_checked_folk sc_Course_checked_folk b_Course_checked_folk fun cdv A outer s H E Γ x Γ' hr hR => ?_
  obtain ⟨c, folk, hf, rfl, rfl, rfl⟩ := hR
  have nd := sc_Course_checked_folk.nd
  have hu : A.units + 3 + 64 < cLine := hr.units
  have hz : folk.length < sizeLine := by rw [sizeLine_eq]; have := hf.few; omega
  have e1 : bootBuiltins "list" = some (.type "list") := by decide +kernel
  have fin := fine_folk hf
  refine sd_if (WX.tx (wx_or (tx_not (tx_val (px_isiV (z := true) (t := "list") T.n_isinstance (px_var 1) (px_ty T.n_list e1) (by decide +kernel) fun _ _ _ _ r le => ty_lst r le))) fun _ => wx_or (tx_eqNil hu (px_var 1).br fun z hz => (fin z hz).2) fun _ => wx_or1 (tx_not (tx_val (px_all T.n_all (PX.nb (px_lc (own := [("name", 2)]) [2] (it_list (px_var 1)) nd hz (f := isName) (Γt := fun x => [.is c, .is folk, .is x])
    (fun x hx s H0 C cl fp => gx_name 2 nd) fun x hx s H0 C cl fp => px_c ((can_is_name T).mono (by decide)) hr (ax_cons (px_var 2) ax_nil) ⟨x, (fin x hx).1, rfl, rfl, rfl⟩ defOk_nil))))))) (fun h => ?_) (fun _ => sd_nil ?_)
  · have : (folk.map isName).all id = true := List.all_eq_true.mpr fun b hb => by
      obtain ⟨z, hz, rfl⟩ := List.mem_map.mp hb
      exact hf.names z hz
    rw [this] at h
    simp [hf.ne] at h
  · refine sd_if (tx_cmp cr_lt (px_unlike T.n_len T.n_set (px_var 1).br (by have := hf.few; omega)) (px_len T.n_len (px_var 1).br)) (fun h => ?_) (fun _ => sd_nil ?_)
    · rw [unlike_eq.mpr hf.once] at h
      simp at h
    · exact sd_ret (px_lc (own := [("name", 2)]) [2] (it_list (px_var 1)) nd hz (f := ringIn c.ringBy.l) (Γt := fun x => [.is c, .is folk, .is x])
        (fun x hx s H0 C cl fp => gx_name 2 nd) fun x hx s H0 C cl fp => px_m (can_ring T) hr (px_var 0) (ax_cons (px_var 2) ax_nil) ⟨c, x, hf.names x hx, (hf.look hx).1, rfl, rfl⟩) ⟨rfl, .is (.is .nil)⟩
end
end P
namespace M
open PySem G
def nmL (n : Nat) : List Nat := (if h : n < 26 then [] else nmL (n / 26 - 1)) ++ [97 + n % 26]
termination_by n
decreasing_by omega
theorem nmL_lt {n : Nat} (h : n < 26) : nmL n = [97 + n] := by
  rw [nmL, dif_pos h, Nat.mod_eq_of_lt h]; rfl
theorem nmL_ge {n : Nat} (h : ¬ n < 26) : nmL n = nmL (n / 26 - 1) ++ [97 + n % 26] := by
  rw [nmL, dif_neg h]
theorem nmL_inj : ∀ (n m : Nat), nmL n = nmL m → n = m := by
  intro n
  induction n using Nat.strongRecOn with
  | _ n ih =>
    intro m e
    have ne : ∀ k, nmL k ≠ [] := fun k z => by rw [nmL] at z; simp at z
    rw [nmL, nmL.eq_def m] at e
    have e1 := List.append_inj_left' e rfl
    have e2 := List.append_inj_right' e rfl
    have e3 : n % 26 = m % 26 := by
      injection e2 with e2 _
      omega
    by_cases h1 : n < 26 <;> by_cases h2 : m < 26
    · omega
    · rw [dif_pos h1, dif_neg h2] at e1; exact absurd e1.symm (ne _)
    · rw [dif_neg h1, dif_pos h2] at e1; exact absurd e1 (ne _)
    · rw [dif_neg h1, dif_neg h2] at e1
      have := ih (n / 26 - 1) (by omega) _ e1
      omega
theorem nmL_len : ∀ {n : Nat}, n < 18702 → 1 ≤ (nmL n).length ∧ (nmL n).length ≤ 4 := by
  have h1 : ∀ n, n < 26 → (nmL n).length = 1 := fun n h => by rw [nmL_lt h]; rfl
  have h2 : ∀ n, n < 702 → 1 ≤ (nmL n).length ∧ (nmL n).length ≤ 2 := fun n h => by
    by_cases z : n < 26
    · rw [h1 n z]; omega
    · rw [nmL_ge z, List.length_append, h1 _ (by omega)]; simp
  have h3 : ∀ n, n < 18278 → 1 ≤ (nmL n).length ∧ (nmL n).length ≤ 3 := fun n h => by
    by_cases z : n < 26
    · rw [h1 n z]; omega
    · have := h2 (n / 26 - 1) (by omega)
      rw [nmL_ge z, List.length_append]
      simp only [List.length_cons, List.length_nil]
      omega
  intro n h
  by_cases z : n < 26
  · rw [h1 n z]; omega
  · have := h3 (n / 26 - 1) (by omega)
    rw [nmL_ge z, List.length_append]
    simp only [List.length_cons, List.length_nil]
    omega
theorem nmL_small (n : Nat) : ∀ c ∈ nmL n, ∃ r, r < 26 ∧ c = 97 + r := by
  induction n using Nat.strongRecOn with
  | _ n ih =>
    intro c hc
    rw [nmL, List.mem_append] at hc
    rcases hc with hc | hc
    · by_cases z : n < 26
      · rw [dif_pos z] at hc; cases hc
      · rw [dif_neg z] at hc
        exact ih _ (by omega) c hc
    · exact ⟨n % 26, Nat.mod_lt _ (by decide), by simpa using hc⟩
/-- the name of a number -/
def nm (n : Nat) : Str := ⟨(nmL n).toArray⟩
theorem nm_inj {n m : Nat} (h : nm n = nm m) : n = m := by
  unfold nm at h
  injection h with h
  exact nmL_inj _ _ (by simpa using congrArg Array.toList h)
theorem small_at : ∀ r, r < 26 → small.cps.toList[r]? = some (97 + r) := by decide +kernel
theorem nm_length (n : Nat) : (nm n).length = (nmL n).length := by simp [nm, Str.length]
theorem nm_ok {n : Nat} (h : n < 18702) : isName (nm n) = true ∧ (nm n).length ≤ 4 := by
  have hl := nmL_len h
  rw [nm_length]
  refine ⟨?_, hl.2⟩
  unfold isName
  rw [nm_length, Bool.and_eq_true, Bool.and_eq_true]
  refine ⟨⟨decide_eq_true (by omega), decide_eq_true (by omega)⟩, ?_⟩
  rw [List.all_eq_true]
  intro b hb
  obtain ⟨z, hz, rfl⟩ := List.mem_map.mp hb
  obtain ⟨c, hc, rfl⟩ := List.mem_map.mp hz
  obtain ⟨r, hr, rfl⟩ := nmL_small n c (by simpa [nm] using hc)
  exact decide_eq_true (List.mem_of_getElem? (small_at r hr))
def firstOf (d : Int) : Int := ([0, 20, 700, 18000] : List Int).getD d.toNat 0
def stepOf (d : Int) : Int := ([1, 3, 7, 11] : List Int).getD d.toNat 1
def stepIn (d m : Int) : Int := if m % stepOf d = 0 then 1 else stepOf d
/-- so many names -/
def namesOf (s : Src) (m : Int) : List Str := (rng 0 m.toNat).map fun a => nm (firstOf (s.draw 4) + a * stepIn ((s.next 4).draw 4) m % m).toNat
theorem first_ok {d : Int} (h0 : 0 ≤ d) (h : d < 4) : 0 ≤ firstOf d ∧ firstOf d ≤ 18000 := by
  have : d = 0 ∨ d = 1 ∨ d = 2 ∨ d = 3 := by omega
  rcases this with rfl | rfl | rfl | rfl <;> decide
theorem step_ok {d : Int} (h0 : 0 ≤ d) (h : d < 4) : stepOf d = 1 ∨ stepOf d = 3 ∨ stepOf d = 7 ∨ stepOf d = 11 := by
  have : d = 0 ∨ d = 1 ∨ d = 2 ∨ d = 3 := by omega
  rcases this with rfl | rfl | rfl | rfl <;> decide
theorem stepIn_ok {d m : Int} (h0 : 0 ≤ d) (h : d < 4) (hm : 0 < m) : 0 < stepIn d m ∧ stepIn d m ≤ 11 ∧ ∀ a b : Int, 0 ≤ a → a < m → 0 ≤ b → b < m → a * stepIn d m % m = b * stepIn d m % m → a = b := by
  have key : ∀ t : Int, (t = 1 ∨ ((t = 3 ∨ t = 7 ∨ t = 11) ∧ m % t ≠ 0)) → ∀ a b : Int, 0 ≤ a → a < m → 0 ≤ b → b < m → a * t % m = b * t % m → a = b := by
    intro t ht a b a0 a1 b0 b1 e
    rw [Int.emod_eq_emod_iff_emod_sub_eq_zero, ← Int.sub_mul] at e
    have e2 : m ∣ (a - b) * t := Int.dvd_of_emod_eq_zero e
    have cop : Int.gcd m t = 1 := by
      rcases ht with rfl | ⟨ht, hn⟩
      · exact Int.gcd_one_right m
      · have hp : ∀ p : Nat, (t : Int) = (p : Int) → (∀ k, k ∣ p → k = 1 ∨ k = p) → 0 < p → Int.gcd m t = 1 := fun p hp hpr h0 => by
          rcases hpr (Int.gcd m t) (by
            have := Int.gcd_dvd_right m t
            rw [hp] at this ⊢
            exact Int.natCast_dvd_natCast.mp this) with z | z
          · exact z
          · exfalso
            have := Int.gcd_dvd_left m t
            rw [z, ← hp] at this
            exact hn (Int.emod_eq_zero_of_dvd this)
        have pr : ∀ p : Nat, p ≤ 11 → (∀ k, k ≤ 11 → k ∣ p → k = 1 ∨ k = p) → 0 < p → ∀ k, k ∣ p → k = 1 ∨ k = p := fun p hp h h0 k hk => h k (Nat.le_trans (Nat.le_of_dvd h0 hk) hp) hk
        rcases ht with rfl | rfl | rfl
        · exact hp 3 rfl (pr 3 (by decide) (by decide) (by decide)) (by decide)
        · exact hp 7 rfl (pr 7 (by decide) (by decide) (by decide)) (by decide)
        · exact hp 11 rfl (pr 11 (by decide) (by decide) (by decide)) (by decide)
    have e3 : m ∣ a - b := Int.natAbs_dvd_natAbs.mp (Nat.Coprime.dvd_of_dvd_mul_right (k := m.natAbs) (n := t.natAbs) cop (by rw [← Int.natAbs_mul]; exact Int.natAbs_dvd_natAbs.mpr e2))
    rcases Int.lt_trichotomy (a - b) 0 with z | z | z
    · have := Int.le_of_dvd (show 0 < -(a - b) by omega) (Int.dvd_neg.mpr e3)
      omega
    · omega
    · have := Int.le_of_dvd z e3
      omega
  have hs := step_ok h0 h
  unfold stepIn
  split
  · exact ⟨by decide, by decide, key 1 (.inl rfl)⟩
  · rename_i hn
    refine ⟨by omega, by omega, key _ ?_⟩
    rcases hs with e | e
    · exact .inl e
    · exact .inr ⟨e, hn⟩
structure NamesOk (l : List Str) (m : Int) : Prop where
  len : (l.length : Int) = m
  names : ∀ z ∈ l, isName z = true ∧ z.length ≤ 4
  once : l.Nodup
theorem num_ok {s : Src} {m a : Int} (h1 : m ≤ 700) (ha : 0 ≤ a ∧ a < m) : 0 ≤ firstOf (s.draw 4) + a * stepIn ((s.next 4).draw 4) m % m ∧ firstOf (s.draw 4) + a * stepIn ((s.next 4).draw 4) m % m < 18702 := by
  have f := first_ok (d := s.draw 4) (draw_nn (by decide)) (draw_lt (by decide))
  have e1 := Int.emod_nonneg (a * stepIn ((s.next 4).draw 4) m) (show m ≠ 0 by omega)
  have e2 := Int.emod_lt_of_pos (a * stepIn ((s.next 4).draw 4) m) (show 0 < m by omega)
  omega
theorem names_ok (s : Src) {m : Int} (h0 : 0 ≤ m) (h1 : m ≤ 700) : NamesOk (namesOf s m) m := by
  refine ⟨by unfold namesOf; rw [List.length_map, rng_len]; omega, fun z hz => ?_, ?_⟩
  · obtain ⟨a, ha, rfl⟩ := List.mem_map.mp hz
    have ha := rng_mem ha
    have := num_ok (s := s) h1 (a := a) ⟨by omega, by omega⟩
    exact nm_ok (by omega)
  · unfold namesOf List.Nodup
    rw [List.pairwise_map]
    have hr : (rng 0 m.toNat).Pairwise (· ≠ ·) := by
      unfold rng
      rw [List.pairwise_map]
      exact List.nodup_range.imp fun {a b} h e => h (by omega)
    refine hr.imp_of_mem fun {a b} ha hb ne e => ne ?_
    have ha := rng_mem ha
    have hb := rng_mem hb
    have na := num_ok (s := s) h1 (a := a) ⟨by omega, by omega⟩
    have nb := num_ok (s := s) h1 (a := b) ⟨by omega, by omega⟩
    have e := nm_inj e
    have hs := stepIn_ok (d := (s.next 4).draw 4) (m := m) (draw_nn (by decide)) (draw_lt (by decide)) (by omega)
    exact hs.2.2 a b (by omega) (by omega) (by omega) (by omega) (by omega)
/-- companies of drawn sizes -/
def mostOf (d : Int) : Int := ([1, 2, 3, 5, 9, 40] : List Int).getD d.toNat 1
theorem most_ok {d : Int} (h0 : 0 ≤ d) (h : d < 6) : 0 < mostOf d ∧ mostOf d ≤ 40 := by
  have : d = 0 ∨ d = 1 ∨ d = 2 ∨ d = 3 ∨ d = 4 ∨ d = 5 := by omega
  rcases this with rfl | rfl | rfl | rfl | rfl | rfl <;> decide
def cutUp (most : Int) (s : Src) (left : List Str) : Stg × Src :=
  if h : left = [] then ([], s) else
    (left.take (max 1 (min (1 + s.draw most) left.length).toNat) :: (cutUp most (s.next most) (left.drop (max 1 (min (1 + s.draw most) left.length).toNat))).1, (cutUp most (s.next most) (left.drop (max 1 (min (1 + s.draw most) left.length).toNat))).2)
termination_by left.length
decreasing_by all_goals (have := List.length_pos_iff.mpr h; rw [List.length_drop]; omega)
theorem cutUp_nil (most : Int) (s : Src) : cutUp most s [] = ([], s) := by rw [cutUp, dif_pos rfl]
theorem cutUp_step {most : Int} (hm : 0 < most) (s : Src) {left : List Str} (h : left ≠ []) : cutUp most s left =
    (left.take (min (1 + s.draw most) left.length).toNat :: (cutUp most (s.next most) (left.drop (min (1 + s.draw most) left.length).toNat)).1, (cutUp most (s.next most) (left.drop (min (1 + s.draw most) left.length).toNat)).2) := by
  have hl := List.length_pos_iff.mpr h
  have hd := draw_nn (s := s) hm
  have e : max 1 (min (1 + s.draw most) left.length).toNat = (min (1 + s.draw most) left.length).toNat := by omega
  rw [cutUp, dif_neg h, e]
theorem cutUp_ok {most : Int} (hm : 0 < most) : ∀ (n : Nat) (s : Src) (left : List Str), left.length ≤ n → folk (cutUp most s left).1 = left ∧ ∀ c ∈ (cutUp most s left).1, c ≠ []
  | 0, s, left, h => by
    have : left = [] := List.eq_nil_of_length_eq_zero (by omega)
    subst this
    rw [cutUp_nil]
    exact ⟨rfl, fun c h => by cases h⟩
  | n + 1, s, left, h => by
    by_cases z : left = []
    · subst z
      rw [cutUp_nil]
      exact ⟨rfl, fun c h => by cases h⟩
    · have hl := List.length_pos_iff.mpr z
      have hd := draw_nn (s := s) hm
      rw [cutUp_step hm s z]
      generalize hk : (min (1 + s.draw most) (left.length : Int)).toNat = k
      have hk1 : 1 ≤ k := by
        rw [← hk]
        have : (1 : Int) ≤ min (1 + s.draw most) (left.length : Int) := Int.le_min.mpr ⟨by omega, by omega⟩
        omega
      obtain ⟨a, b⟩ := cutUp_ok hm n (s.next most) (left.drop k) (by rw [List.length_drop]; omega)
      refine ⟨?_, fun c hc => ?_⟩
      · show left.take k ++ folk _ = left
        rw [a, List.take_append_drop]
      · rcases List.mem_cons.mp hc with rfl | hc
        · intro y
          have := congrArg List.length y
          rw [List.length_take, List.length_nil] at this
          clear hk a b y
          omega
        · exact b c hc
def standOf (s : Src) (l : List Str) : Stg := (cutUp (mostOf (s.draw 6)) (s.next 6) l).1
def standSrc (s : Src) (l : List Str) : Src := (cutUp (mostOf (s.draw 6)) (s.next 6) l).2
theorem stand_folk (s : Src) (l : List Str) : folk (standOf s l) = l := (cutUp_ok (most_ok (draw_nn (by decide)) (draw_lt (by decide))).1 _ _ _ (Nat.le_refl _)).1
theorem stand_good (s : Src) {l : List Str} {m : Int} (h : NamesOk l m) (hm : m ≤ 450) : Good (standOf s l) := by
  refine ⟨(cutUp_ok (most_ok (draw_nn (by decide)) (draw_lt (by decide))).1 _ _ _ (Nat.le_refl _)).2, fun c hc n hn => ?_, by rw [stand_folk]; exact h.once, by rw [stand_folk]; have := h.len; omega⟩
  have : n ∈ folk (standOf s l) := folk_mem.mpr ⟨c, hc, hn⟩
  rw [stand_folk] at this
  exact (h.names n this).1
end M
namespace L
open PySem PySem.Spec PyProof.Rows L2 G M
/-- a place of a text -/
theorem px_ixStr {X : Cx} {Γ Γ1 Γ2 : DE} {a b : Expr} {pos : Pos} {z : Str} {i : Int} {c : Nat} (ha : PX X (sh Str) Γ a z Γ1) (hb : PX X (sh Int) Γ1 b i Γ2) (hz : z.length ≤ sizeLine) (h : atI z.cps.toList i = some c) (hp : PlainIx b := by exact fun _ _ => rfl) : PX X (sh Str) Γ (.Subscript a b pos) (⟨#[c]⟩ : Str) Γ2 :=
  px_sc ha hb (pe_ix ix_seq pE pE hp) fun F0 H0 F H v w Q le hv hw q => .inr (.inr ⟨z, i, c, hv, hw, hz, h, q _ rfl⟩)
section
variable {P : Program} {w : World} {K : PySem.W.Frag} {mg : Str → Option Value} {base : Heap}
def r_lname : DE → Str → DE → Prop := fun Γ x Γ' => ∃ n : Int, 0 ≤ n ∧ n < 18702 ∧ Γ = [.is n] ∧ x = nm n.toNat ∧ Γ' = Γ
theorem can_lname (T : Txt K mg) : Can P w K mg base CX0 1 "_law_name" ps__law_name [] (spM K (sh Str) 1 r_lname) := by
  refine canD T.d__law_name sc__law_name b__law_name fun cdv A outer s H E Γ x Γ' hr hR => ?_
  obtain ⟨n, n0, n1, rfl, rfl, rfl⟩ := hR
  obtain ⟨n, rfl⟩ : ∃ k : Nat, n = (k : Int) := ⟨n.toNat, by omega⟩
  rw [Int.toNat_natCast]
  have nd := sc__law_name.nd
  let pre : Int → List Nat := fun k => if 0 ≤ k then nmL k.toNat else []
  refine sd_set 1 px_str ?_ nd
  refine sd_while (N := fun Γ' => ∃ k : Int, Γ' = ([.is k, .is (nm n)] : DE)) (fun s : Int × Str => ([.is s.1, .is s.2] : DE)) (fun s => -1 ≤ s.1 ∧ pre s.1 ++ s.2.cps.toList = nmL n) (fun s => (s.1 + 1).toNat) (fun s => decide (0 ≤ s.1)) ((n : Int), (⟨#[]⟩ : Str)) ⟨by omega, ?_⟩ Wk.refl (fun s _ => tx_cmp cr_ge (px_var 0) px_int) (fun s ⟨h0, hs⟩ hb => ?_) (fun s ⟨h0, hs⟩ hb => ?_) (fun Γ' ⟨k, e⟩ => ?_)
  · show (if (0 : Int) ≤ (n : Int) then nmL (n : Int).toNat else []) ++ [] = nmL n
    rw [if_pos (by omega), Int.toNat_natCast, List.append_nil]
  · have hb : 0 ≤ s.1 := of_decide_eq_true hb
    obtain ⟨k, z⟩ := s
    dsimp only at h0 hs hb ⊢
    obtain ⟨k, rfl⟩ : ∃ j : Nat, k = (j : Int) := ⟨k.toNat, by omega⟩
    have hs : (if (0 : Int) ≤ (k : Int) then nmL (k : Int).toNat else []) ++ z.cps.toList = nmL n := hs
    rw [if_pos hb, Int.toNat_natCast] at hs
    have hzl : z.length ≤ 4 := by
      have := congrArg List.length hs
      have h2 := (nmL_len (n := n) (by omega)).2
      rw [List.length_append] at this
      have e : z.length = z.cps.toList.length := rfl
      omega
    have at_ : atI small.cps.toList ((k : Int) % 26) = some (97 + k % 26) := by
      have e : ((k : Int) % 26) = ((k % 26 : Nat) : Int) := by omega
      rw [e]
      exact atI_nat (small_at _ (Nat.mod_lt _ (by decide)))
    have hsl : small.length ≤ sizeLine := by decide +kernel
    refine sd_set 1 (px_cadd (px_ixStr (z := small) px_str (px_mod (px_var 0) px_int (by decide)) hsl at_) (px_var 1) (by rw [sizeLine_eq]; show 1 + z.length ≤ _; omega)) ?_ nd
    refine sd_set 0 (px_sub (px_div (px_var 0) px_int (div_ok (by decide) (by decide))) px_int) (sd_nil ⟨((k : Int) / 26 - 1, (⟨#[97 + k % 26]⟩ : Str) ++ z), ⟨by omega, ?_⟩, by show ((k : Int) / 26 - 1 + 1).toNat < ((k : Int) + 1).toNat; omega, Wk.refl⟩) nd
    show (if (0 : Int) ≤ (k : Int) / 26 - 1 then nmL ((k : Int) / 26 - 1).toNat else []) ++ ((⟨#[97 + k % 26]⟩ : Str) ++ z).cps.toList = nmL n
    have e2 : ((⟨#[97 + k % 26]⟩ : Str) ++ z).cps.toList = [97 + k % 26] ++ z.cps.toList := by
      show (#[97 + k % 26] ++ z.cps).toList = _
      rw [Array.toList_append]
    rw [e2, ← List.append_assoc, ← hs]
    congr 1
    by_cases q : k < 26
    · rw [if_neg (by omega), nmL_lt q, Nat.mod_eq_of_lt q]; rfl
    · rw [if_pos (by omega), nmL_ge q]
      congr 2
      omega
  · have hb : ¬ 0 ≤ s.1 := of_decide_eq_false hb
    obtain ⟨k, z⟩ := s
    dsimp only at h0 hs hb ⊢
    have hs : (if (0 : Int) ≤ k then nmL k.toNat else []) ++ z.cps.toList = nmL n := hs
    rw [if_neg hb, List.nil_append] at hs
    refine ⟨k, ?_⟩
    have : z = nm n := by
      unfold nm
      obtain ⟨c⟩ := z
      congr 1
      rw [← hs]
    rw [this]
  · subst e
    exact sd_ret (px_var 1) ⟨rfl, .is .nil⟩
end
end L
namespace M
section
variable {α : Type}
/-- who of the ring n + p + 1 stands at the place p of company n, j days behind -/
def back (j n L : Nat) : Nat := (((n : Int) - (j : Int)) % (L : Int)).toNat
def turnT (S : List (List α)) (j n p : Nat) : Option α := cell S (back j n (n + p + 1)) (n + p - back j n (n + p + 1))
theorem back_lt {j n L : Nat} (h : 0 < L) : back j n L < L := by
  have h1 := Int.emod_lt_of_pos ((n : Int) - (j : Int)) (show (0 : Int) < (L : Int) by omega)
  have h2 := Int.emod_nonneg ((n : Int) - (j : Int)) (show (L : Int) ≠ 0 by omega)
  unfold back; omega
theorem back_zero {n L : Nat} (h : n < L) : back 0 n L = n := by
  unfold back
  rw [show ((n : Int) - ((0 : Nat) : Int)) = (n : Int) by omega, Int.emod_eq_of_lt (by omega) (by omega)]
  omega
theorem back_succ {j n L : Nat} : back (j + 1) (n + 1) L = back j n L := by
  unfold back
  rw [show (((n + 1 : Nat) : Int) - ((j + 1 : Nat) : Int)) = (n : Int) - (j : Int) by omega]
theorem back_first {j p : Nat} : back (j + 1) 0 (p + 1) = back j p (p + 1) := by
  unfold back
  rw [show (((0 : Nat) : Int) - ((j + 1 : Nat) : Int)) = (p : Int) - (j : Int) - ((p + 1 : Nat) : Int) by omega, Int.sub_emod_right]
theorem turn_zero {S : List (List α)} {n p : Nat} : turnT S 0 n p = cell S n p := by
  unfold turnT
  rw [back_zero (by omega), show n + p - n = p by omega]
theorem turn_succ {S : List (List α)} {j n p : Nat} : turnT S (j + 1) (n + 1) p = turnT S j n (p + 1) := by
  unfold turnT
  rw [show n + 1 + p + 1 = n + (p + 1) + 1 by omega, back_succ, show n + 1 + p = n + (p + 1) by omega]
theorem turn_first {S : List (List α)} {j p : Nat} : turnT S (j + 1) 0 p = turnT S j p 0 := by
  unfold turnT
  rw [show 0 + p + 1 = p + 1 by omega, show p + 0 + 1 = p + 1 by omega, back_first, show 0 + p = p by omega, show p + 0 = p by omega]
/-- full rings below k, the greatest ring g -/
structure Rings (S : List (List α)) (k g : Nat) : Prop where
  lo : ∀ n p, n + p < k → (cell S n p).isSome
  up : ∀ n p, g ≤ n + p → cell S n p = none
  kg : k ≤ g ∧ g ≤ k + 1
  full : Full S
theorem turn_lo {S : List (List α)} {k g : Nat} (R : Rings S k g) {j n p : Nat} (h : n + p < k) : (turnT S j n p).isSome := by
  unfold turnT
  have := back_lt (j := j) (n := n) (show 0 < n + p + 1 by omega)
  exact R.lo _ _ (by omega)
def rowT (S : List (List α)) (j g n : Nat) : List α := (List.range (g - n)).filterMap (turnT S j n)
def arrT (S : List (List α)) (j g : Nat) : List (List α) := (List.range g).map (rowT S j g)
theorem row_parts {S : List (List α)} {k g : Nat} (R : Rings S k g) {j n : Nat} (h : n < g) :
    (rowT S j g n).head? = turnT S j n 0 ∧ (rowT S j g n).tail = (List.range (g - (n + 1))).filterMap fun p => turnT S j n (p + 1) := by
  unfold rowT
  rw [show g - n = g - (n + 1) + 1 by omega, List.range_succ_eq_map, List.filterMap_cons]
  cases q : turnT S j n 0 with
  | none =>
    have : ¬ n < k := fun z => by
      have := turn_lo R (j := j) (n := n) (p := 0) (by omega)
      rw [q] at this; cases this
    have := R.kg
    rw [show g - (n + 1) = 0 by omega]
    exact ⟨rfl, rfl⟩
  | some x =>
    refine ⟨rfl, ?_⟩
    rw [List.filterMap_map]
    rfl
theorem arr_step {S : List (List α)} {k g : Nat} (R : Rings S k g) (j : Nat) : clean (stepA (arrT S j g)) = clean (arrT S (j + 1) g) := by
  have e1 : (arrT S j g).filterMap List.head? = rowT S (j + 1) g 0 := by
    unfold arrT rowT
    rw [List.filterMap_map]
    have : ∀ l : List Nat, (∀ n ∈ l, n < g) → l.filterMap (List.head? ∘ fun n => (List.range (g - n)).filterMap (turnT S j n)) = l.filterMap (turnT S (j + 1) 0) := by
      intro l
      induction l with
      | nil => intro _; rfl
      | cons n r ih =>
        intro hl
        rw [List.filterMap_cons, List.filterMap_cons, ih fun m hm => hl m (List.mem_cons_of_mem _ hm), turn_first]
        show (match (rowT S j g n).head? with | none => _ | some _ => _) = _
        rw [(row_parts R (hl n List.mem_cons_self)).1]
        cases turnT S j n 0 <;> rfl
    exact this _ fun n hn => List.mem_range.mp hn
  have e2 : (arrT S j g).map List.tail = (List.range g).map fun n => rowT S (j + 1) g (n + 1) := by
    unfold arrT
    rw [List.map_map]
    refine List.map_congr_left fun n hn => ?_
    show (rowT S j g n).tail = _
    rw [(row_parts R (List.mem_range.mp hn)).2]
    unfold rowT
    congr 1
    funext p
    exact turn_succ.symm
  unfold stepA
  rw [e1, e2]
  cases g with
  | zero => rfl
  | succ g =>
    have e3 : arrT S (j + 1) (g + 1) = rowT S (j + 1) (g + 1) 0 :: (List.range g).map fun n => rowT S (j + 1) (g + 1) (n + 1) := by
      unfold arrT
      rw [List.range_succ_eq_map, List.map_cons, List.map_map]
      rfl
    have e4 : rowT S (j + 1) (g + 1) (g + 1) = [] := by
      unfold rowT
      rw [Nat.sub_self]; rfl
    rw [e3, List.range_succ, List.map_append, List.map_cons, List.map_nil, e4]
    have : ∀ A : List (List α), clean (A ++ [[]]) = clean A := fun A => by
      rw [clean_append]
      show clean A ++ [] = _
      rw [List.append_nil]
    rw [← List.cons_append]
    exact this _
theorem cells_of {S : List (List α)} {n : Nat} {c : List α} (h : S[n]? = some c) : cell S n = fun p => c[p]? := by
  funext p
  unfold cell
  rw [h]; rfl
theorem filterMap_get (c : List α) : ∀ m : Nat, c.length ≤ m → (List.range m).filterMap (fun p => c[p]?) = c := by
  induction c with
  | nil =>
    intro m _
    rw [List.filterMap_eq_nil_iff]
    intro p _
    rfl
  | cons x r ih =>
    intro m hm
    cases m with
    | zero => simp at hm
    | succ m =>
      rw [List.range_succ_eq_map, List.filterMap_cons]
      show x :: List.filterMap _ _ = _
      rw [List.filterMap_map]
      congr 1
      exact ih m (by simpa using hm)
theorem row_zero {S : List (List α)} {k g : Nat} (R : Rings S k g) {n : Nat} {c : List α} (h : S[n]? = some c) : rowT S 0 g n = c := by
  unfold rowT
  have e : turnT S 0 n = fun p => c[p]? := by
    funext p
    rw [turn_zero, cells_of h]
  rw [e]
  refine filterMap_get c _ ?_
  refine Nat.le_of_not_lt fun z => ?_
  have := R.up n (g - n) (by omega)
  rw [cells_of h] at this
  have this : c[g - n]? = none := this
  rw [List.getElem?_eq_getElem z] at this
  cases this
theorem rings_len {S : List (List α)} {k g : Nat} (R : Rings S k g) : S.length ≤ g := by
  refine Nat.le_of_not_lt fun z => ?_
  have h1 := R.up g 0 (by omega)
  have h2 : S[g]? = some S[g] := List.getElem?_eq_getElem z
  rw [cells_of h2] at h1
  have h3 := R.full S[g] (List.getElem_mem z)
  have h1 := List.getElem?_eq_none_iff.mp h1
  exact h3 (List.eq_nil_of_length_eq_zero (by omega))
theorem row_out {S : List (List α)} {g n : Nat} (h : S.length ≤ n) : rowT S 0 g n = [] := by
  unfold rowT
  rw [List.filterMap_eq_nil_iff]
  intro p _
  rw [turn_zero]
  unfold cell
  rw [List.getElem?_eq_none h]
  rfl
theorem arr_zero {S : List (List α)} {k g : Nat} (R : Rings S k g) : clean (arrT S 0 g) = S := by
  have hl := rings_len R
  have e : arrT S 0 g = S ++ List.replicate (g - S.length) [] := by
    apply List.ext_getElem?
    intro n
    unfold arrT
    by_cases h : n < S.length
    · rw [List.getElem?_map, List.getElem?_range (by omega), List.getElem?_append_left h, List.getElem?_eq_getElem h]
      show some _ = _
      rw [row_zero R (List.getElem?_eq_getElem h)]
    · rw [List.getElem?_append_right (by omega), List.getElem?_replicate, List.getElem?_map]
      by_cases h2 : n < g
      · rw [List.getElem?_range h2, if_pos (by omega)]
        show some _ = _
        rw [row_out (by omega)]
      · rw [if_neg (by omega), List.getElem?_eq_none (by simpa using Nat.le_of_not_lt h2)]
        rfl
  rw [e, clean_append, clean_full R.full, clean_empty fun c hc => (List.mem_replicate.mp hc).2, List.append_nil]
/-- THE RINGS: what stands j days behind a settled day -/
theorem it_rings {S : List (List α)} {k g : Nat} (R : Rings S k g) : ∀ j, it j S = clean (arrT S j g)
  | 0 => (arr_zero R).symm
  | j + 1 => by
    show behind (it j S) = _
    rw [it_rings R j, behind_clean, arr_step R]
end
end M
namespace M
open PySem G
theorem fold_put_new {κ α β : Type} [DecidableEq κ] (key : β → κ) (val : β → α) : ∀ (l : List β) (acc : List (κ × α)), (acc.map (·.1) ++ l.map key).Nodup → l.foldl (fun acc b => put acc (key b) (val b)) acc = acc ++ l.map fun b => (key b, val b)
  | [], acc, _ => by simp
  | b :: r, acc, h => by
    have hb : (acc.any fun p => decide (p.1 = key b)) = false := by
      rw [List.any_eq_false]
      intro p hp z
      have z := of_decide_eq_true z
      rw [List.map_cons, List.nodup_append] at h
      exact h.2.2 p.1 (List.mem_map.mpr ⟨p, hp, rfl⟩) (key b) List.mem_cons_self z
    have e : put acc (key b) (val b) = acc ++ [(key b, val b)] := by
      unfold put
      rw [hb]; rfl
    rw [List.foldl_cons, e, fold_put_new key val r]
    · rw [List.append_assoc]; rfl
    · rw [List.map_append, List.append_assoc]
      exact h
theorem fold_flat {α β γ : Type} (g : α → List β) (h : γ → β → γ) : ∀ (l : List α) (acc : γ), l.foldl (fun acc y => (g y).foldl h acc) acc = (l.flatMap g).foldl h acc
  | [], acc => rfl
  | y :: r, acc => by rw [List.foldl_cons, List.flatMap_cons, List.foldl_append, fold_flat g h r]
theorem look_iff {κ α : Type} [DecidableEq κ] {l : List (κ × α)} (h : (l.map (·.1)).Nodup) {k : κ} {v : α} : look l k = some v ↔ (k, v) ∈ l := by
  refine ⟨look_mem, fun m => ?_⟩
  induction l with
  | nil => cases m
  | cons p r ih =>
    rw [List.map_cons, List.nodup_cons] at h
    unfold look
    by_cases z : p.1 = k
    · rw [List.find?_cons_of_pos (by simpa using z)]
      rcases List.mem_cons.mp m with e | m
      · rw [← e]; rfl
      · exact absurd (List.mem_map.mpr ⟨_, m, z.symm⟩) h.1
    · rw [List.find?_cons_of_neg (by simpa using z)]
      rcases List.mem_cons.mp m with e | m
      · rw [← e] at z; exact absurd rfl z
      · exact ih h.2 m
/-- who has which ring and remainder, when S stands on day f -/
def cellsOf (S : Stg) (f : Int) : List (Str × (Int × Int)) := (enum S).flatMap fun y => (enum y.2).map fun z => (z.2, (y.1 + z.1 + 1, (f - y.1) % (y.1 + z.1 + 1)))
theorem enum_mem {α : Type} {xs : List α} {y : Int × α} : y ∈ enum xs ↔ ∃ i : Nat, y.1 = (i : Int) ∧ xs[i]? = some y.2 := by
  constructor
  · intro h
    obtain ⟨i, hi⟩ := List.mem_iff_getElem?.mp h
    obtain ⟨a, b⟩ := enum_get hi
    exact ⟨i, a, b⟩
  · rintro ⟨i, a, b⟩
    have := List.mem_of_getElem? (enum_at b)
    have e : y = ((i : Int), y.2) := Prod.ext a rfl
    rw [e]; exact this
theorem enum_map {α β : Type} (f : α → β) : ∀ xs : List α, (enum xs).map (fun y => f y.2) = xs.map f := by
  intro xs
  apply List.ext_getElem?
  intro i
  rw [List.getElem?_map, List.getElem?_map]
  cases q : xs[i]? with
  | none =>
    rw [List.getElem?_eq_none (by rw [enum_len]; exact List.getElem?_eq_none_iff.mp q)]
    rfl
  | some x => rw [enum_at q]; rfl
theorem cell_iff {S : Stg} {n p : Nat} {x : Str} : cell S n p = some x ↔ ∃ c, S[n]? = some c ∧ c[p]? = some x := by
  unfold cell
  cases q : S[n]? with
  | none => simp
  | some c => simp
theorem mem_cells {S : Stg} {f : Int} {x : Str} {k : Int × Int} : (x, k) ∈ cellsOf S f ↔ ∃ n p : Nat, cell S n p = some x ∧ k = ((n : Int) + p + 1, (f - n) % ((n : Int) + p + 1)) := by
  unfold cellsOf
  rw [List.mem_flatMap]
  constructor
  · rintro ⟨y, hy, h⟩
    obtain ⟨z, hz, e⟩ := List.mem_map.mp h
    obtain ⟨n, y1, y2⟩ := enum_mem.mp hy
    obtain ⟨p, z1, z2⟩ := enum_mem.mp hz
    refine ⟨n, p, cell_iff.mpr ⟨y.2, y2, ?_⟩, ?_⟩
    · rw [z2, (Prod.mk.inj e).1]
    · rw [← (Prod.mk.inj e).2, y1, z1]
  · rintro ⟨n, p, hc, rfl⟩
    obtain ⟨c, h1, h2⟩ := cell_iff.mp hc
    exact ⟨((n : Int), c), enum_mem.mpr ⟨n, rfl, h1⟩, List.mem_map.mpr ⟨((p : Int), x), enum_mem.mpr ⟨p, rfl, h2⟩, rfl⟩⟩
theorem cells_names (S : Stg) (f : Int) : (cellsOf S f).map (·.1) = folk S := by
  unfold cellsOf folk
  rw [List.map_flatMap]
  have e : ∀ y : Int × List Str, ((enum y.2).map fun z => (z.2, (y.1 + z.1 + 1, (f - y.1) % (y.1 + z.1 + 1)))).map (·.1) = y.2 := fun y => by
    rw [List.map_map]
    have := enum_map (fun x : Str => x) y.2
    rw [List.map_id'] at this
    exact this
  rw [show (fun y : Int × List Str => ((enum y.2).map fun z => (z.2, (y.1 + z.1 + 1, (f - y.1) % (y.1 + z.1 + 1)))).map (·.1)) = fun y => y.2 from funext e]
  have : ∀ l : List (Int × List Str), l.flatMap (fun y => y.2) = (l.map fun y => y.2).flatMap id := fun l => by
    induction l with
    | nil => rfl
    | cons y r ih => rw [List.flatMap_cons, List.map_cons, List.flatMap_cons, ih]; rfl
  rw [this]
  have := enum_map (fun x : List Str => x) S
  rw [List.map_id'] at this
  rw [this]
/-- a ring and a remainder tell the place -/
theorem key_inj {f : Int} {n p n' p' : Nat} (h : (((n : Int) + p + 1, (f - n) % ((n : Int) + p + 1)) : Int × Int) = ((n' : Int) + p' + 1, (f - n') % ((n' : Int) + p' + 1))) : n = n' ∧ p = p' := by
  obtain ⟨e1, e2⟩ := Prod.mk.inj h
  have e3 : n + p = n' + p' := by omega
  have hL : ((n' : Int) + p' + 1) = ((n + p + 1 : Nat) : Int) := by omega
  rw [hL, show ((n : Int) + p + 1) = ((n + p + 1 : Nat) : Int) by omega, Int.emod_eq_emod_iff_emod_sub_eq_zero] at e2
  have e4 : ((n + p + 1 : Nat) : Int) ∣ (f - n) - (f - n') := Int.dvd_of_emod_eq_zero e2
  have e5 : (f - n) - (f - n') = (n' : Int) - n := by omega
  rw [e5] at e4
  have e6 : (n' : Int) - n = 0 := by
    rcases Int.lt_trichotomy ((n' : Int) - n) 0 with z | z | z
    · have := Int.le_of_dvd (show 0 < -((n' : Int) - n) by omega) (Int.dvd_neg.mpr e4)
      omega
    · exact z
    · have := Int.le_of_dvd z e4
      omega
  omega
theorem cells_nodup {S : Stg} (f : Int) (h : (folk S).Nodup) : ((cellsOf S f).map (·.2)).Nodup := by
  have h1 : ((cellsOf S f).map (·.1)).Nodup := by rw [cells_names]; exact h
  unfold List.Nodup at h1 ⊢
  rw [List.pairwise_map] at h1 ⊢
  refine h1.imp_of_mem fun {a b} ha hb ne e => ne ?_
  obtain ⟨x, k⟩ := a
  obtain ⟨y, l⟩ := b
  obtain ⟨n, p, hc, rfl⟩ := mem_cells.mp ha
  obtain ⟨n', p', hc', rfl⟩ := mem_cells.mp hb
  obtain ⟨rfl, rfl⟩ := key_inj e
  rw [hc] at hc'
  exact Option.some.inj hc'
theorem ringBy_eq {S : Stg} (f : Int) (h : (folk S).Nodup) :
    (enum S).foldl (fun acc y => (enum y.2).foldl (fun acc z => put acc z.2 (y.1 + z.1 + 1, (f - y.1) % (y.1 + z.1 + 1))) acc) [] = cellsOf S f := by
  have e := fold_flat (fun y : Int × List Str => (enum y.2).map fun z => (z.2, (y.1 + z.1 + 1, (f - y.1) % (y.1 + z.1 + 1)))) (fun (acc : List (Str × (Int × Int))) b => put acc b.1 b.2) (enum S) []
  have e2 := fold_put_new (fun b : Str × (Int × Int) => b.1) (fun b => b.2) (cellsOf S f) [] (by rw [List.map_nil, List.nil_append, cells_names]; exact h)
  rw [List.nil_append, show (cellsOf S f).map (fun b => (b.1, b.2)) = cellsOf S f from List.map_id' _] at e2
  rw [← e2]
  unfold cellsOf
  rw [← e]
  congr 1
  funext acc y
  rw [List.foldl_map]
theorem turned_eq {S : Stg} (f : Int) (h : (folk S).Nodup) : turned (cellsOf S f) = (cellsOf S f).map fun b => (b.2, b.1) := by
  have e2 := fold_put_new (fun b : Str × (Int × Int) => b.2) (fun b => b.1) (cellsOf S f) [] (by rw [List.map_nil, List.nil_append]; exact cells_nodup f h)
  exact e2
/-- the course that begins with S and has settled on day f -/
def mkCrs (S : Stg) (f : Nat) : Crs where
  rows := (List.range (f + 1)).map fun d => it d S
  begin_ := f
  deedDays := []
  ringBy := ⟨cellsOf (it f S) f⟩
  nameBy := ⟨(cellsOf (it f S) f).map fun b => (b.2, b.1)⟩
  greatest := top 0 ((cellsOf (it f S) f).map fun b => b.2.1)
theorem folk_perm : ∀ A : Stg, (folk (stepA A)).Perm (folk A)
  | [] => by simp [folk, stepA]
  | [] :: r => by
    have ih := folk_perm r
    unfold stepA folk at ih ⊢
    rw [List.filterMap_cons, List.map_cons, List.flatMap_cons, List.flatMap_cons, List.flatMap_cons]
    rw [List.flatMap_cons] at ih
    exact ih
  | (x :: c) :: r => by
    have ih := folk_perm r
    unfold stepA folk at ih ⊢
    simp only [List.filterMap_cons, List.head?_cons, List.map_cons, List.tail_cons, List.flatMap_cons, id] at ih ⊢
    rw [List.cons_append, List.cons_append]
    refine List.Perm.cons x ?_
    rw [← List.append_assoc]
    refine (List.Perm.append_right _ List.perm_append_comm).trans ?_
    rw [List.append_assoc]
    exact List.Perm.append_left c ih
theorem folk_clean : ∀ A : Stg, folk (clean A) = folk A
  | [] => rfl
  | [] :: r => by
    show folk (clean r) = _
    rw [folk_clean r]; rfl
  | (x :: c) :: r => by
    show folk ((x :: c) :: clean r) = _
    have ih := folk_clean r
    unfold folk at ih ⊢
    rw [List.flatMap_cons, List.flatMap_cons, ih]
theorem Good.full' {S : Stg} (h : Good S) : Full S := h.full
theorem folk_behind {S : Stg} (h : Full S) : (folk (behind S)).Perm (folk S) := by
  have e := behind_clean S
  rw [clean_full h] at e
  rw [e, folk_clean]
  exact folk_perm S
theorem Good.behind {S : Stg} (h : Good S) : Good (behind S) := by
  have e := behind_clean S
  rw [clean_full h.full'] at e
  have hp := folk_behind h.full'
  refine ⟨by rw [e]; exact full_clean _, fun c hc n hn => ?_, hp.nodup_iff.mpr h.once, by rw [hp.length_eq]; exact h.few⟩
  have m : n ∈ folk (M.behind S) := folk_mem.mpr ⟨c, hc, hn⟩
  obtain ⟨c', hc', hn'⟩ := folk_mem.mp (hp.mem_iff.mp m)
  exact h.names c' hc' n hn'
theorem Good.it {S : Stg} (h : Good S) : ∀ d, Good (it d S)
  | 0 => h
  | d + 1 => (h.it d).behind
theorem folk_it {S : Stg} (h : Full S) : ∀ d, (folk (it d S)).Perm (folk S)
  | 0 => .refl _
  | d + 1 => (folk_behind (full_it h d)).trans (folk_it h d)
theorem shape_cell {S : Stg} {k n p : Nat} (hs : IsShape S k) (h : (cell S n p).isSome) : n + p + 1 ≤ k + 1 := by
  obtain ⟨x, hx⟩ := Option.isSome_iff_exists.mp h
  obtain ⟨c, h1, h2⟩ := cell_iff.mp hx
  have h3 := hs.2 n c h1
  have h4 := (List.getElem?_eq_some_iff.mp h2).1
  have h5 := (List.getElem?_eq_some_iff.mp h1).1
  have h6 := hs.1
  omega
theorem cell_shape {S : Stg} {k n p : Nat} (hs : IsShape S k) (h : n + p < k) : (cell S n p).isSome := by
  have hn : n < S.length := by have := hs.1; omega
  have h1 : S[n]? = some S[n] := List.getElem?_eq_getElem hn
  have h2 := hs.2 n _ h1
  have hp : p < S[n].length := by omega
  rw [Option.isSome_iff_exists]
  exact ⟨_, cell_iff.mpr ⟨_, h1, List.getElem?_eq_getElem hp⟩⟩
/-- the greatest ring -/
def greatestOf (S : Stg) (f : Int) : Int := top 0 ((cellsOf S f).map fun b => b.2.1)
theorem greatest_up {S : Stg} {f : Int} {n p : Nat} (h : (cell S n p).isSome) : (n : Int) + p + 1 ≤ greatestOf S f := by
  obtain ⟨x, hx⟩ := Option.isSome_iff_exists.mp h
  have m : (n : Int) + p + 1 ∈ (cellsOf S f).map fun b => b.2.1 := List.mem_map.mpr ⟨(x, ((n : Int) + p + 1, (f - n) % ((n : Int) + p + 1))), mem_cells.mpr ⟨n, p, hx, rfl⟩, rfl⟩
  exact (top_of (List.length_pos_of_mem m)).2 _ m
theorem greatest_at (S : Stg) (f : Int) : greatestOf S f = 0 ∨ ∃ n p : Nat, (cell S n p).isSome ∧ greatestOf S f = (n : Int) + p + 1 := by
  unfold greatestOf
  cases q : (cellsOf S f).map fun b => b.2.1 with
  | nil => exact .inl rfl
  | cons a r =>
    refine .inr ?_
    have := (top_of (d := 0) (ns := a :: r) (by simp)).1
    rw [← q] at this ⊢
    obtain ⟨⟨x, k⟩, hb, e⟩ := List.mem_map.mp this
    obtain ⟨n, p, hc, rfl⟩ := mem_cells.mp hb
    exact ⟨n, p, by rw [hc]; rfl, e.symm⟩
theorem greatest_nn (S : Stg) (f : Int) : 0 ≤ greatestOf S f := by
  rcases greatest_at S f with e | ⟨n, p, _, e⟩ <;> omega
theorem rings_of {S : Stg} {k : Nat} (f : Int) (hf : Full S) (hs : IsShape S k) : Rings S k (greatestOf S f).toNat := by
  refine ⟨fun n p h => cell_shape hs h, fun n p h => ?_, ⟨?_, ?_⟩, hf⟩
  · cases q : cell S n p with
    | none => rfl
    | some x =>
      have := greatest_up (f := f) (show (cell S n p).isSome by rw [q]; rfl)
      omega
  · cases k with
    | zero => exact Nat.zero_le _
    | succ k =>
      have := greatest_up (f := f) (cell_shape hs (show 0 + k < k + 1 by omega))
      omega
  · rcases greatest_at S f with e | ⟨n, p, h, e⟩
    · omega
    · have := shape_cell hs h
      omega
theorem crs_ok {S : Stg} (f : Nat) (h : Good S) : CrsOk (mkCrs S f) := by
  have hg : (mkCrs S f).greatest = greatestOf (it f S) f := rfl
  refine ⟨by rw [hg]; exact greatest_nn _ _, ?_, fun R hR => ?_, fun b hb => ?_⟩
  · rw [hg]
    rcases greatest_at (it f S) f with e | ⟨n, p, hc, e⟩
    · omega
    · have h1 := cell_lt (h.it f).full' hc
      rw [← folk_total] at h1
      have := (h.it f).few
      omega
  · obtain ⟨d, _, rfl⟩ := List.mem_map.mp hR
    exact h.it d
  · obtain ⟨⟨x, k⟩, hm, rfl⟩ := List.mem_map.mp hb
    obtain ⟨n, p, hc, _⟩ := mem_cells.mp hm
    obtain ⟨c, h1, h2⟩ := cell_iff.mp hc
    exact (h.it f).names c (List.mem_of_getElem? h1) x (List.mem_of_getElem? h2)
/-- who has the ring L and a remainder -/
theorem look_name {S : Stg} {f : Int} (h : (folk S).Nodup) {L : Nat} (hL : 0 < L) (day : Int) :
    look ((cellsOf S f).map fun b => (b.2, b.1)) ((L : Int), day % L) = cell S ((f - day) % L).toNat (L - 1 - ((f - day) % L).toNat) := by
  have hk : (((cellsOf S f).map fun b => (b.2, b.1)).map (·.1)).Nodup := by
    rw [List.map_map]
    exact cells_nodup f h
  have b0 := Int.emod_nonneg (f - day) (show (L : Int) ≠ 0 by omega)
  have b1 := Int.emod_lt_of_pos (f - day) (show (0 : Int) < L by omega)
  have key : ∀ n p : Nat, (((n : Int) + p + 1, (f - n) % ((n : Int) + p + 1)) : Int × Int) = ((L : Int), day % L) ↔ n = ((f - day) % L).toNat ∧ p = L - 1 - ((f - day) % L).toNat := fun n p => by
    constructor
    · intro e
      obtain ⟨e1, e2⟩ := Prod.mk.inj e
      rw [e1, Int.emod_eq_emod_iff_emod_sub_eq_zero] at e2
      have e3 : (f - day) % L = (n : Int) := by
        have e4 : (f - day) % L = (n : Int) % L := by
          rw [Int.emod_eq_emod_iff_emod_sub_eq_zero, ← e2]
          congr 1; omega
        rw [e4, Int.emod_eq_of_lt (by omega) (by omega)]
      omega
    · rintro ⟨e1, e2⟩
      have e3 : (n : Int) = (f - day) % L := by omega
      have e4 : (n : Int) + p + 1 = L := by omega
      rw [e4]
      refine Prod.ext rfl ?_
      show (f - n) % L = day % L
      rw [Int.emod_eq_emod_iff_emod_sub_eq_zero, show f - n - day = (f - day) - n by omega, e3, Int.emod_eq_zero_of_dvd]
      exact ⟨(f - day) / L, by have := Int.mul_ediv_add_emod (f - day) L; omega⟩
  cases q : cell S ((f - day) % L).toNat (L - 1 - ((f - day) % L).toNat) with
  | some x =>
    rw [look_iff hk]
    refine List.mem_map.mpr ⟨(x, ((L : Int), day % L)), mem_cells.mpr ⟨_, _, q, ((key _ _).mpr ⟨rfl, rfl⟩).symm⟩, rfl⟩
  | none =>
    cases r : look ((cellsOf S f).map fun b => (b.2, b.1)) ((L : Int), day % L) with
    | none => rfl
    | some x =>
      rw [look_iff hk] at r
      obtain ⟨⟨y, k⟩, hm, e⟩ := List.mem_map.mp r
      obtain ⟨n, p, hc, rfl⟩ := mem_cells.mp hm
      obtain ⟨rfl, rfl⟩ := (key n p).mp (Prod.mk.inj e).1
      rw [q] at hc; cases hc
theorem rng1_map {β : Type} (f : Int → β) (g : Nat) : (rng 1 g).map f = (List.range g).map fun i : Nat => f ((i + 1 : Nat) : Int) := by
  unfold rng
  rw [List.map_map]
  refine List.map_congr_left fun i _ => ?_
  show f (1 + (i : Int)) = _
  congr 1; omega
theorem rng0_map {β : Type} (f : Int → β) (g : Nat) : (rng 0 g).map f = (List.range g).map fun i : Nat => f (i : Int) := by
  unfold rng
  rw [List.map_map]
  refine List.map_congr_left fun i _ => ?_
  show f (0 + (i : Int)) = _
  congr 1; omega
theorem filterMap_somes {α β : Type} {f : α → Option β} : ∀ {l : List α}, (∀ x ∈ l, (f x).isSome) → (l.filterMap f).length = l.length
  | [], _ => rfl
  | x :: r, h => by
    obtain ⟨y, hy⟩ := Option.isSome_iff_exists.mp (h x List.mem_cons_self)
    rw [List.filterMap_cons, hy]
    simp only [List.length_cons]
    rw [filterMap_somes fun z hz => h z (List.mem_cons_of_mem _ hz)]
theorem begun_at {S0 : Stg} {f k : Nat} (h : Good S0) (hs : IsShape (it f S0) k) {j n : Nat} (hn : n < (mkCrs S0 f).greatest.toNat) :
    (begun (mkCrs S0 f) ((f : Int) + j - n)).drop n = rowT (it f S0) j (mkCrs S0 f).greatest.toNat n := by
  have R := rings_of f (h.it f).full' hs
  have once := (h.it f).once
  have hg : (mkCrs S0 f).greatest = greatestOf (it f S0) f := rfl
  rw [← hg] at R
  have e1 : begun (mkCrs S0 f) ((f : Int) + j - n) = (List.range (mkCrs S0 f).greatest.toNat).filterMap fun i => cell (it f S0) (back j n (i + 1)) (i - back j n (i + 1)) := by
    unfold begun tolds
    rw [rng1_map, List.filterMap_map]
    congr 1
    funext i
    show look (mkCrs S0 f).nameBy.l _ = _
    have := look_name (f := f) once (show 0 < i + 1 by omega) ((f : Int) + j - n)
    rw [show ((f : Int) - ((f : Int) + j - n)) = (n : Int) - j by omega] at this
    rw [show i + 1 - 1 = i by omega] at this
    exact this
  rw [e1]
  generalize (mkCrs S0 f).greatest.toNat = g at *
  have kg := R.kg
  rw [show g = n + (g - n) by omega, List.range_add, List.filterMap_append]
  have hA : ((List.range n).filterMap fun i => cell (it f S0) (back j n (i + 1)) (i - back j n (i + 1))).length = n := by
    rw [filterMap_somes fun i hi => ?_, List.length_range]
    have hi := List.mem_range.mp hi
    have := back_lt (j := j) (n := n) (show 0 < i + 1 by omega)
    exact R.lo _ _ (by omega)
  rw [List.drop_left' hA, List.filterMap_map]
  unfold rowT
  rw [show n + (g - n) - n = g - n by omega]
  congr 1
theorem clean_filter (A : Stg) : (A.filter fun r => !decide (r = [])) = clean A := by
  unfold clean
  congr 1
  funext r
  cases r <;> rfl
theorem farOn_at {S0 : Stg} {f k : Nat} (h : Good S0) (hs : IsShape (it f S0) k) (j : Nat) : farOn (mkCrs S0 f) ((f : Int) + j) = it (f + j) S0 := by
  have R := rings_of f (h.it f).full' hs
  have hg : (mkCrs S0 f).greatest = greatestOf (it f S0) f := rfl
  rw [it_add, it_rings R j]
  unfold farOn
  rw [clean_filter, rng0_map]
  unfold arrT
  rw [← hg]
  congr 1
  refine List.map_congr_left fun n hn => ?_
  have := begun_at h hs (j := j) (List.mem_range.mp hn)
  rw [Int.toNat_natCast]
  exact this
/-- ON EVERY DAY -/
theorem standing_at {S0 : Stg} {f : Nat} (h : Good S0) (hs : Settled (it f S0)) (d : Nat) : standingOn (mkCrs S0 f) d = it d S0 := by
  unfold standingOn
  have hl : (mkCrs S0 f).rows.length = f + 1 := by simp [mkCrs]
  rw [hl]
  by_cases z : (d : Int) < ((f + 1 : Nat) : Int)
  · rw [if_pos z, Int.toNat_natCast, List.getD_eq_getElem?_getD]
    show (((List.range (f + 1)).map fun d => it d S0)[d]?).getD [] = _
    rw [List.getElem?_map, List.getElem?_range (by omega)]
    rfl
  · rw [if_neg z]
    have := farOn_at h hs (d - f)
    rw [show f + (d - f) = d by omega, show ((f : Int) + ((d - f : Nat) : Int)) = (d : Int) by omega] at this
    exact this
/-- the settled day -/
theorem first_ex {P : Nat → Prop} (h : ∃ d, P d) : ∃ f, P f ∧ ∀ d, d < f → ¬ P d := by
  obtain ⟨d, hd⟩ := h
  induction d using Nat.strongRecOn with
  | _ d ih =>
    by_cases z : ∃ e, e < d ∧ P e
    · obtain ⟨e, e1, e2⟩ := z
      exact ih e e1 e2
    · exact ⟨d, hd, fun e he pe => z ⟨e, he, pe⟩⟩
noncomputable def firstDay (S : Stg) : Nat := by
  classical
  exact if h : ∃ d, Settled (it d S) then (first_ex h).choose else 0
theorem firstDay_is {S : Stg} (h : Good S) : Settled (it (firstDay S) S) ∧ ∀ d, d < firstDay S → ¬ Settled (it d S) := by
  have hn : total S ≤ 500 := by rw [← folk_total]; have := h.few; omega
  obtain ⟨d, _, hd⟩ := settles_in h.full' hn
  have hx : ∃ d, Settled (it d S) := ⟨d, hd⟩
  unfold firstDay
  rw [dif_pos hx]
  exact (first_ex hx).choose_spec
theorem firstDay_le {S : Stg} (h : Good S) : firstDay S ≤ 1000000 := by
  have hn : total S ≤ 500 := by rw [← folk_total]; have := h.few; omega
  obtain ⟨d, h1, hd⟩ := settles_in h.full' hn
  refine Nat.le_of_not_lt fun z => ?_
  exact (firstDay_is h).2 d (by omega) hd
end M
namespace M
open PySem G
def rowsN (S : Stg) (i : Nat) : List Stg := (List.range i).map fun d => it d S
theorem rowsN_len {S : Stg} {i : Nat} : (rowsN S i).length = i := by simp [rowsN]
theorem rowsN_succ {S : Stg} {i : Nat} : rowsN S (i + 1) = rowsN S i ++ [it i S] := by simp [rowsN, List.range_succ]
theorem atI_last {α : Type} {xs : List α} {x : α} (h : xs[xs.length - 1]? = some x) : L2.atI xs (-1) = some x := by
  have hn : 0 < xs.length := by
    cases xs with
    | nil => simp at h
    | cons _ _ => simp
  unfold L2.atI L2.ixN
  rw [if_neg (by decide), if_pos (by omega)]
  rw [show ((-1 : Int) + (xs.length : Int)).toNat = xs.length - 1 by omega]
  exact h
theorem rowsN_last {S : Stg} {i : Nat} (h : 0 < i) : L2.atI (rowsN S i) (-1) = some (it (i - 1) S) := by
  refine atI_last ?_
  rw [rowsN_len]
  unfold rowsN
  rw [List.getElem?_map, List.getElem?_range (by omega)]
  rfl
theorem rowsN_end {S : Stg} {f : Nat} : L2.atI (rowsN S (f + 1)) (-1) = some (it f S) := rowsN_last (Nat.succ_pos f)
def crsF (a1 a2 a3 : Addr) (c : Crs) : Flds := [("rows", .res (.lst a1 c.rows)), ("begin", .sh c.begin_), ("deed_days", .sh c.deedDays), ("ring_by", .res (.dk a2 c.ringBy.l)), ("name_by", .res (.dt a3 c.nameBy.l)), ("greatest", .sh c.greatest)]
end M
namespace P
open PySem PySem.Spec PyProof.Rows L2 G L M
open Rp (rp)
section
variable {P : Program} {w : World} {K : PySem.W.Frag} {mg : Str → Option Value} {base : Heap}
abbrev noDeeds (r : Res) : Prop := ∃ p, r = Res.dk p ([] : List (Int × List Int))
def r_deeds0 : DE → Unit → DE → Prop := fun Γ x Γ' => Γ = [.is (none : Option Int)] ∧ x = () ∧ Γ' = Γ
theorem can_checked_deeds0 (T : Txt K mg) : Can P w K mg base CX0 1 "checked_deeds" ps_checked_deeds [] (spM K (nr noDeeds) 1 r_deeds0) := by
  refine canD T.d_checked_deeds sc_checked_deeds b_checked_deeds fun cdv A outer s H E Γ x Γ' hr hR => ?_
  obtain ⟨rfl, rfl, rfl⟩ := hR
  refine sd_if (tx_cmp (cr_isN (α := Int) (x := none) fun {F v y} h e => by rw [e] at h; cases h) (px_var 0) px_non) (fun _ => ?_) (fun h => by cases h)
  exact sd_ret px_dkR ⟨rfl, .is .nil⟩
abbrev cxI (P : Program) (w : World) (K : PySem.W.Frag) (mg : Str → Option Value) (base : Heap) (cdv : Value) (A : Around) (outer : List PySem.Env) (s : Shared) (H : Hp) (E : XK) : Cx := cxM P w K mg base ns_Course___init__ "Course.__init__" st_Course___init__ (crsM K "__init__") cdv A outer s H E
def whileBody : Stmt → List Stmt
  | .While _ b _ _ => b
  | _ => []
def foI (f : Int) (acc : List (Str × (Int × Int))) (y : Int × List Str) : List (Str × (Int × Int)) := (enum y.2).foldl (fun acc z => put acc z.2 (y.1 + z.1 + 1, (f - y.1) % (y.1 + z.1 + 1))) acc
theorem foldl_puts {κ α β : Type} [DecidableEq κ] (key : β → κ) (val : β → α) : ∀ (l : List β) (acc : List (κ × α)), (l.foldl (fun acc b => put acc (key b) (val b)) acc).length ≤ acc.length + l.length
  | [], acc => by simp
  | b :: r, acc => by
    have h1 := foldl_puts key val r (put acc (key b) (val b))
    have h2 := put_len (xs := acc) (k := key b) (y := val b)
    simp only [List.foldl_cons, List.length_cons]
    omega
/-- behind the first two statements -/
theorem init_rest (T : Txt K mg) {cdv : Value} {A : Around} {outer : List PySem.Env} {s : Shared} {H : Hp} {E : XK} (hr : Room 6 (A.deeper (envOfC "Course.__init__" (defScope st_Course___init__) s.heap.objs.size (crsM K "__init__") cdv))) {a dx : Addr} {S : Stg} (hS : Good S) :
    SD (cxI P w K mg base cdv A outer s H E) (sh Unit) [.res (.obj (crsA K) a dx []), .no, .is (none : Option Int), .is S, .no, .no, .no, .no, .no, .no, .no, .no, .no, .no, .no] ((defBody st_Course___init__).drop 1)
      { nx := fun Γ'' => ∃ a1 a2 a3, Γ''[0]? = some (.res (.obj (crsA K) a dx (crsF a1 a2 a3 (mkCrs S (firstDay S))))), rt := fun _ _ => False } := by
  have nd := sc_Course___init__.nd
  have hu : A.units + 3 + 64 < cLine := hr.units
  have cl := T.cls_Course
  obtain ⟨hf1, hf2⟩ := firstDay_is hS
  have hf3 := firstDay_le hS
  refine sd_setR 4 (px_c ((can_checked_deeds0 T).mono (by decide)) hr (ax_cons (px_var 2) ax_nil) ⟨rfl, rfl, rfl⟩ defOk_nil) (fun r ⟨a4, e4⟩ => ?_) nd
  subst e4
  refine sd_set 5 (px_topD (n := 0) 4 T.n_max (hk := fun σ F H Q E q => wE.of pe_int q)) ?_ nd
  refine sd_fldR 0 (px_lst (α := Stg) lx_nil).nr rfl (by simp only [List.map_cons, List.map_nil, List.map_append, List.nil_append, List.cons_append]; decide) (by simp only [List.length_cons, List.length_nil, List.length_append]; decide) (fun r ⟨p, e⟩ => by rw [e]; exact List.nodup_cons.mpr ⟨by simp, List.nodup_nil⟩) (fun r ⟨a1, e⟩ => ?_) cl T.na_rows
  subst e
  generalize hff : firstDay S = f at *
  refine sd_while (N := fun Γ' => Γ' = ([.res (.obj (crsA K) a dx [("rows", .res (.lst a1 (rowsN S (f + 1))))]), .no, .is (none : Option Int), .is (it f S), .res (.dk a4 ([] : List (Int × List Int))), .is (0 : Int), .no, .no, .no, .no, .no, .no, .no, .no, .no] : DE))
    (fun i : Nat => ([.res (.obj (crsA K) a dx [("rows", .res (.lst a1 (rowsN S i)))]), .no, .is (none : Option Int), .is (it (i - 1) S), .res (.dk a4 ([] : List (Int × List Int))), .is (0 : Int), .no, .no, .no, .no, .no, .no, .no, .no, .no] : DE))
    (fun i => i ≤ f + 1) (fun i => f + 1 - i) (fun i => decide (((rowsN S i).length : Int) ≤ 0) || !hasSettled (it (i - 1) S)) 0 (Nat.zero_le _) Wk.refl (fun i hi => ?_) (fun i hi hb => ?_) (fun i hi hb => ?_) (fun Γ' e => ?_)
  · refine WX.tx (wx_or (tx_cmp cr_le (px_len T.n_len (px_fldB 0 rfl rfl cl T.na_rows)) (px_var 5)) fun h => wx_or1 (tx_not (tx_val (px_c ((can_has_settled T).mono (by decide)) hr (ax_cons (px_fldIx 0 (px_neg px_int) rfl rfl (rowsN_last ?_) cl T.na_rows) ax_nil) ⟨_, hS.it _, rfl, rfl, rfl⟩ defOk_nil))))
    have h := of_decide_eq_false h
    rw [rowsN_len] at h
    omega
  · rw [rowsN_len] at hb
    have hlt : i < f + 1 := by
      refine Nat.lt_of_le_of_ne hi fun z => ?_
      subst z
      rw [Bool.or_eq_true] at hb
      rcases hb with hb | hb
      · have := of_decide_eq_true hb
        omega
      · rw [show f + 1 - 1 = f by omega, (hasSettled_iff (hS.it f).full').mpr hf1] at hb
        cases hb
    have hz : ∀ i, i ≤ f + 1 → (rowsN S i).length < sizeLine := fun i h => by rw [rowsN_len, sizeLine_eq]; omega
    have tail : SD (cxI P w K mg base cdv A outer s H E) (sh Unit) ([.res (.obj (crsA K) a dx [("rows", .res (.lst a1 (rowsN S i)))]), .no, .is (none : Option Int), .is (it i S), .res (.dk a4 ([] : List (Int × List Int))), .is (0 : Int), .no, .no, .no, .no, .no, .no, .no, .no, .no] : DE)
        ((whileBody ((defBody st_Course___init__).getD 4 (.Pass ⟨0, 0, 0, 0⟩))).drop 1) { nx := fun Γ' => ∃ s' : Nat, s' ≤ f + 1 ∧ f + 1 - s' < f + 1 - i ∧ Wk Γ' ([.res (.obj (crsA K) a dx [("rows", .res (.lst a1 (rowsN S s')))]), .no, .is (none : Option Int), .is (it (s' - 1) S), .res (.dk a4 ([] : List (Int × List Int))), .is (0 : Int), .no, .no, .no, .no, .no, .no, .no, .no, .no] : DE), rt := fun _ _ => False, bk := fun Γ' => Γ' = ([.res (.obj (crsA K) a dx [("rows", .res (.lst a1 (rowsN S (f + 1))))]), .no, .is (none : Option Int), .is (it f S), .res (.dk a4 ([] : List (Int × List Int))), .is (0 : Int), .no, .no, .no, .no, .no, .no, .no, .no, .no] : DE), ct := fun Γ' => ∃ s' : Nat, s' ≤ f + 1 ∧ f + 1 - s' < f + 1 - i ∧ Wk Γ' ([.res (.obj (crsA K) a dx [("rows", .res (.lst a1 (rowsN S s')))]), .no, .is (none : Option Int), .is (it (s' - 1) S), .res (.dk a4 ([] : List (Int × List Int))), .is (0 : Int), .no, .no, .no, .no, .no, .no, .no, .no, .no] : DE) } := by
      refine sd_fold (ts := [6]) (it_list (px_dget2O 4 (show A.units + 3 + 1 < cLine by omega) (px_len T.n_len (px_fldB 0 rfl rfl cl T.na_rows)) (px_frz (px_lst lx_nil)))) (fun _ : Unit => ([.res (.obj (crsA K) a dx [("rows", .res (.lst a1 (rowsN S i)))]), .no, .is (none : Option Int), .is (it i S), .res (.dk a4 ([] : List (Int × List Int))), .is (0 : Int), .no, .no, .no, .no, .no, .no, .no, .no, .no] : DE)) (fun _ _ => ()) () Wk.refl (fun _ x hx => by cases hx) ?_
      refine sd_fldAppend 0 0 (px_var 3) rfl rfl (hz i (by omega)) (sd_nil ⟨i + 1, by omega, by omega, ?_⟩) rfl rfl cl T.na_rows
      rw [rowsN_succ, show i + 1 - 1 = i by omega]
      exact Wk.refl
    refine sd_if (tx_neNil hu (px_fldB 0 rfl rfl cl T.na_rows) (fun R hR => ?_)) (fun h => ?_) (fun h => sd_nil ?_)
    · obtain ⟨d, _, rfl⟩ := List.mem_map.mp hR
      exact fun c hc z hz => ((hS.it d).fine hc z hz).2
    · have h : ¬ rowsN S i = [] := by simpa using h
      have hi0 : 0 < i := by
        rcases Nat.eq_zero_or_pos i with z | z
        · subst z; exact absurd rfl h
        · exact z
      refine sd_set 3 (px_frz (px_c ((can_day_behind T).mono (by decide)) hr (ax_cons (px_var 3) ax_nil) ⟨_, hS.it _, rfl, rfl, rfl⟩ defOk_nil)) (sd_nil ?_) nd
      have e : behind (it (i - 1) S) = it i S := by
        obtain ⟨j, rfl⟩ : ∃ j, i = j + 1 := ⟨i - 1, by omega⟩
        rfl
      rw [e]
      exact tail
    · have h : rowsN S i = [] := by simpa using h
      have hi0 : i = 0 := by
        have := congrArg List.length h
        rw [rowsN_len] at this
        simpa using this
      subst hi0
      exact tail
  · rw [Bool.or_eq_false_iff, rowsN_len] at hb
    have h0 := of_decide_eq_false hb.1
    have h1 : hasSettled (it (i - 1) S) = true := by simpa using hb.2
    have h2 := (hasSettled_iff (hS.it _).full').mp h1
    have : ¬ i - 1 < f := fun z => hf2 _ z h2
    have e : i = f + 1 := by omega
    subst e
    rfl
  · subst e
    refine sd_set 7 (px_sub (px_len T.n_len (px_fldB 0 rfl rfl cl T.na_rows)) px_int) ?_ nd
    rw [rowsN_len, show (((f + 1 : Nat) : Int) - 1) = (f : Int) by omega]
    refine sd_fldS 0 (px_var 7) rfl (by simp only [List.map_cons, List.map_nil, List.map_append, List.nil_append, List.cons_append]; decide) (by simp only [List.length_cons, List.length_nil, List.length_append]; decide) ?_ cl T.na_begin
    refine sd_fldS 0 (px_frz (px_listDk 4 T.n_list)) rfl (by simp only [List.map_cons, List.map_nil, List.map_append, List.nil_append, List.cons_append]; decide) (by simp only [List.length_cons, List.length_nil, List.length_append]; decide) ?_ cl T.na_deed_days
    refine sd_fldR 0 (px_dkR (κ := Str) (α := Int × Int)) rfl (by simp only [List.map_cons, List.map_nil, List.map_append, List.nil_append, List.cons_append]; decide) (by simp only [List.length_cons, List.length_nil, List.length_append]; decide) (fun r ⟨p, e⟩ => by rw [e]; exact List.nodup_cons.mpr ⟨by simp, List.nodup_nil⟩) (fun r ⟨a2, e⟩ => ?_) cl T.na_ring_by
    subst e
    have hG := hS.it f
    have hl := hG.len
    refine sd_for (ts := [8, 9]) (N := fun Γ' => Γ' = ([.res (.obj (crsA K) a dx [("rows", .res (.lst a1 (rowsN S (f + 1)))), ("begin", .sh (f : Int)), ("deed_days", .sh ([] : List Int)), ("ring_by", .res (.dk a2 (cellsOf (it f S) f)))]), .no, .is (none : Option Int), .is (it f S), .res (.dk a4 ([] : List (Int × List Int))), .is (0 : Int), .no, .is (f : Int), .no, .no, .no, .no, .no, .no, .no] : DE))
      (it_enum T.n_enumerate (px_fldIx 0 (px_neg px_int) rfl rfl rowsN_end cl T.na_rows))
      (fun i Γ' => (((enum (it f S)).take i).foldl (foI f) []).length ≤ 450 * i ∧ Γ' = ([.res (.obj (crsA K) a dx [("rows", .res (.lst a1 (rowsN S (f + 1)))), ("begin", .sh (f : Int)), ("deed_days", .sh ([] : List Int)), ("ring_by", .res (.dk a2 (((enum (it f S)).take i).foldl (foI f) [])))]), .no, .is (none : Option Int), .is (it f S), .res (.dk a4 ([] : List (Int × List Int))), .is (0 : Int), .no, .is (f : Int), .no, .no, .no, .no, .no, .no, .no] : DE)) ⟨by simp, rfl⟩ (fun i y Γ' hy ⟨hb, e⟩ => ?_) (fun Γ' ⟨_, e⟩ => ?_) (fun Γ' e => ?_)
    · subst e
      obtain ⟨y1, y2⟩ := enum_get hy
      have hc : y.2 ∈ it f S := List.mem_of_getElem? y2
      have hcl := comp_len hG hc
      have hi : i < 450 := by
        have := (List.getElem?_eq_some_iff.mp y2).1
        omega
      have e1 : ((enum (it f S)).take (i + 1)).foldl (foI f) [] = foI f (((enum (it f S)).take i).foldl (foI f) []) y := by rw [List.take_add_one, hy, List.foldl_append]; rfl
      refine ⟨_, gx_t2 (gx_name 8 nd) (gx_name 9 nd), ?_⟩
      have hlen : (foI f (((enum (it f S)).take i).foldl (foI f) []) y).length ≤ 450 * (i + 1) := by
        have := foldl_puts (fun z : Int × Str => z.2) (fun z => (y.1 + z.1 + 1, ((f : Int) - y.1) % (y.1 + z.1 + 1))) (enum y.2) (((enum (it f S)).take i).foldl (foI f) [])
        rw [enum_len] at this
        have this : (foI f (((enum (it f S)).take i).foldl (foI f) []) y).length ≤ (((enum (it f S)).take i).foldl (foI f) []).length + y.2.length := this
        omega
      have hb : (((enum (it f S)).take i).foldl (foI f) []).length ≤ 450 * i := hb
      generalize ((enum (it f S)).take i).foldl (foI f) [] = acc at *
      refine sd_for (ts := [10, 11]) (N := fun Γ' => Γ' = ([.res (.obj (crsA K) a dx [("rows", .res (.lst a1 (rowsN S (f + 1)))), ("begin", .sh (f : Int)), ("deed_days", .sh ([] : List Int)), ("ring_by", .res (.dk a2 (foI f acc y)))]), .no, .is (none : Option Int), .is (it f S), .res (.dk a4 ([] : List (Int × List Int))), .is (0 : Int), .no, .is (f : Int), .is y.1, .is y.2, .no, .no, .no, .no, .no] : DE)) (it_enum T.n_enumerate (px_var 9))
        (fun j Γ' => (((enum y.2).take j).foldl (fun acc z => put acc z.2 (y.1 + z.1 + 1, ((f : Int) - y.1) % (y.1 + z.1 + 1))) acc).length ≤ 450 * i + j ∧ Γ' = ([.res (.obj (crsA K) a dx [("rows", .res (.lst a1 (rowsN S (f + 1)))), ("begin", .sh (f : Int)), ("deed_days", .sh ([] : List Int)), ("ring_by", .res (.dk a2 (((enum y.2).take j).foldl (fun acc z => put acc z.2 (y.1 + z.1 + 1, ((f : Int) - y.1) % (y.1 + z.1 + 1))) acc)))]), .no, .is (none : Option Int), .is (it f S), .res (.dk a4 ([] : List (Int × List Int))), .is (0 : Int), .no, .is (f : Int), .is y.1, .is y.2, .no, .no, .no, .no, .no] : DE)) ⟨by simpa using hb, rfl⟩ (fun j z Γ' hz ⟨hb2, e⟩ => ?_) (fun Γ' z => z.2.trans (by rw [List.take_length]; rfl)) (fun Γ' e => ?_)
      · subst e
        obtain ⟨z1, z2⟩ := enum_get hz
        have hj : j < 450 := by
          have := (List.getElem?_eq_some_iff.mp z2).1
          omega
        have e2 : ((enum y.2).take (j + 1)).foldl (fun acc z => put acc z.2 (y.1 + z.1 + 1, ((f : Int) - y.1) % (y.1 + z.1 + 1))) acc = put (((enum y.2).take j).foldl (fun acc z => put acc z.2 (y.1 + z.1 + 1, ((f : Int) - y.1) % (y.1 + z.1 + 1))) acc) z.2 (y.1 + z.1 + 1, ((f : Int) - y.1) % (y.1 + z.1 + 1)) := by rw [List.take_add_one, hz, List.foldl_append]; rfl
        refine ⟨_, gx_t2 (gx_name 10 nd) (gx_name 11 nd), ?_⟩
        have hb2 : (((enum y.2).take j).foldl (fun acc z => put acc z.2 (y.1 + z.1 + 1, ((f : Int) - y.1) % (y.1 + z.1 + 1))) acc).length ≤ 450 * i + j := hb2
        have hzz : (((enum y.2).take j).foldl (fun acc z => put acc z.2 (y.1 + z.1 + 1, ((f : Int) - y.1) % (y.1 + z.1 + 1))) acc).length < sizeLine := by
          rw [sizeLine_eq]; omega
        refine sd_set 12 (px_add (px_add (px_var 8) (px_var 10)) px_int) ?_ nd
        refine sd_fldPut 0 3 (show A.units + 3 + 1 < cLine by omega) (px_t2 (px_var 12) (px_mod (px_sub (px_var 7) (px_var 8)) (px_var 12) (by omega))) (px_var 11) rfl rfl rfl hzz (sd_nil ⟨_, ?_, ?_, rfl⟩) cl T.na_ring_by
        · rw [e2]
          exact .same (.same (.same (.same (.same (.same (.same (.same (.same (.same (.no (.no (.no (.same (.same .nil))))))))))))))
        · have := put_len (xs := ((enum y.2).take j).foldl (fun acc z => put acc z.2 (y.1 + z.1 + 1, ((f : Int) - y.1) % (y.1 + z.1 + 1))) acc) (k := z.2) (y := (y.1 + z.1 + 1, ((f : Int) - y.1) % (y.1 + z.1 + 1)))
          rw [e2]
          omega
      · subst e
        refine sd_nil ⟨_, ?_, by rw [e1]; exact hlen, rfl⟩
        rw [e1]
        exact .same (.same (.same (.same (.same (.same (.same (.same (.no (.no (.same (.same (.same (.same (.same .nil))))))))))))))
    · refine e.trans ?_
      rw [List.take_length, ← ringBy_eq (S := it f S) f hG.once]
      rfl
    · subst e
      have hcz : (cellsOf (it f S) f).length < sizeLine := by
        have h1 := congrArg List.length (cells_names (it f S) f)
        rw [List.length_map] at h1
        have := hG.few
        rw [sizeLine_eq]; omega
      refine sd_fldR 0 (px_turned [("name", 11), ("ring", 13)] 0 3 11 13 (show A.units + 3 + 1 < cLine by omega) nd rfl rfl rfl hcz cl T.na_ring_by (Nat.le_of_ble_eq_true rfl) (Nat.le_of_ble_eq_true rfl) (by decide) rfl) rfl (by simp only [List.map_cons, List.map_nil, List.map_append, List.nil_append, List.cons_append]; decide) (by simp only [List.length_cons, List.length_nil, List.length_append]; decide) (fun r ⟨p, e⟩ => by rw [e]; exact List.nodup_cons.mpr ⟨by simp, List.nodup_nil⟩) (fun r ⟨a3, e⟩ => ?_) cl T.na_name_by
      subst e
      rw [turned_eq _ hG.once]
      refine sd_fldS 0 (px_topL (d := 0) T.n_max (px_firsts [("size", 12), ("rest", 14)] 0 4 12 14 nd rfl rfl rfl (by rw [List.length_map]; exact hcz) cl T.na_name_by (Nat.le_of_ble_eq_true rfl) (Nat.le_of_ble_eq_true rfl) (by decide) rfl).nb (hk := fun σ F H Q E q => wE.of pe_int q)) rfl (by simp only [List.map_cons, List.map_nil, List.map_append, List.nil_append, List.cons_append]; decide) (by simp only [List.length_cons, List.length_nil, List.length_append]; decide) (sd_nil ⟨a1, a2, a3, ?_⟩) cl T.na_greatest
      rw [List.map_map]
      rfl
end
end P
namespace P
open PySem PySem.Spec PyProof.Rows L2 G L M
open Rp (rp)
/-- an object in the making is frozen with all its fields -/
theorem crs_frozen {K : PySem.W.Frag} {F H : Hp} {a dx a1 a2 a3 : Addr} {c : Crs} {v : V} (ok : (Res.obj (crsA K) a dx (crsF a1 a2 a3 c)).ok K F H v) (fr : ∀ b ∈ [a, a1, a2, a3], F b = none) (le : Same F H) :
    ∃ F2 : Hp, Same F F2 ∧ Same F2 H ∧ (∀ p, F p = none → F2 p ≠ none → p ∈ [a, a1, a2, a3]) ∧ rp K F2 v c := by
  obtain ⟨rfl, na, nd, vs, t, r⟩ := ok
  rcases r with _ | ⟨k1, _ | ⟨k2, _ | ⟨k3, _ | ⟨k4, _ | ⟨k5, _ | ⟨k6, _ | _⟩⟩⟩⟩⟩⟩
  obtain ⟨e1, us1, t1, r1⟩ := k1
  obtain ⟨e4, us4, t4, r4⟩ := k4
  obtain ⟨e5, us5, t5, r5⟩ := k5
  let F2 : Hp := fun p => if p ∈ [a, a1, a2, a3] then H p else F p
  have up : Same F F2 := fun p o e => by
    show (if p ∈ [a, a1, a2, a3] then H p else F p) = some o
    by_cases z : p ∈ [a, a1, a2, a3]
    · rw [fr p z] at e; cases e
    · rw [if_neg z]; exact e
  have at_ : ∀ p, p ∈ [a, a1, a2, a3] → F2 p = H p := fun p z => if_pos z
  refine ⟨F2, up, fun p o e => ?_, fun p h1 h2 => ?_, a, dx, _, _, _, _, _, _, rfl, (at_ a (by simp)).trans t, ?_, Rp.mono up k2, Rp.mono up k3, ?_, ?_, Rp.mono up k6⟩
  · have e : (if p ∈ [a, a1, a2, a3] then H p else F p) = some o := e
    by_cases z : p ∈ [a, a1, a2, a3]
    · rw [if_pos z] at e; exact e
    · rw [if_neg z] at e; exact le _ _ e
  · by_cases z : p ∈ [a, a1, a2, a3]
    · exact z
    · exact absurd ((if_neg z).trans h1) h2
  · exact ⟨a1, us1, e1, (at_ a1 (by simp)).trans t1, r1.mono up⟩
  · exact ⟨a2, us4, e4, .inl ((at_ a2 (by simp)).trans t4), r4.mono up⟩
  · exact ⟨a3, us5, e5, .inl ((at_ a3 (by simp)).trans t5), r5.mono up⟩
section
variable {P : Program} {w : World} {K : PySem.W.Frag} {mg : Str → Option Value} {base : Heap}
def spI (K : PySem.W.Frag) : Sp := fun vs H Q _ => vs.length = 3 ∧ ∃ a dx vS S F, vs = [.ref a, vS, .non] ∧ H a = some (.ins (crsA K) dx []) ∧ F a = none ∧ Same F H ∧ rp K F vS S ∧ Good S ∧
  ∀ F' H', Same F' H' → Step (· = a) F H F' H' → rp K F' (.ref a) (mkCrs S (firstDay S)) → Q .non H'
theorem can_init (T : Txt K mg) : ∃ fd, FnOk P w K mg base CX0 7 (crsM K "__init__") fd ps_Course___init__ (spI K) ∧ ∃ ds, Vals [.non] ds ∧ Binds K fd ps_Course___init__ ds := by
  obtain ⟨fd, F⟩ := T.f_Course___init__
  refine ⟨fd, F.ok sc_Course___init__ (fun vs H Q E h => h.1) (fun cdv A outer s H vs Q E hr h => ⟨wS _ _, PSs.nox pS, ?_⟩), ?_⟩
  · obtain ⟨_, a, dx, vS, S, F0, rfl, hH, hF, le, rS, hS, q⟩ := h
    have nd := sc_Course___init__.nd
    have E0 : Env K ([.res (.obj (crsA K) a dx []), .is S, .is (none : Option Int)] : DE) ([V.ref a, vS, V.non].map some) F0 H := by
      refine ⟨le, rfl, fun i e q => ?_, fun i j b q r => ?_⟩
      · match i, q with
        | 0, q =>
          cases q
          refine ⟨_, rfl, _, rfl, fun b m => ?_, rfl, by simp [Flds.ads], by simp [Flds.ads], [], hH, .nil⟩
          have : b = a := by simpa [Flds.ads] using m
          subst this
          exact ⟨hF, by rw [hH]; exact fun z => nomatch z⟩
        | 1, q => cases q; exact ⟨_, rfl, _, rfl, rS⟩
        | 2, q => cases q; exact ⟨_, rfl, _, rfl, rfl⟩
        | i + 3, q => simp at q
      · match i, j, q, r with
        | 0, 0, _, _ => rfl
        | 0, 1, _, r => cases r
        | 0, 2, _, r => cases r
        | 1, _, q, _ => cases q
        | 2, _, q, _ => cases q
        | 0, j + 3, _, r => exact absurd r (fun r => by obtain ⟨_, z, _⟩ := of_adsAt r; simp at z)
        | i + 3, _, q, _ => exact absurd q (fun r => by obtain ⟨_, z, _⟩ := of_adsAt r; simp at z)
    have own0 : ∀ p, Own ([.res (.obj (crsA K) a dx []), .is S, .is (none : Option Int)] : DE) p → p = a := fun p ⟨i, q⟩ => by
      match i, q with
      | 0, q => simpa [adsAt, Ent.ads, Flds.ads] using q
      | 1, q => cases q
      | 2, q => cases q
      | i + 3, q => exact absurd q (fun r => by obtain ⟨_, z, _⟩ := of_adsAt r; simp at z)
    have body : SD (cxI P w K mg base cdv A outer s H E) (sh Unit) (([.res (.obj (crsA K) a dx []), .is S, .is (none : Option Int)] : DE) ++ List.replicate (ns_Course___init__.length - 3) .no) (defBody st_Course___init__)
        { nx := fun Γ'' => ∃ a1 a2 a3, Γ''[0]? = some (.res (.obj (crsA K) a dx (crsF a1 a2 a3 (mkCrs S (firstDay S))))), rt := fun _ _ => False } := by
      refine sd_set 3 (px_frz (px_c ((can_checked_standing T).mono (by decide)) hr (ax_cons (px_var 1) ax_nil) ⟨hS, rfl, rfl⟩ defOk_nil)) ?_ nd
      refine sd_wk (Γ1 := [.res (.obj (crsA K) a dx []), .no, .is (none : Option Int), .is S, .no, .no, .no, .no, .no, .no, .no, .no, .no, .no, .no]) ?_ (init_rest T hr hS)
      exact .same (.no Wk.refl)
    have E1 := start_env (N := ns_Course___init__) E0
    refine body _ F0 H _ E1 ⟨fun Γ' σ' F' H' h E' t => ?_, fun _ _ _ _ _ _ h _ _ _ => h.elim, fun _ _ _ _ h => h.elim, fun _ _ _ _ h => h.elim⟩
    obtain ⟨a1, a2, a3, h0⟩ := h
    obtain ⟨o, ho, v, rfl, fr, ok⟩ := E'.ent 0 _ h0
    have ads : ∀ b ∈ [a, a1, a2, a3], b ∈ (Res.obj (crsA K) a dx (crsF a1 a2 a3 (mkCrs S (firstDay S)))).ads := fun b m => by
      simpa [Flds.ads, crsF, Fld.ads] using m
    obtain ⟨F2, up, le2, nw, r⟩ := crs_frozen ok (fun b m => (fr b (ads b m)).1) E'.le
    have e : v = .ref a := ok.1
    subst e
    have ow : ∀ p, p ∈ [a, a1, a2, a3] → p = a ∨ H p = none := fun p m => by
      rcases t.ow p ⟨0, by rw [adsAt_of h0]; exact ads p m⟩ with z | z
      · exact .inl (own0 p (own_start z))
      · exact .inr z
    have st : Step (· = a) F0 H F' H' := ⟨t.st.up, fun p o hp no => t.st.keep p o hp fun z => no (own0 p (own_start z)), t.st.there, fun p h1 h2 => (t.st.fresh p h1 h2).imp id fun z => own0 p (own_start z)⟩
    refine q F2 H' le2 ⟨st.up.trans up, st.keep, st.there, fun p h1 h2 => ?_⟩ r
    by_cases z : F' p = none
    · exact (ow p (nw p z h2)).symm
    · exact st.fresh p h1 z
  · exact F.binds0 2 (by simp) rfl (fun D doc pm an cdv ct us ks h1 h2 => match us, ks, h1, h2 with | [_, _], [_], _, _ => ⟨_, _, _, _, _, _, rfl, rfl, rfl⟩)
end
/-- Course(e) -/
theorem px_course {X : Cx} {Γ Γ1 : DE} {e : Expr} {p pos : Pos} {S : Stg} (T : Txt X.K X.mg) (hr : Room 8 X.A) (h : PX X (sh Stg) Γ e S Γ1) (hS : Good S) (hg : Gl X "Course" := by rfl) (he : starEach [e] X.env = (false, eval e X.env) :: starEach [] X.env := by rfl) (hpl : (backTo pos (starEach [] X.env)).any (·.1) = false := by rfl)
    (ha : PA X [e] (tCons (wE X e) tNil) := by exact pa_cons pE pa_nil) : PX X (sh Crs) Γ (.Call (.Name "Course" p) [e] [] pos) (mkCrs S (firstDay S)) Γ1 := by
  obtain ⟨fd, F, ds, hv, hb⟩ := can_init (P := X.prog) (w := X.w) (base := X.base) T
  refine ⟨h.sub, fun σ F0 H Q E q => wE.of (pe_make T.mk_Course F hr hg T.c_Course hb hv pass0 ha (by decide) he hpl) ?_⟩
  refine h.run σ F0 H _ E fun v F1 H1 E1 s1 r1 => fun x dx hx hdx hne => ?_
  have hd2 : upd H1 dx (.own x) x = none := by rw [upd_ne (Ne.symm hne)]; exact hx
  have n1 : Step (fun _ => False) F1 H1 F1 (upd H1 dx (.own x)) := Step.new hdx
  have n2 : Step (fun _ => False) F1 H1 F1 (upd (upd H1 dx (.own x)) x (.ins (crsA X.K) dx [])) := n1.sub (Step.new (O := fun _ => False) hd2) fun _ z => z
  have le2 : Same F1 (upd (upd H1 dx (.own x)) x (.ins (crsA X.K) dx [])) := (E1.le.trans (same_upd hdx)).trans (same_upd hd2)
  refine ⟨rfl, x, dx, v, S, F1, rfl, upd_same, E1.free hx, le2, r1, hS, fun F' H' le st rc => ⟨rfl, ?_⟩⟩
  have s3 : Step (fun _ => False) F1 H1 F' H' := n2.trans st fun p z => .inr (by rw [z]; exact hx)
  exact q (.ref x) F' H' (E1.after0 s3 le fun _ z => z) (s1.sub s3 fun _ z => z.elim) rc
end P
namespace M
open PySem G
theorem behind_full {S : Stg} (h : Full S) : behind S = if (S.map fun c => c.getD 0 Str.empty) = [] then [] else (S.map fun c => c.getD 0 Str.empty) :: (S.filter fun c => decide (1 < c.length)).map List.tail := by
  unfold behind
  rw [P.heads_full h]
  cases S <;> rfl
noncomputable def lawShape (S : Stg) : Bool := if decide ((S.length : Int) < rg (total S)) || decide ((rg (total S) : Int) + 1 < (S.length : Int)) then false else decide (((enum (S.map fun c => (c.length : Int))).filter fun y => !decide (y.2 - ((rg (total S) : Int) - y.1) ∈ ([0, 1] : List Int))).map (fun y => y.2) = [])
theorem lawShape_iff {S : Stg} (hf : Full S) : lawShape S = true ↔ Settled S := by
  unfold lawShape Settled IsShape
  generalize rg (total S) = k
  have key : (((enum (S.map fun c => (c.length : Int))).filter fun y => !decide (y.2 - ((k : Int) - y.1) ∈ ([0, 1] : List Int))).map (fun y => y.2) = []) ↔ ∀ (i : Nat) (c : List Str), S[i]? = some c → (c.length : Int) - ((k : Int) - i) = 0 ∨ (c.length : Int) - ((k : Int) - i) = 1 := by
    rw [List.map_eq_nil_iff, List.filter_eq_nil_iff]
    constructor
    · intro h i c hc
      have := h ((i : Int), (c.length : Int)) (enum_mem.mpr ⟨i, rfl, by rw [List.getElem?_map, hc]; rfl⟩)
      by_cases z : (c.length : Int) - ((k : Int) - i) = 0
      · exact .inl z
      · right; simpa [z] using this
    · intro h y hy
      obtain ⟨i, y1, y2⟩ := enum_mem.mp hy
      rw [List.getElem?_map] at y2
      cases q : S[i]? with
      | none => rw [q] at y2; cases y2
      | some c =>
        rw [q] at y2
        have y2 := Option.some.inj y2
        have := h i c q
        rw [← y2, y1]
        rcases this with z | z <;> simp [z]
  constructor
  · intro h
    split at h
    · cases h
    · rename_i h1
      rw [Bool.not_eq_true, Bool.or_eq_false_iff] at h1
      have a := of_decide_eq_false h1.1
      have b := of_decide_eq_false h1.2
      have h := key.mp (of_decide_eq_true h)
      refine ⟨by omega, fun i c hc => ?_⟩
      have h2 := h i c hc
      have hi : i < S.length := (List.getElem?_eq_some_iff.mp hc).1
      omega
  · rintro ⟨h1, h2⟩
    rw [if_neg (by rw [Bool.not_eq_true, Bool.or_eq_false_iff]; exact ⟨decide_eq_false (by omega), decide_eq_false (by omega)⟩)]
    refine decide_eq_true (key.mpr fun i c hc => ?_)
    have h3 := h2 i c hc
    have hi : i < S.length := (List.getElem?_eq_some_iff.mp hc).1
    have := List.length_pos_iff.mpr (hf c (List.mem_of_getElem? hc))
    omega
theorem sum_lens (S : Stg) : (S.map fun c => (c.length : Int)).sum = (total S : Int) := by
  induction S with
  | nil => rfl
  | cons c r ih => rw [List.map_cons, List.sum_cons, ih, total_cons]; omega
end M
namespace L
open PySem PySem.Spec PyProof.Rows L2 G M P
section
variable {P : Program} {w : World} {K : PySem.W.Frag} {mg : Str → Option Value} {base : Heap}
def r_lnames : DE → List Str → DE → Prop := fun Γ x Γ' => ∃ (ad : Addr) (s : Src) (m : Int), 0 ≤ m ∧ m ≤ 450 ∧ Γ = [.own ad s.l, .is m] ∧ x = namesOf s m ∧ Γ' = [.own ad ((s.next 4).next 4).l, .is m]
theorem can_lnames (T : Txt K mg) : Can P w K mg base CX0 3 "_law_names" ps__law_names [] (spM K (nw Str) 2 r_lnames) := by
  refine canD T.d__law_names sc__law_names b__law_names fun cdv A outer s0 H E Γ x Γ' hr hR => ?_
  obtain ⟨ad, s, m, m0, m1, rfl, rfl, rfl⟩ := hR
  have nd := sc__law_names.nd
  have d0 := draw_nn (s := s) (m := 4) (by decide)
  have d1 := draw_lt (s := s) (m := 4) (by decide)
  have e0 := draw_nn (s := s.next 4) (m := 4) (by decide)
  have e1 := draw_lt (s := s.next 4) (m := 4) (by decide)
  have hs := step_ok e0 e1
  have tail : SD (cxN P w K mg base ns__law_names "_law_names" st__law_names (He.ga K "_law_names") cdv A outer s0 H E) (nw Str) ([.own ad ((s.next 4).next 4).l, .is m, .is (firstOf (s.draw 4)), .is (stepIn ((s.next 4).draw 4) m), .no] : DE) ((defBody st__law_names).drop 3) (axD (nw Str) K (namesOf s m) [.own ad s.l, .is m] [.own ad ((s.next 4).next 4).l, .is m]) := by
    have hz : (rng 0 m.toNat).length < sizeLine := by rw [rng_len, sizeLine_eq]; omega
    refine sd_ret (px_lc (own := [("_law_at", 4)]) [4] (it_range1 T.n_range (px_var 1) (by omega) (by omega)) nd hz (f := fun a : Int => nm (firstOf (s.draw 4) + a * stepIn ((s.next 4).draw 4) m % m).toNat) (Γt := fun a => ([.own ad ((s.next 4).next 4).l, .is m, .is (firstOf (s.draw 4)), .is (stepIn ((s.next 4).draw 4) m), .is a] : DE))
      (fun a ha s H0 C cl fp => gx_name 4 nd) fun a ha s1 H0 C cl fp => ?_) ⟨rfl, .own (.is .nil)⟩
    have ha := rng_mem ha
    have hn := num_ok (s := s) (m := m) (a := a) (by omega) ⟨by omega, by omega⟩
    have hst := (stepIn_ok (d := (s.next 4).draw 4) (m := m) e0 e1 (by omega))
    exact px_c ((can_lname T).mono (by decide)) hr (ax_cons (px_add (px_var 2) (px_mod (px_mulL (px_var 4) (px_var 3) ⟨by omega, by omega⟩) (px_var 1) (by omega))) ax_nil) ⟨_, hn.1, hn.2, rfl, rfl, rfl⟩ defOk_nil
  refine sd_set 2 (px_ix (px_frz (px_lst (xs := ([0, 20, 700, 18000] : List Int)) (lx_cons px_int (lx_cons px_int (lx_cons px_int (lx_cons px_int lx_nil)))))) (px_cO 0 ((can_next T).mono (by decide)) hr (ax_own 0 (ax_cons px_int ax_nil)) rfl ⟨ad, s, 4, by decide, by decide, rfl, rfl, rfl⟩ defOk_nil) (atI_int (d := 0) d0 d1)) ?_ nd
  refine sd_set 3 (px_ix (px_frz (px_lst (xs := ([1, 3, 7, 11] : List Int)) (lx_cons px_int (lx_cons px_int (lx_cons px_int (lx_cons px_int lx_nil)))))) (px_cO 0 ((can_next T).mono (by decide)) hr (ax_own 0 (ax_cons px_int ax_nil)) rfl ⟨ad, s.next 4, 4, by decide, by decide, rfl, rfl, rfl⟩ defOk_nil) (atI_int (d := 1) e0 e1)) ?_ nd
  refine sd_if (tx_cmp cr_eq (px_mod (px_var 1) (px_var (x := stepOf ((s.next 4).draw 4)) 3) (by omega)) px_int) (fun h => ?_) (fun h => sd_nil ?_)
  · have h := of_decide_eq_true h
    refine sd_set 3 px_int (sd_nil ?_) nd
    have e : stepIn ((s.next 4).draw 4) m = 1 := by unfold stepIn; rw [if_pos h]
    rw [e] at tail
    exact tail
  · have h := of_decide_eq_false h
    have e : stepIn ((s.next 4).draw 4) m = stepOf ((s.next 4).draw 4) := by unfold stepIn; rw [if_neg h]
    rw [e] at tail
    exact tail
def r_lstanding : DE → Stg → DE → Prop := fun Γ x Γ' => ∃ (ad : Addr) (s : Src) (l : List Str) (m : Int), NamesOk l m ∧ m ≤ 450 ∧ Γ = [.own ad s.l, .is l] ∧ x = standOf s l ∧ Γ' = [.own ad (standSrc s l).l, .is l]
theorem can_lstanding (T : Txt K mg) : Can P w K mg base CX0 3 "_law_standing" ps__law_standing [] (spM K (sh Stg) 2 r_lstanding) := by
  refine canD T.d__law_standing sc__law_standing b__law_standing fun cdv A outer s0 H E Γ x Γ' hr hR => ?_
  obtain ⟨ad, s, l, m, hl, hm, rfl, rfl, rfl⟩ := hR
  have nd := sc__law_standing.nd
  have hu : A.units + 3 + 64 < cLine := hr.units
  have d0 := draw_nn (s := s) (m := 6) (by decide)
  have d1 := draw_lt (s := s) (m := 6) (by decide)
  have hfine : Fine l := fun z hz => isName_ok (hl.names z hz).1
  have hlen := hl.len
  obtain ⟨mo0, mo1⟩ := most_ok d0 d1
  refine sd_setO 2 (px_lst (α := List Str) lx_nil) (fun ad2 => ?_) nd
  refine sd_set 3 (px_frz (px_list T.n_list (px_var 1).br)) ?_ nd
  refine sd_set 4 (px_ix (px_frz (px_lst (xs := ([1, 2, 3, 5, 9, 40] : List Int)) (lx_cons px_int (lx_cons px_int (lx_cons px_int (lx_cons px_int (lx_cons px_int (lx_cons px_int lx_nil)))))))) (px_cO 0 ((can_next T).mono (by decide)) hr (ax_own 0 (ax_cons px_int ax_nil)) rfl ⟨ad, s, 6, by decide, by decide, rfl, rfl, rfl⟩ defOk_nil) (atI_int (d := 1) d0 d1)) ?_ nd
  show SD _ _ ([.own ad (s.next 6).l, .is l, .own ad2 ([] : Stg), .is l, .is (mostOf (s.draw 6)), .no] : DE) _ _
  unfold standOf standSrc
  generalize mostOf (s.draw 6) = most at *
  generalize s.next 6 = s1
  refine sd_while (N := fun Γ' => Γ' = ([.own ad (cutUp most s1 l).2.l, .is l, .own ad2 (cutUp most s1 l).1, .is ([] : List Str), .is most, .no] : DE)) (fun z : Src × List Str × Stg => ([.own ad z.1.l, .is l, .own ad2 z.2.2, .is z.2.1, .is most, .no] : DE)) (fun z => z.2.2 ++ (cutUp most z.1 z.2.1).1 = (cutUp most s1 l).1 ∧ (cutUp most z.1 z.2.1).2 = (cutUp most s1 l).2 ∧ Fine z.2.1 ∧ z.2.2.length + z.2.1.length ≤ 450) (fun z => z.2.1.length) (fun z => !decide (z.2.1 = [])) (s1, l, []) ⟨rfl, rfl, hfine, by show 0 + l.length ≤ 450; omega⟩ Wk.refl
    (fun z ⟨_, _, hf, _⟩ => tx_cmp (cr_neL hu hf) (px_var 3) (px_frz (px_lst lx_nil))) (fun z ⟨h1, h2, h3, h4⟩ hb => ?_) (fun z ⟨h1, h2, h3, h4⟩ hb => ?_) (fun Γ' e => ?_)
  · obtain ⟨q, left, found⟩ := z
    dsimp only at h1 h2 h3 h4 hb ⊢
    have hne : left ≠ [] := by simpa using hb
    have hlp := List.length_pos_iff.mpr hne
    have dq0 := draw_nn (s := q) mo0
    have dq1 := draw_lt (s := q) mo0
    have hk : ∃ k : Nat, min (1 + q.draw most) (left.length : Int) = (k : Int) ∧ 1 ≤ k := by
      have : (1 : Int) ≤ min (1 + q.draw most) (left.length : Int) := Int.le_min.mpr ⟨by omega, by omega⟩
      exact ⟨(min (1 + q.draw most) (left.length : Int)).toNat, by omega, by omega⟩
    obtain ⟨k, hk, hk1⟩ := hk
    have hcut := cutUp_step mo0 q hne
    rw [hk, Int.toNat_natCast] at hcut
    refine sd_set 5 (px_min2 T.n_min (px_add px_int (px_cO 0 ((can_next T).mono (by decide)) hr (ax_own 0 (ax_cons (px_var 4) ax_nil)) rfl ⟨ad, q, most, mo0, by omega, rfl, rfl, rfl⟩ defOk_nil)) (px_len T.n_len (px_var 3).br)) ?_ nd
    rw [hk]
    refine sd_append 2 (px_frz (px_slice (px_var 3) ox_none (ox_some (px_var 5)))) rfl (by rw [sizeLine_eq]; omega) ?_
    refine sd_set 3 (px_frz (px_slice (px_var 3) (ox_some (px_var 5)) ox_none)) (sd_nil ⟨(q.next most, left.drop k, found ++ [left.take k]), ⟨?_, ?_, fun z hz => h3 z (List.mem_of_mem_drop hz), ?_⟩, ?_, ?_⟩) nd
    · rw [← h1, hcut, List.append_assoc]; rfl
    · rw [← h2, hcut]
    · show (found ++ [left.take k]).length + (left.drop k).length ≤ 450
      rw [List.length_append, List.length_drop]
      simp only [List.length_cons, List.length_nil]
      omega
    · show (left.drop k).length < left.length
      rw [List.length_drop]; omega
    · rw [cutL_to, cutL_from]
      exact .same (.same (.same (.same (.same (.no .nil)))))
  · obtain ⟨q, left, found⟩ := z
    dsimp only at h1 h2 h3 h4 hb ⊢
    have hne : left = [] := by simpa using hb
    subst hne
    rw [cutUp_nil] at h1 h2
    rw [List.append_nil] at h1
    rw [← h1, ← h2]
  · subst e
    exact sd_ret (px_take 2) ⟨rfl, .own (.is .nil)⟩
end
end L
namespace M
open PySem G
section
variable {α : Type}
theorem filterMap_at {β γ : Type} {f : β → Option γ} : ∀ {l : List β} {p : Nat}, (∀ q, q < p → ∃ y, l[q]? = some y ∧ (f y).isSome) → (∀ y r, l[p]? = some y → f y = none → l.drop (p + 1) = r → r.filterMap f = []) → (l.filterMap f)[p]? = (l[p]?).bind f
  | [], p, _, _ => by simp
  | y :: r, 0, _, h2 => by
    rw [List.filterMap_cons]
    cases q : f y with
    | some z => simp [q]
    | none =>
      have := h2 y r rfl q rfl
      show (r.filterMap f)[0]? = _
      rw [this]; simp [q]
  | y :: r, p + 1, h1, h2 => by
    obtain ⟨y', e, hs⟩ := h1 0 (by omega)
    cases e
    obtain ⟨z, hz⟩ := Option.isSome_iff_exists.mp hs
    rw [List.filterMap_cons, hz]
    show (z :: r.filterMap f)[p + 1]? = _
    rw [List.getElem?_cons_succ, List.getElem?_cons_succ]
    exact filterMap_at (fun q hq => by simpa using h1 (q + 1) (by omega)) fun y r' e1 e2 e3 => h2 y r' (by simpa using e1) e2 (by simpa using e3)
theorem row_get {S : List (List α)} {k g : Nat} (R : Rings S k g) {j n p : Nat} (h : n + p < g) : (rowT S j g n)[p]? = turnT S j n p := by
  have kg := R.kg
  unfold rowT
  rw [filterMap_at]
  · rw [List.getElem?_range (by omega)]; rfl
  · intro q hq
    exact ⟨q, List.getElem?_range (by omega), turn_lo R (by omega)⟩
  · intro y r e1 e2 e3
    rw [List.getElem?_range (by omega)] at e1
    cases e1
    have : ¬ n + p < k := fun z => by
      have := turn_lo R (j := j) z
      rw [e2] at this; cases this
    rw [← e3, List.drop_of_length_le (by rw [List.length_range]; omega)]
    rfl
theorem cell_clean : ∀ {A : List (List α)} {n p : Nat}, (∀ m, m < n → ∃ c, A[m]? = some c ∧ c ≠ []) → (∀ c, A[n]? = some c → c = [] → clean (A.drop (n + 1)) = []) → cell (clean A) n p = cell A n p
  | [], n, p, _, _ => by simp [clean, cell]
  | c :: r, 0, p, _, h2 => by
    cases c with
    | nil =>
      have := h2 [] rfl rfl
      show cell (clean r) 0 p = _
      have e : clean r = [] := by simpa using this
      rw [e]; simp [cell]
    | cons x c => rfl
  | c :: r, n + 1, p, h1, h2 => by
    obtain ⟨c', e, hne⟩ := h1 0 (by omega)
    cases e
    cases c with
    | nil => exact absurd rfl hne
    | cons x c =>
      show cell ((x :: c) :: clean r) (n + 1) p = _
      have ih := cell_clean (A := r) (n := n) (p := p) (fun m hm => by simpa using h1 (m + 1) (by omega)) fun c e1 e2 => by simpa using h2 c (by simpa using e1) e2
      unfold cell at ih ⊢
      rw [List.getElem?_cons_succ, List.getElem?_cons_succ]
      exact ih
theorem row_ne {S : List (List α)} {k g : Nat} (R : Rings S k g) {j n : Nat} (h : n < k) : rowT S j g n ≠ [] := by
  have kg := R.kg
  have h1 := turn_lo R (j := j) (n := n) (p := 0) (by omega)
  rw [← row_get R (by omega)] at h1
  intro z
  rw [z] at h1
  cases h1
theorem arr_get {S : List (List α)} {j g n : Nat} (h : n < g) : (arrT S j g)[n]? = some (rowT S j g n) := by
  unfold arrT
  rw [List.getElem?_map, List.getElem?_range h]
  rfl
/-- who stands at a place, j days behind -/
theorem it_cell {S : List (List α)} {k g : Nat} (R : Rings S k g) {j n p : Nat} (h : n + p < g) : cell (it j S) n p = turnT S j n p := by
  have kg := R.kg
  rw [it_rings R j, cell_clean]
  · unfold cell
    rw [arr_get (by omega)]
    exact row_get R h
  · intro m hm
    exact ⟨_, arr_get (by omega), row_ne R (by omega)⟩
  · intro c e1 e2
    rw [arr_get (by omega)] at e1
    cases e1
    have : ¬ n < k := fun z => row_ne R z e2
    rw [List.drop_of_length_le (by unfold arrT; rw [List.length_map, List.length_range]; omega)]
    rfl
end
/-- somebody is on each ring -/
structure Some1 (S : Stg) (g : Nat) : Prop where
  ex : ∀ L, 1 ≤ L → L ≤ g → ∃ n p x, n + p + 1 = L ∧ cell S n p = some x
theorem rings_some {S : Stg} {k : Nat} (f : Int) (hs : IsShape S k) : Some1 S (greatestOf S f).toNat := by
  refine ⟨fun L h1 h2 => ?_⟩
  by_cases z : L ≤ k
  · obtain ⟨x, hx⟩ := Option.isSome_iff_exists.mp (cell_shape hs (show 0 + (L - 1) < k by omega))
    exact ⟨0, L - 1, x, by omega, hx⟩
  · rcases greatest_at S f with e | ⟨n, p, h, e⟩
    · omega
    · have := shape_cell hs h
      obtain ⟨x, hx⟩ := Option.isSome_iff_exists.mp h
      exact ⟨n, p, x, by omega, hx⟩
theorem shape_gt : ∀ (l : Nat) {S : Stg}, Full S → IsShape S l → (tri l < total S ↔ ∃ i, i ≤ l ∧ (cell S i (l - i)).isSome)
  | 0, [], hf, h => by
    constructor
    · intro z; exact absurd z (by decide)
    · rintro ⟨i, _, z⟩; simp [cell] at z
  | 0, [c], hf, h => by
    have h1 := h.2 0 c rfl
    have h2 : 0 < c.length := List.length_pos_iff.mpr (hf c List.mem_cons_self)
    have h3 : c.length = 1 := by omega
    rw [total_cons, h3]
    constructor
    · intro _
      refine ⟨0, Nat.le_refl _, ?_⟩
      unfold cell
      rw [List.getElem?_cons_zero, Option.bind_some, List.getElem?_eq_getElem (by omega)]
      rfl
    · intro _; decide
  | 0, c :: d :: r, hf, h => by
    have := h.1
    simp at this
  | l + 1, [], hf, h => by
    have := h.1
    simp at this
  | l + 1, c :: r, hf, h => by
    have hr : IsShape r l := by
      refine ⟨by have := h.1; simp at this; omega, fun i d hd => ?_⟩
      have := h.2 (i + 1) d (by simpa using hd)
      omega
    have hfr : Full r := fun d hd => hf d (List.mem_cons_of_mem _ hd)
    have hc := h.2 0 c rfl
    obtain ⟨a, _, _⟩ := shape_total l hfr hr
    have ih := shape_gt l hfr hr
    have t1 := tri_succ l
    rw [total_cons]
    have c0 : (cell (c :: r) 0 (l + 1 - 0)).isSome ↔ c.length = l + 2 := by
      unfold cell
      rw [List.getElem?_cons_zero, Option.bind_some]
      constructor
      · intro z
        obtain ⟨x, hx⟩ := Option.isSome_iff_exists.mp z
        have := (List.getElem?_eq_some_iff.mp hx).1
        omega
      · intro z
        rw [List.getElem?_eq_getElem (by omega)]; rfl
    constructor
    · intro z
      by_cases q : c.length = l + 2
      · exact ⟨0, Nat.zero_le _, c0.mpr q⟩
      · obtain ⟨i, hi, hx⟩ := ih.mp (by omega)
        refine ⟨i + 1, by omega, ?_⟩
        rw [show l + 1 - (i + 1) = l - i by omega]
        simpa [cell] using hx
    · rintro ⟨i, hi, hx⟩
      cases i with
      | zero => have := c0.mp hx; omega
      | succ i =>
        have := ih.mpr ⟨i, by omega, by rw [show l + 1 - (i + 1) = l - i by omega] at hx; simpa [cell] using hx⟩
        omega
end M
namespace M
open PySem G SrtT
/-- so many taken out of a list, as they are drawn -/
def pickN (s : Src) (l : List Str) : Nat → Src × List Str × List Str
  | 0 => (s, l, [])
  | k + 1 => ((pickN s l k).1.next (pickN s l k).2.1.length, (pickN s l k).2.1.eraseIdx ((pickN s l k).1.draw (pickN s l k).2.1.length).toNat, (pickN s l k).2.2 ++ [(pickN s l k).2.1.getD ((pickN s l k).1.draw (pickN s l k).2.1.length).toNat Str.empty])
theorem at_of {l : List Str} {j : Nat} (h : j < l.length) : l[j]? = some (l.getD j Str.empty) := by
  rw [List.getD_eq_getElem?_getD, List.getElem?_eq_getElem h]; rfl
theorem out_perm : ∀ {l : List Str} {j : Nat} (h : j < l.length), (l.getD j Str.empty :: l.eraseIdx j).Perm l
  | x :: l, 0, _ => List.Perm.refl _
  | x :: l, j + 1, h => by
    have := out_perm (l := l) (j := j) (by simpa using h)
    exact (List.Perm.swap x (l.getD j Str.empty) _).trans (this.cons x)
theorem pick_ok (s : Src) (l : List Str) : ∀ k, k ≤ l.length → (pickN s l k).2.1.length = l.length - k ∧ (pickN s l k).2.2.length = k ∧ ((pickN s l k).2.2 ++ (pickN s l k).2.1).Perm l
  | 0, _ => ⟨rfl, rfl, List.Perm.refl _⟩
  | k + 1, h => by
    obtain ⟨a, b, c⟩ := pick_ok s l k (by omega)
    unfold pickN
    generalize pickN s l k = t at *
    obtain ⟨q, left, found⟩ := t
    simp only at a b c ⊢
    have d0 := draw_nn (s := q) (m := left.length) (by omega)
    have d1 := draw_lt (s := q) (m := left.length) (by omega)
    have hj : (q.draw left.length).toNat < left.length := by omega
    refine ⟨by rw [List.length_eraseIdx_of_lt hj]; omega, by simp [b], ?_⟩
    refine List.Perm.trans ?_ c
    rw [List.append_assoc]
    exact (out_perm hj).append_left _
def someN (s : Src) (names : List Str) (most : Int) : Nat := (1 + s.draw (min most names.length)).toNat
def someF (s : Src) (names : List Str) (most : Int) : List Str := (pickN (s.next (min most names.length)) names (someN s names most)).2.2
def someS (s : Src) (names : List Str) (most : Int) : Src := (pickN (s.next (min most names.length)) names (someN s names most)).1
theorem someN_ok {s : Src} {names : List Str} {most : Int} (h : names ≠ []) (hm : 1 ≤ most) : 1 ≤ someN s names most ∧ someN s names most ≤ names.length ∧ (someN s names most : Int) ≤ most := by
  have hl := List.length_pos_iff.mpr h
  have m0 : (0 : Int) < min most names.length := Int.lt_min.mpr ⟨by omega, by omega⟩
  have d0 := draw_nn (s := s) m0
  have d1 := draw_lt (s := s) m0
  have a := Int.min_le_left most names.length
  have b := Int.min_le_right most names.length
  unfold someN
  omega
@[irreducible] def sF (s : Src) (names : List Str) (most : Int) : List Str := someF s names most
@[irreducible] def sS (s : Src) (names : List Str) (most : Int) : Src := someS s names most
/-- some unlike ones of others -/
structure FewOf (names found : List Str) : Prop where
  ne : found ≠ []
  once : found.Nodup
  sub : ∀ n ∈ found, n ∈ names
theorem FewOf.len {names found : List Str} (h : FewOf names found) : found.length ≤ names.length := h.once.length_le_of_subset h.sub
theorem some_few {s : Src} {names : List Str} {most : Int} (h : names ≠ []) (hm : 1 ≤ most) (hn : names.Nodup) : FewOf names (someF s names most) := by
  obtain ⟨a, b, _⟩ := someN_ok (s := s) h hm
  obtain ⟨c, d, e⟩ := pick_ok (s.next (min most names.length)) names _ b
  refine ⟨fun z => ?_, ?_, fun n hn => ?_⟩
  · unfold someF at z
    rw [z] at d
    simp at d
    omega
  · exact (List.nodup_append.mp (e.nodup_iff.mpr hn)).1
  · exact e.mem_iff.mp (List.mem_append_left _ hn)
theorem sF_few {s : Src} {names : List Str} {most : Int} (h : names ≠ []) (hm : 1 ≤ most) (hn : names.Nodup) : FewOf names (sF s names most) := by
  unfold sF
  exact some_few h hm hn
/-- a law's dict of rings -/
structure DictOk (d : List (Str × (Int × Int))) : Prop where
  once : (d.map (·.1)).Nodup
  few : d.length ≤ 450
  names : ∀ p ∈ d, isName p.1 = true
  rings : ∀ p ∈ d, RingOk p.2
  one : ∃ p ∈ d, p.2 = (1, 0)
theorem DictOk.look {d : List (Str × (Int × Int))} (h : DictOk d) {n : Str} (m : n ∈ d.map (·.1)) : G.look d n = some (ringIn d n) ∧ RingOk (ringIn d n) ∧ isName n = true := by
  obtain ⟨p, hp, rfl⟩ := List.mem_map.mp m
  have := (look_iff h.once (k := p.1) (v := p.2)).mpr hp
  unfold ringIn
  rw [this]
  exact ⟨rfl, h.rings p hp, h.names p hp⟩
theorem DictOk.ne {d : List (Str × (Int × Int))} (h : DictOk d) : d.map (·.1) ≠ [] := by
  obtain ⟨p, hp, _⟩ := h.one
  intro z
  have := List.mem_map_of_mem (f := (·.1)) hp
  rw [z] at this
  cases this
theorem DictOk.folk {d : List (Str × (Int × Int))} (h : DictOk d) {found : List Str} (f : FewOf (d.map (·.1)) found) : FolkOk d found := by
  have := f.len
  rw [List.length_map] at this
  have := h.few
  exact ⟨f.ne, f.once, by omega, fun n hn => (h.look (f.sub n hn)).2.2, fun n hn => ⟨_, (h.look (f.sub n hn)).1, (h.look (f.sub n hn)).2.1⟩⟩
theorem few_erase {names found : List Str} (h : FewOf names found) (h1 : 1 < found.length) (j : Nat) : FewOf names (found.eraseIdx j) := by
  refine ⟨fun z => ?_, h.once.sublist (List.eraseIdx_sublist ..), fun n hn => h.sub n ((List.eraseIdx_sublist ..).subset hn)⟩
  have := congrArg List.length z
  rw [List.length_eraseIdx] at this
  simp at this
  split at this <;> omega
end M
namespace L
open PySem PySem.Spec PyProof.Rows L2 G M P SrtT
open Rp (rp)
section
variable {P : Program} {w : World} {K : PySem.W.Frag} {mg : Str → Option Value} {base : Heap}
def r_lcommon2 : DE → Int → DE → Prop := fun Γ x Γ' => ∃ a b : Int, 0 ≤ a ∧ 0 ≤ b ∧ Γ = [.is a, .is b] ∧ x = (Int.gcd a b : Int) ∧ Γ' = Γ
theorem can_lcommon2 (T : Txt K mg) : Can P w K mg base CX0 1 "_law_common" ps__law_common [] (spM K (sh Int) 2 r_lcommon2) := by
  refine canD T.d__law_common sc__law_common b__law_common fun cdv A outer s H E Γ x Γ' hr hR => ?_
  obtain ⟨a, b, ha, hb, rfl, rfl, rfl⟩ := hR
  refine sd_while (N := fun Γ' => Γ' = [.is (Int.gcd a b : Int), .is (0 : Int)]) (fun s : Int × Int => [.is s.1, .is s.2]) (fun s => 0 ≤ s.1 ∧ 0 ≤ s.2 ∧ Int.gcd s.1 s.2 = Int.gcd a b) (fun s => s.2.toNat) (fun s => !decide (s.2 = 0)) (a, b) ⟨ha, hb, rfl⟩ Wk.refl
    (fun s _ => tx_cmp cr_ne (px_var 1) px_int) (fun s ⟨h1, h2, h3⟩ hb => ?_) (fun s ⟨h1, h2, h3⟩ hb => ?_) (fun Γ' e => ?_)
  · have hn : 0 < s.2 := by
      have : s.2 ≠ 0 := by simpa using hb
      omega
    obtain ⟨t1, t2⟩ := gcd_turn h1 hn
    exact sd_par 0 1 (px_var 1) (px_mod (px_var 0) (px_var 1) hn) (sd_nil ⟨(s.2, s.1 % s.2), ⟨h2, Int.emod_nonneg _ (by omega), t1.trans h3⟩, t2, Wk.refl⟩) sc__law_common.nd
  · have hz : s.2 = 0 := by simpa using hb
    rw [hz] at h3 ⊢
    have e : s.1 = (Int.gcd a b : Int) := by
      rw [← h3, Int.gcd_zero_right]
      omega
    rw [e]
  · subst e
    exact sd_ret (px_var 0) ⟨rfl, .is (.is .nil)⟩
def r_lmeeting : DE → Option (Int × Int) → DE → Prop := fun Γ x Γ' => ∃ rs : List (Int × Int), (∀ p ∈ rs, RingOk p) ∧ Γ = [.is rs] ∧ x = allJ (rs.map flipR) ∧ Γ' = Γ
theorem can_lmeeting (T : Txt K mg) : Can P w K mg base CX0 2 "_law_meeting" ps__law_meeting [] (spM K (sh (Option (Int × Int))) 1 r_lmeeting) := by
  refine canD T.d__law_meeting sc__law_meeting b__law_meeting fun cdv A outer s H E Γ x Γ' hr hR => ?_
  obtain ⟨rs, hp, rfl, rfl, rfl⟩ := hR
  have nd := sc__law_meeting.nd
  refine sd_asg (px_t2 (x := (0 : Int)) (y := (1 : Int)) px_int px_int) (gx_t2 (gx_name 1 nd) (gx_name 2 nd)) ?_
  refine sd_for (ts := [3, 4]) (N := fun Γ' => ∃ f, joinL (rs.map flipR) (0, 1) = some f ∧ Wk Γ' ([.is rs, .is f.1, .is f.2, .no, .no, .no] : DE)) (it_list (px_var 0))
    (fun i Γ' => ∃ f, (0 < f.2 ∧ 0 ≤ f.1 ∧ f.1 < f.2) ∧ joinL ((rs.take i).map flipR) (0, 1) = some f ∧ Γ' = ([.is rs, .is f.1, .is f.2, .no, .no, .no] : DE)) ⟨(0, 1), by decide, rfl, rfl⟩ (fun i y Γ' hy ⟨f, f0, hf, e⟩ => ?_) (fun Γ' z => by
      obtain ⟨f, _, hf, e⟩ := z
      exact ⟨f, by rw [← hf, List.take_length], by rw [e]; exact Wk.refl⟩) (fun Γ' ⟨f, hf, w⟩ => ?_)
  · subst e
    have hy2 := hp y (List.mem_of_getElem? hy)
    obtain ⟨b, d⟩ := y
    obtain ⟨r, e⟩ := f
    obtain ⟨b0, b1, d0, d1⟩ := hy2
    obtain ⟨e0, r0, r1⟩ := f0
    simp only at *
    have e1 : joinL ((rs.take (i + 1)).map flipR) (0, 1) = joinF (r, e) (d, b) := by
      rw [List.take_add_one, hy, List.map_append, joinL_app, hf]
      show joinL [(d, b)] (r, e) = _
      unfold joinL
      cases joinF (r, e) (d, b) <;> rfl
    refine ⟨_, gx_t2 (gx_name 3 nd) (gx_name 4 nd), ?_⟩
    refine sd_set 5 px_int ?_ nd
    refine sd_while (N := fun Γ' => ∃ t : Nat, (∀ j : Nat, j < t → (r + (j : Int) * e) % b ≠ d) ∧ ((r + (t : Int) * e) % b = d ∨ b ≤ t) ∧ Wk Γ' ([.is rs, .is (r + (t : Int) * e), .is e, .is b, .is d, .is (t : Int)] : DE)) (fun t : Nat => ([.is rs, .is (r + (t : Int) * e), .is e, .is b, .is d, .is (t : Int)] : DE))
      (fun t => (t : Int) ≤ b ∧ ∀ j : Nat, j < t → (r + (j : Int) * e) % b ≠ d) (fun t => (b - t).toNat) (fun t => !decide ((r + (t : Int) * e) % b = d) && decide ((t : Int) < b)) 0 ⟨by omega, fun j hj => absurd hj (by omega)⟩ (by
        show Wk _ ([.is rs, .is (r + ((0 : Nat) : Int) * e), .is e, .is b, .is d, .is ((0 : Nat) : Int)] : DE)
        rw [show r + ((0 : Nat) : Int) * e = r by simp]
        exact Wk.refl)
      (fun t _ => WX.tx (wx_and (tx_cmp cr_ne (px_mod (px_var 1) (px_var 3) b0) (px_var 4)) fun _ => wx_and1 (tx_cmp cr_lt (px_var 5) (px_var 3)))) (fun t ⟨h1, h2⟩ hb => ?_) (fun t ⟨h1, h2⟩ hb => ⟨t, h2, ?_, Wk.refl⟩) (fun Γ' ⟨t, h2, h3, w⟩ => ?_)
    · have hb : ¬ (r + (t : Int) * e) % b = d ∧ (t : Int) < b := by simpa using hb
      refine sd_set 1 (px_add (px_var 1) (px_var 2)) ?_ nd
      refine sd_set 5 (px_add (px_var 5) px_int) (sd_nil ⟨t + 1, ⟨by omega, fun j hj => ?_⟩, by omega, ?_⟩) nd
      · rcases Nat.lt_or_ge j t with z | z
        · exact h2 j z
        · rw [show j = t by omega]; exact hb.1
      · show Wk ([.is rs, .is (r + (t : Int) * e + e), .is e, .is b, .is d, .is ((t : Int) + 1)] : DE) ([.is rs, .is (r + ((t + 1 : Nat) : Int) * e), .is e, .is b, .is d, .is ((t + 1 : Nat) : Int)] : DE)
        rw [show r + ((t + 1 : Nat) : Int) * e = r + (t : Int) * e + e by grind, show ((t + 1 : Nat) : Int) = (t : Int) + 1 by omega]
        exact Wk.refl
    · by_cases z : (r + (t : Int) * e) % b = d
      · exact .inl z
      · right
        simp [z] at hb
        exact hb
    · refine sd_wk w ?_
      have g0 : 0 < (Int.gcd e b : Int) := by
        have := Int.gcd_pos_of_ne_zero_left b (show e ≠ 0 by omega)
        omega
      have g1 : (Int.gcd e b : Int) < 2 ^ 62 := by
        have := Int.le_of_dvd b0 (Int.gcd_dvd_right e b)
        omega
      refine sd_if (tx_cmp cr_ne (px_mod (px_var 1) (px_var 3) b0) (px_var 4)) (fun h => ?_) (fun h => sd_nil ?_)
      · have h : ¬ (r + (t : Int) * e) % b = d := by simpa using h
        have hj : joinF (r, e) (d, b) = none := step_none e0 b0 r0 r1 (fun j hj => h2 j (by
          rcases h3 with z | z
          · exact absurd z h
          · omega)) d0 d1
        refine sd_ret px_none ⟨?_, .is .nil⟩
        unfold allJ
        rw [hj] at e1
        rw [← List.take_append_drop (i + 1) rs, List.map_append, joinL_app, e1]
        rfl
      · have h : (r + (t : Int) * e) % b = d := by simpa using h
        have hj := step_some (t := (t : Int)) e0 b0 h
        have L0 := lcm1_pos e0 b0
        refine sd_set 2 (px_mulR (px_div (px_var 2) (px_c (can_lcommon2 T) hr (ax_cons (px_var 2) (ax_cons (px_var 3) ax_nil)) ⟨e, b, by omega, by omega, rfl, rfl, rfl⟩ defOk_nil) (div_ok g0 g1)) (px_var 3) ⟨by omega, by omega⟩) ?_ nd
        refine sd_set 1 (px_mod (px_var 1) (px_var 2) L0) (sd_nil ⟨_, ?_, ((r + (t : Int) * e) % lcm1 e b, lcm1 e b), ⟨L0, Int.emod_nonneg _ (by omega), Int.emod_lt_of_pos _ L0⟩, by rw [e1, hj], rfl⟩) nd
        exact .same (.same (.same (.no (.no (.no .nil)))))
  · refine sd_wk w (sd_ret (px_some (px_t2 (px_var 1) (px_var 2))) ⟨?_, .is .nil⟩)
    unfold allJ
    rw [hf]
def r_lsome : DE → List Str → DE → Prop := fun Γ x Γ' => ∃ (ad : Addr) (s : Src) (names : List Str) (most : Int), names ≠ [] ∧ names.length ≤ 450 ∧ 1 ≤ most ∧ Γ = [.own ad s.l, .is names, .is most] ∧ x = sF s names most ∧ Γ' = [.own ad (sS s names most).l, .is names, .is most]
theorem can_lsome (T : Txt K mg) : Can P w K mg base CX0 3 "_law_some" ps__law_some [] (spM K (sh (List Str)) 3 r_lsome) := by
  refine canD T.d__law_some sc__law_some b__law_some fun cdv A outer s0 H E Γ x Γ' hr hR => ?_
  obtain ⟨ad, s, names, most, hne, hl, hm, rfl, rfl, rfl⟩ := hR
  unfold sF sS
  have nd := sc__law_some.nd
  have hlp := List.length_pos_iff.mpr hne
  have m0 : (0 : Int) < min most names.length := Int.lt_min.mpr ⟨by omega, by omega⟩
  have m1 := Int.min_le_right most names.length
  obtain ⟨n1, n2, n3⟩ := someN_ok (s := s) hne hm
  have hd0 := draw_nn (s := s) m0
  have hd1 := draw_lt (s := s) m0
  have en : (1 + s.draw (min most names.length)).toNat = someN s names most := rfl
  refine sd_setO 3 (px_list T.n_list (px_var 1).br) (fun a3 => ?_) nd
  refine sd_setO 4 (px_lst (α := Str) lx_nil) (fun a4 => ?_) nd
  refine sd_for (ts := [5]) (N := fun Γ' => Wk Γ' ([.own ad (someS s names most).l, .is names, .is most, .no, .own a4 (someF s names most), .no] : DE)) (IX.wk (Γ2 := ([.own ad (s.next (min most names.length)).l, .is names, .is most, .own a3 names, .own a4 ([] : List Str), .no] : DE)) (it_range1 T.n_range (px_add px_int (px_cO 0 ((can_next T).mono (by decide)) hr (ax_own 0 (ax_cons (px_min2 T.n_min (px_var 2) (px_len T.n_len (px_var 1).br)) ax_nil)) rfl ⟨ad, s, _, m0, by omega, rfl, rfl, rfl⟩ defOk_nil)) (by omega) (by omega)) Wk.refl)
    (fun i Γ' => ∃ t, t = pickN (s.next (min most names.length)) names i ∧ Γ' = ([.own ad t.1.l, .is names, .is most, .own a3 t.2.1, .own a4 t.2.2, .no] : DE)) ⟨_, rfl, rfl⟩ (fun i y Γ' hy ⟨t, ht, e⟩ => ?_) (fun Γ' z => ?_) (fun Γ' w => ?_)
  · subst e
    obtain ⟨hi, rfl⟩ := rng_get hy
    rw [en] at hi
    obtain ⟨p1, p2, p3⟩ := pick_ok (s.next (min most names.length)) names i (by omega)
    have ex : pickN (s.next (min most names.length)) names (i + 1) = (t.1.next t.2.1.length, t.2.1.eraseIdx (t.1.draw t.2.1.length).toNat, t.2.2 ++ [t.2.1.getD (t.1.draw t.2.1.length).toNat Str.empty]) := by rw [pickN, ← ht]
    rw [← ht] at p1 p2 p3
    clear ht
    obtain ⟨q, left, found⟩ := t
    simp only at *
    have q0 : (0 : Int) < left.length := by omega
    have d0 := draw_nn (s := q) q0
    have d1 := draw_lt (s := q) q0
    obtain ⟨j, hj⟩ : ∃ j : Nat, q.draw left.length = (j : Int) := ⟨(q.draw left.length).toNat, by omega⟩
    rw [hj, Int.toNat_natCast] at ex
    have hjl : j < left.length := by omega
    refine ⟨_, gx_name 5 nd, ?_⟩
    have hz : left.length < sizeLine := by rw [sizeLine_eq]; omega
    have hz2 : found.length < sizeLine := by rw [sizeLine_eq]; omega
    refine sd_append 4 (px_popAt (n := j) (y := left.getD j Str.empty) 3 (by
      rw [← hj]
      exact px_cO 0 ((can_next T).mono (by decide)) hr (ax_own 0 (ax_cons (px_len T.n_len (px_ownB 3)) ax_nil)) rfl ⟨ad, q, _, q0, by omega, rfl, rfl, rfl⟩ defOk_nil) rfl (at_of hjl) hz) rfl hz2 (sd_nil ⟨_, ?_, _, ex.symm, rfl⟩)
    exact .same (.same (.same (.same (.same (.no .nil)))))
  · obtain ⟨t, ht, e⟩ := z
    rw [rng_len, en] at ht
    subst ht e
    exact .same (.same (.same (.no (.same (.no .nil)))))
  · exact sd_wk w (sd_ret (px_take 4) ⟨rfl, .own (.is (.is .nil))⟩)
end
end L
namespace L
open PySem PySem.Spec PyProof.Rows L2 G M P SrtT
open Rp (rp)
section
variable {P : Program} {w : World} {K : PySem.W.Frag} {mg : Str → Option Value} {base : Heap}
end
end L
namespace M
open PySem G
theorem front_filter {S : Stg} {p : List Str → Bool} {j : Nat} (h : ∀ (i : Nat) (c : List Str), S[i]? = some c → (i < j → p c = true) ∧ (j ≤ i → p c = false)) : S.filter p = S.take j := by
  have e := List.take_append_drop j S
  rw [← e, List.filter_append, List.take_append_drop]
  have a : (S.take j).filter p = S.take j := by
    rw [List.filter_eq_self]
    intro c hc
    obtain ⟨i, hi⟩ := List.getElem?_of_mem hc
    rw [List.getElem?_take] at hi
    split at hi
    · exact (h i c hi).1 (by assumption)
    · cases hi
  have b : (S.drop j).filter p = [] := by
    rw [List.filter_eq_nil_iff]
    intro c hc
    obtain ⟨i, hi⟩ := List.getElem?_of_mem hc
    rw [List.getElem?_drop] at hi
    rw [(h (j + i) c hi).2 (by omega)]
    exact Bool.false_ne_true
  rw [a, b, List.append_nil]
theorem shape_on {S : Stg} {k : Nat} (hf : ∀ c ∈ S, c ≠ []) (h : IsShape S k) : IsShape (behind S) k := by
  by_cases h0 : S = []
  · subst h0; exact h
  obtain ⟨hl, hc⟩ := h
  have pos : ∀ (i : Nat) (c : List Str), S[i]? = some c → 0 < c.length ∧ i < S.length := fun i c e => ⟨List.length_pos_iff.mpr (hf c (List.mem_of_getElem? e)), (List.getElem?_eq_some_iff.mp e).1⟩
  have front : ∃ j, (j = k ∨ j + 1 = k) ∧ (S.filter fun c => decide (1 < c.length)) = S.take j := by
    by_cases z : ∃ c, 0 < k ∧ S[k - 1]? = some c ∧ c.length ≤ 1
    · obtain ⟨c, k0, e, l⟩ := z
      refine ⟨k - 1, .inr (by omega), front_filter fun i d hd => ?_⟩
      have p := pos i d hd
      have q := hc i d hd
      refine ⟨fun hi => decide_eq_true (by omega), fun hi => decide_eq_false ?_⟩
      by_cases y : i = k - 1
      · subst y
        rw [e] at hd
        cases hd
        omega
      · omega
    · refine ⟨k, .inl rfl, front_filter fun i d hd => ?_⟩
      have p := pos i d hd
      have q := hc i d hd
      refine ⟨fun hi => decide_eq_true ?_, fun hi => decide_eq_false (by omega)⟩
      by_cases y : i = k - 1
      · subst y
        have : ¬ d.length ≤ 1 := fun l => z ⟨d, by omega, hd, l⟩
        omega
      · omega
  obtain ⟨j, hj, ej⟩ := front
  have eb : behind S = (S.map fun c => c.getD 0 Str.empty) :: (S.take j).map List.tail := by
    rw [behind_full hf, if_neg (by simpa using h0), ej]
  rw [eb]
  refine ⟨?_, fun i c e => ?_⟩
  · rw [List.length_cons, List.length_map, List.length_take]
    omega
  · cases i with
    | zero =>
      have e : (S.map fun c => c.getD 0 Str.empty) = c := by simpa using e
      subst e
      rw [List.length_map]
      omega
    | succ i =>
      rw [List.getElem?_cons_succ, List.getElem?_map] at e
      cases q : (S.take j)[i]? with
      | none => rw [q] at e; cases e
      | some d =>
        rw [q] at e
        have e : d.tail = c := Option.some.inj e
        subst e
        rw [List.getElem?_take] at q
        split at q
        · have := hc i d q
          have := pos i d q
          rw [List.length_tail]
          omega
        · cases q
end M
namespace M
open PySem G
theorem share_part {a b d D q : Nat} (ha : 0 < a) (hd : 0 < d) (h1 : d ∣ Nat.lcm a b) (h2 : Nat.gcd a d ∣ D) (h3 : d = D * q) : q ∣ b / Nat.gcd a b := by
  have g0 : 0 < Nat.gcd d a := Nat.gcd_pos_of_pos_left _ hd
  have cop := Nat.coprime_div_gcd_div_gcd g0
  rw [Nat.gcd_comm] at h2
  obtain ⟨d', hd'⟩ := Nat.gcd_dvd_left d a
  obtain ⟨a', ha'⟩ := Nat.gcd_dvd_right d a
  obtain ⟨D', hD'⟩ := h2
  generalize Nat.gcd d a = e at *
  have e1 : d / e = d' := by
    conv => lhs; rw [hd']
    exact Nat.mul_div_cancel_left _ g0
  have e2 : a / e = a' := by
    conv => lhs; rw [ha']
    exact Nat.mul_div_cancel_left _ g0
  rw [e1, e2] at cop
  have e3 : Nat.lcm a b = a * (b / Nat.gcd a b) := by
    unfold Nat.lcm
    exact Nat.mul_div_assoc _ (Nat.gcd_dvd_right a b)
  rw [e3] at h1
  generalize b / Nat.gcd a b = b' at *
  have k1 : d' ∣ a' * b' := by
    rw [hd', ha', Nat.mul_assoc] at h1
    exact Nat.dvd_of_mul_dvd_mul_left g0 h1
  have k2 : d' ∣ b' := cop.dvd_of_dvd_mul_left k1
  have k3 : e * d' = e * (D' * q) := by rw [← hd', h3, hD', Nat.mul_assoc]
  have k4 := Nat.eq_of_mul_eq_mul_left g0 k3
  exact Nat.dvd_trans ⟨D', by rw [k4, Nat.mul_comm]⟩ k2
theorem gcd_lcm_dvd {a b m : Nat} (ha : 0 < a) (hb : 0 < b) : Nat.gcd (Nat.lcm a b) m ∣ Nat.lcm (Nat.gcd a m) (Nat.gcd b m) := by
  have d0 : 0 < Nat.gcd (Nat.lcm a b) m := Nat.gcd_pos_of_pos_left _ (Nat.lcm_pos ha hb)
  have dl := Nat.gcd_dvd_left (Nat.lcm a b) m
  have dm := Nat.gcd_dvd_right (Nat.lcm a b) m
  have up : Nat.lcm (Nat.gcd a m) (Nat.gcd b m) ∣ Nat.gcd (Nat.lcm a b) m :=
    Nat.lcm_dvd (Nat.dvd_gcd (Nat.dvd_trans (Nat.gcd_dvd_left a m) (Nat.dvd_lcm_left a b)) (Nat.gcd_dvd_right a m)) (Nat.dvd_gcd (Nat.dvd_trans (Nat.gcd_dvd_left b m) (Nat.dvd_lcm_right a b)) (Nat.gcd_dvd_right b m))
  obtain ⟨q, hq⟩ := up
  have in1 : Nat.gcd a (Nat.gcd (Nat.lcm a b) m) ∣ Nat.lcm (Nat.gcd a m) (Nat.gcd b m) :=
    Nat.dvd_trans (Nat.dvd_gcd (Nat.gcd_dvd_left _ _) (Nat.dvd_trans (Nat.gcd_dvd_right _ _) dm)) (Nat.dvd_lcm_left _ _)
  have in2 : Nat.gcd b (Nat.gcd (Nat.lcm a b) m) ∣ Nat.lcm (Nat.gcd a m) (Nat.gcd b m) :=
    Nat.dvd_trans (Nat.dvd_gcd (Nat.gcd_dvd_left _ _) (Nat.dvd_trans (Nat.gcd_dvd_right _ _) dm)) (Nat.dvd_lcm_right _ _)
  have q1 := share_part ha d0 dl in1 hq
  have q2 := share_part (b := a) hb d0 (by rw [Nat.lcm_comm b a]; exact dl) in2 hq
  have cop := Nat.coprime_div_gcd_div_gcd (m := a) (n := b) (Nat.gcd_pos_of_pos_left _ ha)
  rw [Nat.gcd_comm b a] at q2
  have one : q ∣ 1 := by
    have := Nat.dvd_gcd q2 q1
    rwa [cop] at this
  have : q = 1 := Nat.dvd_one.mp one
  rw [hq, this, Nat.mul_one]
  exact Nat.dvd_refl _
theorem lcm1_gcd {e b m z : Int} (he : 0 < e) (hb : 0 < b) (h1 : (Int.gcd e m : Int) ∣ z) (h2 : (Int.gcd b m : Int) ∣ z) : (Int.gcd (lcm1 e b) m : Int) ∣ z := by
  rw [lcm1_eq he hb]
  have n1 : 0 < e.natAbs := by omega
  have n2 : 0 < b.natAbs := by omega
  have k := gcd_lcm_dvd (m := m.natAbs) n1 n2
  have h1 : Nat.gcd e.natAbs m.natAbs ∣ z.natAbs := Int.natAbs_dvd_natAbs.mpr h1
  have h2 : Nat.gcd b.natAbs m.natAbs ∣ z.natAbs := Int.natAbs_dvd_natAbs.mpr h2
  have := Nat.dvd_trans k (Nat.lcm_dvd h1 h2)
  refine Int.natAbs_dvd_natAbs.mp ?_
  exact this
/-- two remainders that can meet -/
def Fit (p q : Int × Int) : Prop := (Int.gcd p.2 q.2 : Int) ∣ p.1 - q.1
theorem joinF_fit {p q : Int × Int} (h : Fit p q) : joinF p q ≠ none := by
  unfold joinF
  rw [if_pos]
  · exact fun z => nomatch z
  · refine Int.emod_eq_zero_of_dvd ?_
    have := Int.dvd_neg.mpr h
    rwa [show -(p.1 - q.1) = q.1 - p.1 by omega] at this
theorem joinL_fit : ∀ {ps : List (Int × Int)} {f : Int × Int}, 0 < f.2 → (∀ p ∈ ps, 0 < p.2) → (∀ p ∈ ps, Fit f p) → ps.Pairwise Fit → joinL ps f ≠ none
  | [], f, _, _, _, _ => fun z => nomatch z
  | p :: ps, f, h1, hp, hf, hw => by
    rw [List.pairwise_cons] at hw
    have p0 := hp p List.mem_cons_self
    unfold joinL
    cases q : joinF f p with
    | none => exact absurd q (joinF_fit (hf p List.mem_cons_self))
    | some g =>
      obtain ⟨g0, ge, _, _, gi⟩ := join_some h1 p0 q
      obtain ⟨m1, m2⟩ := (gi g.1).mp ⟨0, by omega⟩
      refine joinL_fit g0 (fun u hu => hp u (List.mem_cons_of_mem _ hu)) (fun u hu => ?_) hw.2
      unfold Fit
      rw [ge]
      have a1 : (Int.gcd f.2 u.2 : Int) ∣ g.1 - u.1 := by
        have x1 := Int.dvd_trans (Int.gcd_dvd_left f.2 u.2) m1
        have x2 : (Int.gcd f.2 u.2 : Int) ∣ f.1 - u.1 := hf u (List.mem_cons_of_mem _ hu)
        have := Int.dvd_add x1 x2
        rwa [show g.1 - f.1 + (f.1 - u.1) = g.1 - u.1 by omega] at this
      have a2 : (Int.gcd p.2 u.2 : Int) ∣ g.1 - u.1 := by
        have x1 := Int.dvd_trans (Int.gcd_dvd_left p.2 u.2) m2
        have x2 : (Int.gcd p.2 u.2 : Int) ∣ p.1 - u.1 := hw.1 u hu
        have := Int.dvd_add x1 x2
        rwa [show g.1 - p.1 + (p.1 - u.1) = g.1 - u.1 by omega] at this
      exact lcm1_gcd h1 p0 a1 a2
theorem off_none {x y : Str × (Int × Int)} : offOf x y = none ↔ Fit (flipR x.2) (flipR y.2) := by
  unfold offOf Fit flipR
  constructor
  · intro h
    split at h
    · rename_i z; exact Int.dvd_of_emod_eq_zero z
    · cases h
  · intro h
    rw [if_pos (Int.emod_eq_zero_of_dvd h)]
theorem firstOff_none : ∀ {l : List (Str × (Int × Int))}, firstOff l = none ↔ (l.map fun x => flipR x.2).Pairwise Fit
  | [] => by simp [firstOff]
  | x :: l => by
    unfold firstOff
    rw [List.map_cons, List.pairwise_cons, ← firstOff_none (l := l), Option.or_eq_none_iff, List.findSome?_eq_none_iff]
    refine and_congr ⟨fun h q hq => ?_, fun h y hy => ?_⟩ Iff.rfl
    · obtain ⟨y, hy, rfl⟩ := List.mem_map.mp hq
      exact off_none.mp (h y hy)
    · exact off_none.mpr (h _ (List.mem_map_of_mem hy))
theorem flips (l : List (Str × (Int × Int))) : (l.map (·.2)).map flipR = l.map fun x => flipR x.2 := by rw [List.map_map]; rfl
theorem allJ_some {ps : List (Int × Int)} {g : Int × Int} (hp : ∀ p ∈ ps, 0 < p.2) (h : allJ ps = some g) : 0 < g.2 ∧ g.2 = (ps.map (·.2)).foldl lcm1 1 ∧ 0 ≤ g.1 ∧ g.1 < g.2 ∧ ∀ x, On g x ↔ ∀ p ∈ ps, On p x := by
  obtain ⟨a, b, c, d, i⟩ := joinL_some (f := (0, 1)) (by decide) (by decide) (by decide) hp h
  refine ⟨a, b, c, d, fun x => ?_⟩
  rw [i]
  exact ⟨fun z => z.2, fun z => ⟨⟨x, by show x - 0 = 1 * x; omega⟩, z⟩⟩
/-- SOME ARE TOGETHER JUST WHERE EACH TWO ARE -/
theorem meet_none {l : List (Str × (Int × Int))} (hp : ∀ p ∈ l, RingOk p.2) : meetF (l.map (·.2)) = none ↔ firstOff l ≠ none := by
  have pos : ∀ p ∈ l.map fun x => flipR x.2, 0 < p.2 := fun p h => by
    obtain ⟨x, hx, rfl⟩ := List.mem_map.mp h
    exact (hp x hx).pos
  unfold meetF
  rw [flips]
  constructor
  · intro h z
    have h : allJ (l.map fun x => flipR x.2) = none := by simpa using h
    exact joinL_fit (f := (0, 1)) (by decide) pos (fun p _ => by
      show (Int.gcd 1 p.2 : Int) ∣ _
      rw [Int.one_gcd]
      exact Int.one_dvd _) (firstOff_none.mp z) h
  · intro h
    cases q : allJ (l.map fun x => flipR x.2) with
    | none => rfl
    | some g =>
      exfalso
      obtain ⟨_, _, _, _, i⟩ := allJ_some pos q
      have at_ := (i g.1).mp ⟨0, by omega⟩
      refine h (firstOff_none.mpr ?_)
      have sub : ∀ {ps : List (Int × Int)}, (∀ p ∈ ps, On p g.1) → ps.Pairwise Fit := fun {ps} => by
        induction ps with
        | nil => intro _; exact List.Pairwise.nil
        | cons p ps ih =>
          intro h
          refine List.pairwise_cons.mpr ⟨fun u hu => ?_, ih fun u hu => h u (List.mem_cons_of_mem _ hu)⟩
          have x1 := Int.dvd_trans (Int.gcd_dvd_left p.2 u.2) (h p List.mem_cons_self)
          have x2 := Int.dvd_trans (Int.gcd_dvd_right p.2 u.2) (h u (List.mem_cons_of_mem _ hu))
          have := Int.dvd_sub x2 x1
          show (Int.gcd p.2 u.2 : Int) ∣ p.1 - u.1
          rwa [show g.1 - u.1 - (g.1 - p.1) = p.1 - u.1 by omega] at this
      exact sub at_
theorem turn_named {S : Stg} {f : Int} (h : (folk S).Nodup) (j n p : Nat) : look ((cellsOf S f).map fun b => (b.2, b.1)) (((n + p + 1 : Nat) : Int), (f + j - n) % ((n + p + 1 : Nat) : Int)) = turnT S j n p := by
  have := look_name (f := f) h (show 0 < n + p + 1 by omega) (f + j - n)
  rw [this]
  unfold turnT back
  rw [show f - (f + (j : Int) - (n : Int)) = (n : Int) - j by omega, show n + p + 1 - 1 = n + p by omega]
theorem turn_ring {S : Stg} {f : Int} (h : (folk S).Nodup) {j n p : Nat} {x : Str} : turnT S j n p = some x ↔ (x, (((n + p + 1 : Nat) : Int), (f + j - n) % ((n + p + 1 : Nat) : Int))) ∈ cellsOf S f := by
  rw [← turn_named (f := f) h j n p, look_iff]
  · constructor
    · intro m
      obtain ⟨b, hb, e⟩ := List.mem_map.mp m
      obtain ⟨b1, b2⟩ := b
      cases e
      exact hb
    · intro m
      exact List.mem_map.mpr ⟨_, m, rfl⟩
  · rw [List.map_map]
    exact cells_nodup f h
theorem settled_it {S : Stg} (h : Good S) (hs : Settled S) : ∀ j, IsShape (it j S) (rg (total S)) := fun j => by
  induction j with
  | zero => exact hs
  | succ j ih =>
    have e : it (j + 1) S = behind (it j S) := rfl
    rw [e]
    exact shape_on (h.it j).full' ih
theorem greatest_total {S : Stg} (f : Int) (hf : Full S) (hs : Settled S) : greatestOf S f = ((rg (total S) + (if tri (rg (total S)) < total S then 1 else 0) : Nat) : Int) := by
  have R := rings_of f hf hs
  have h1 := shape_gt (rg (total S)) hf hs
  have kg := R.kg
  have g0 := greatest_nn S f
  by_cases z : tri (rg (total S)) < total S
  · obtain ⟨i, hi, hx⟩ := h1.mp z
    have := greatest_up (f := f) hx
    rw [if_pos z]
    omega
  · rw [if_neg z]
    have : ¬ (greatestOf S f).toNat = rg (total S) + 1 := fun y => by
      rcases greatest_at S f with e | ⟨n, p, hc, e⟩
      · omega
      · exact z (h1.mpr ⟨n, by omega, by rw [show rg (total S) - n = p by omega]; exact hc⟩)
    omega
/-- x is in the company of number n, j days behind -/
theorem stands_in {S : Stg} {f : Int} (h : Good S) (hs : Settled S) {j n : Nat} {x : Str} {r : Int × Int} (hr : (x, r) ∈ cellsOf S f) : (∃ c, (it j S)[n]? = some c ∧ x ∈ c) ↔ (n : Int) < r.1 ∧ On (flipR r) (f + j - n) := by
  have R := rings_of f h.full' hs
  have once : ((cellsOf S f).map (·.1)).Nodup := by rw [cells_names]; exact h.once
  have uniq : ∀ q, (x, q) ∈ cellsOf S f → q = r := fun q hq => by
    have a := (look_iff once).mpr hq
    have b := (look_iff once).mpr hr
    rw [a] at b
    exact Option.some.inj b
  obtain ⟨n0, p0, hc, hk⟩ := mem_cells.mp hr
  have r0 : 0 < r.1 := by rw [hk]; show (0 : Int) < n0 + p0 + 1; omega
  have r1 : 0 ≤ r.2 ∧ r.2 < r.1 := by rw [hk]; exact ⟨Int.emod_nonneg _ (by omega), Int.emod_lt_of_pos _ (by omega)⟩
  have up : r.1 ≤ greatestOf S f := by rw [hk]; exact greatest_up (f := f) (show (cell S n0 p0).isSome by rw [hc]; rfl)
  have g0 := greatest_nn S f
  constructor
  · rintro ⟨c, hc2, hx⟩
    obtain ⟨p, hp⟩ := List.mem_iff_getElem?.mp hx
    have cl : cell (it j S) n p = some x := cell_iff.mpr ⟨c, hc2, hp⟩
    have lt : n + p < (greatestOf S f).toNat := by
      have sh := settled_it h hs j
      have st : Settled (it j S) := by
        unfold Settled
        rw [total_it h.full' j]
        exact sh
      have e1 := greatest_total f (h.it j).full' st
      have e2 := greatest_total f h.full' hs
      rw [total_it h.full' j] at e1
      have u2 := greatest_up (f := f) (show (cell (it j S) n p).isSome by rw [cl]; rfl)
      rw [e1, ← e2] at u2
      omega
    rw [it_cell R lt] at cl
    have e := uniq _ ((turn_ring (f := f) h.once).mp cl)
    rw [← e]
    refine ⟨by show (n : Int) < ((n + p + 1 : Nat) : Int); omega, ?_⟩
    exact dvd_mod_self _ _
  · rintro ⟨lt, on⟩
    obtain ⟨s, t⟩ := r
    have lt : (n : Int) < s := lt
    have on : s ∣ f + j - n - t := on
    simp only at r0 r1 up
    obtain ⟨p, hp⟩ : ∃ p : Nat, s = ((n + p + 1 : Nat) : Int) := ⟨(s - n - 1).toNat, by omega⟩
    have et : t = (f + j - n) % s := by
      have := mod_of_dvd on
      rw [Int.emod_eq_of_lt r1.1 r1.2] at this
      exact this.symm
    rw [et, hp] at hr
    have cl := (turn_ring (f := f) h.once).mpr hr
    rw [← it_cell R (by omega)] at cl
    obtain ⟨c, h1, h2⟩ := cell_iff.mp cl
    exact ⟨c, h1, List.mem_of_getElem? h2⟩
/-- the least ring goes into all -/
theorem met_ok {rs : List (Int × Int)} {t : T3 Int Int Int} (hr : ∀ p ∈ rs, RingOk p) (ne : rs ≠ []) (h : meetF rs = some t) : 0 < t.b ∧ t.b = lcmL (rs.map (·.1)) ∧ 0 ≤ t.a ∧ t.a < t.b ∧ t.c = least (rs.map (·.1)) ∧ 0 < t.c ∧ t.c ≤ t.b ∧ t.c ≤ 500 ∧ (∀ p ∈ rs, p.1 ∣ t.b) ∧ ∀ x, t.b ∣ x - t.a ↔ ∀ p ∈ rs, On (flipR p) x := by
  have pos : ∀ p ∈ rs.map flipR, 0 < p.2 := fun p h => by
    obtain ⟨x, hx, rfl⟩ := List.mem_map.mp h
    exact (hr x hx).pos
  unfold meetF at h
  cases q : allJ (rs.map flipR) with
  | none => rw [q] at h; cases h
  | some g =>
    rw [q] at h
    cases h
    obtain ⟨a, b, c, d, i⟩ := allJ_some pos q
    obtain ⟨l1, l2⟩ := least_is (l := rs.map (·.1)) (by simpa using ne)
    obtain ⟨p, hp, ep⟩ := List.mem_map.mp l1
    have dv : ∀ p ∈ rs, p.1 ∣ g.2 := fun p hp => by
      have x1 := (i g.1).mp ⟨0, by omega⟩ _ (List.mem_map_of_mem hp)
      have x2 := (i (g.1 + g.2)).mp ⟨1, by omega⟩ _ (List.mem_map_of_mem hp)
      have := Int.dvd_sub x2 x1
      have this : p.1 ∣ g.1 + g.2 - (flipR p).1 - (g.1 - (flipR p).1) := this
      rwa [show g.1 + g.2 - (flipR p).1 - (g.1 - (flipR p).1) = g.2 by omega] at this
    have ok := hr p hp
    have k0 := ok.pos
    have k1 := ok.few
    refine ⟨a, ?_, c, d, rfl, by rw [← ep]; exact k0, by rw [← ep]; exact Int.le_of_dvd a (dv p hp), by rw [← ep]; exact k1, dv, fun x => ?_⟩
    · show g.2 = _
      rw [b, List.map_map]
      rfl
    · show On g x ↔ _
      rw [i]
      exact ⟨fun z p hp => z _ (List.mem_map_of_mem hp), fun z p hp => by
        obtain ⟨u, hu, rfl⟩ := List.mem_map.mp hp
        exact z u hu⟩
def inOne (S : Stg) (folk : List Str) : Bool := S.any fun c => decide ((folk.filter fun n => !decide (n ∈ c)) = [])
theorem inOne_iff {S : Stg} {folk : List Str} : inOne S folk = true ↔ ∃ (n : Nat) (c : List Str), S[n]? = some c ∧ ∀ x ∈ folk, x ∈ c := by
  unfold inOne
  rw [List.any_eq_true]
  constructor
  · rintro ⟨c, hc, h⟩
    obtain ⟨n, hn⟩ := List.mem_iff_getElem?.mp hc
    refine ⟨n, c, hn, fun x hx => ?_⟩
    have := List.filter_eq_nil_iff.mp (of_decide_eq_true h) x hx
    simpa using this
  · rintro ⟨n, c, hn, h⟩
    refine ⟨c, List.mem_of_getElem? hn, decide_eq_true (List.filter_eq_nil_iff.mpr fun x hx => ?_)⟩
    simpa using h x hx
/-- ON WHICH DAYS -/
theorem together_on {S : Stg} {f : Int} (h : Good S) (hs : Settled S) {l : List Str} (hf : FolkOk (cellsOf S f) l) (j : Nat) :
    inOne (it j S) l = match meetF (l.map (ringIn (cellsOf S f))) with
      | some t => decide ((f + j - t.a) % t.b < t.c)
      | none => false := by
  have mem : ∀ {x}, x ∈ l → (x, ringIn (cellsOf S f) x) ∈ cellsOf S f := fun hx => look_mem (hf.look hx).1
  have ne : l.map (ringIn (cellsOf S f)) ≠ [] := by simpa using hf.ne
  have rok : ∀ p ∈ l.map (ringIn (cellsOf S f)), RingOk p := fun p hp => by
    obtain ⟨x, hx, rfl⟩ := List.mem_map.mp hp
    exact (hf.look hx).2
  have key : inOne (it j S) l = true ↔ ∃ n : Nat, ∀ x ∈ l, (n : Int) < (ringIn (cellsOf S f) x).1 ∧ On (flipR (ringIn (cellsOf S f) x)) (f + j - n) := by
    rw [inOne_iff]
    constructor
    · rintro ⟨n, c, hc, hx⟩
      exact ⟨n, fun x m => (stands_in h hs (mem m)).mp ⟨c, hc, hx x m⟩⟩
    · rintro ⟨n, hn⟩
      obtain ⟨x, l', e⟩ := List.exists_cons_of_ne_nil hf.ne
      obtain ⟨c, hc, _⟩ := (stands_in h hs (mem (show x ∈ l by rw [e]; exact List.mem_cons_self))).mpr (hn x (by rw [e]; exact List.mem_cons_self))
      refine ⟨n, c, hc, fun y hy => ?_⟩
      obtain ⟨c', hc', hy'⟩ := (stands_in h hs (mem hy)).mpr (hn y hy)
      rw [hc] at hc'
      cases hc'
      exact hy'
  rw [Bool.eq_iff_iff, key]
  cases q : meetF (l.map (ringIn (cellsOf S f))) with
  | none =>
    simp only [Bool.false_eq_true, iff_false]
    rintro ⟨n, hn⟩
    have pos : ∀ p ∈ (l.map (ringIn (cellsOf S f))).map flipR, 0 < p.2 := fun p h => by
      obtain ⟨x, hx, rfl⟩ := List.mem_map.mp h
      exact (rok x hx).pos
    have q2 : allJ ((l.map (ringIn (cellsOf S f))).map flipR) = none := by
      unfold meetF at q
      simpa using q
    refine joinL_none (f := (0, 1)) (by decide) (by decide) (by decide) pos q2 (f + j - n) ⟨⟨f + j - n, by show f + j - n - 0 = 1 * _; omega⟩, fun p hp => ?_⟩
    obtain ⟨u, hu, rfl⟩ := List.mem_map.mp hp
    obtain ⟨x, hx, rfl⟩ := List.mem_map.mp hu
    exact (hn x hx).2
  | some t =>
    obtain ⟨b0, _, a0, a1, c1, c0, cb, _, _, i⟩ := met_ok rok ne q
    obtain ⟨l1, l2⟩ := least_is (l := (l.map (ringIn (cellsOf S f))).map (·.1)) (by simpa using hf.ne)
    rw [← c1] at l1 l2
    obtain ⟨p, hp, ep⟩ := List.mem_map.mp l1
    obtain ⟨x0, hx0, rfl⟩ := List.mem_map.mp hp
    simp only [decide_eq_true_eq]
    constructor
    · rintro ⟨n, hn⟩
      have n1 := (hn x0 hx0).1
      rw [ep] at n1
      have dv : t.b ∣ f + j - n - t.a := (i _).mpr fun p hp => by
        obtain ⟨x, hx, rfl⟩ := List.mem_map.mp hp
        exact (hn x hx).2
      have e : (f + j - t.a) % t.b = n := by
        have := mod_of_dvd (b := t.b) (x := f + j - t.a) (y := n) (by rwa [show f + (j : Int) - t.a - n = f + j - n - t.a by omega])
        rw [this, Int.emod_eq_of_lt (by omega) (by omega)]
      omega
    · intro lt
      have m0 := Int.emod_nonneg (f + j - t.a) (show t.b ≠ 0 by omega)
      obtain ⟨n, hn⟩ : ∃ n : Nat, (f + j - t.a) % t.b = (n : Int) := ⟨((f + j - t.a) % t.b).toNat, by omega⟩
      have dv := dvd_mod_self t.b (f + j - t.a)
      rw [hn] at dv lt
      rw [show f + (j : Int) - t.a - n = f + j - n - t.a by omega] at dv
      refine ⟨n, fun x hx => ⟨?_, (i _).mp dv _ (List.mem_map_of_mem hx)⟩⟩
      have := l2 _ (List.mem_map_of_mem (f := (·.1)) (List.mem_map_of_mem (f := ringIn (cellsOf S f)) hx))
      omega
end M
namespace M
open PySem G
theorem lcm_dvd_of {N : Int} : ∀ (ns : List Int) (f : Int), 0 < f → f ∣ N → (∀ n ∈ ns, 0 < n ∧ n ∣ N) → ns.foldl lcm1 f ∣ N
  | [], f, _, h, _ => h
  | n :: r, f, h0, h, hn => by
    obtain ⟨n0, n1⟩ := hn n List.mem_cons_self
    refine lcm_dvd_of r _ (lcm1_pos h0 n0) ?_ fun m hm => hn m (List.mem_cons_of_mem _ hm)
    rw [lcm1_eq h0 n0]
    obtain ⟨N', rfl | rfl⟩ := Int.eq_nat_or_neg N
    · exact Int.natCast_dvd_natCast.mpr (Int.lcm_dvd h n1)
    · exact Int.dvd_neg.mpr (Int.natCast_dvd_natCast.mpr (Int.lcm_dvd (Int.dvd_neg.mp h) (Int.dvd_neg.mp n1)))
theorem dvd_lcm_of : ∀ (ns : List Int) (f : Int), 0 < f → (∀ n ∈ ns, 0 < n) → f ∣ ns.foldl lcm1 f ∧ ∀ n ∈ ns, n ∣ ns.foldl lcm1 f
  | [], f, _, _ => ⟨Int.dvd_refl f, fun n h => by cases h⟩
  | m :: r, f, h0, hn => by
    have m0 := hn m List.mem_cons_self
    obtain ⟨a, b⟩ := dvd_lcm_of r _ (lcm1_pos h0 m0) fun n h => hn n (List.mem_cons_of_mem _ h)
    rw [lcm1_eq h0 m0] at a
    refine ⟨?_, fun n h => ?_⟩
    · rw [List.foldl_cons, lcm1_eq h0 m0] at *
      exact Int.dvd_trans (Int.dvd_lcm_left f m) a
    · rcases List.mem_cons.mp h with rfl | h
      · rw [List.foldl_cons, lcm1_eq h0 m0] at *
        exact Int.dvd_trans (Int.dvd_lcm_right f n) a
      · exact b n h
def belowF (t : T3 Int Int Int) (day : Int) : Int := (day - t.a) / t.b * t.c + min ((day - t.a) % t.b) t.c
def areT (c : Crs) (l : List Str) (day : Int) : Bool := ((c.rows.getD day.toNat []).map fun r => (l.map fun n => decide (n ∈ r)).all id).any id
def earlyF (c : Crs) (l : List Str) (b e : Int) : List Int := (rng b (min e c.begin_ - b).toNat).filter fun d => areT c l d
def manyF (c : Crs) (l : List Str) (b e : Int) : Int := match meetF (l.map (ringIn c.ringBy.l)) with
  | none => ((earlyF c l b e).length : Int)
  | some t => if e ≤ max b c.begin_ then ((earlyF c l b e).length : Int) else ((earlyF c l b e).length : Int) + belowF t e - belowF t (max b c.begin_)
/-- the settled day is told by rows -/
structure CrsB (c : Crs) : Prop where
  ok : CrsOk c
  b0 : 0 ≤ c.begin_
  b1 : c.begin_ < c.rows.length
  few : c.begin_ ≤ 1000000
end M
namespace P
open PySem PySem.Spec PyProof.Rows L2 G L M
open Rp (rp)
section
variable {P : Program} {w : World} {K : PySem.W.Frag} {mg : Str → Option Value} {base : Heap}
end
end P
namespace M
open PySem G SrtT
abbrev Ring := List (Option Str)
def turnAt (one other : Ring) (d : Int) : Bool := ((rng 0 one.length).map fun r => decide (other.getD r.toNat none = one.getD ((r + d) % (one.length : Int)).toNat none)).all id
end M
namespace P
open PySem PySem.Spec PyProof.Rows L2 G L M SrtT
open Rp (rp)
section
variable {P : Program} {w : World} {K : PySem.W.Frag} {mg : Str → Option Value} {base : Heap}
end
end P
namespace L
open PySem PySem.Spec PyProof.Rows L2 G M P
section
variable {P : Program} {w : World} {K : PySem.W.Frag} {mg : Str → Option Value} {base : Heap}
def r_lbehind : DE → Stg → DE → Prop := fun Γ x Γ' => ∃ S : Stg, Good S ∧ Γ = [.is S] ∧ x = behind S ∧ Γ' = Γ
theorem can_lbehind (T : Txt K mg) : Can P w K mg base CX0 1 "_law_behind" ps__law_behind [] (spM K (nw (List Str)) 1 r_lbehind) := by
  refine canD T.d__law_behind sc__law_behind b__law_behind fun cdv A outer s0 H E Γ x Γ' hr hR => ?_
  obtain ⟨S, hS, rfl, rfl, rfl⟩ := hR
  have nd := sc__law_behind.nd
  have hu : A.units + 3 + 64 < cLine := hr.units
  have hl := hS.len
  refine sd_setO 1 (px_lst (α := Str) lx_nil) (fun a1 => ?_) nd
  refine sd_setO 2 (px_lst (α := List Str) lx_nil) (fun a2 => ?_) nd
  refine sd_for (ts := [3]) (N := fun Γ' => Γ' = ([.is S, .own a1 (S.map fun c => c.getD 0 Str.empty), .own a2 ((S.filter fun c => decide (1 < c.length)).map List.tail), .no] : DE)) (it_list (px_var 0))
    (fun i Γ' => Γ' = ([.is S, .own a1 ((S.take i).map fun c => c.getD 0 Str.empty), .own a2 (((S.take i).filter fun c => decide (1 < c.length)).map List.tail), .no] : DE)) rfl (fun i c Γ' hc e => ?_) (fun Γ' e => by rw [e, List.take_length]) (fun Γ' e => ?_)
  · subst e
    have hm := List.mem_of_getElem? hc
    have hi := (List.getElem?_eq_some_iff.mp hc).1
    have hp := List.length_pos_iff.mpr (hS.full c hm)
    refine ⟨_, gx_name 3 nd, ?_⟩
    have e1 : S.take (i + 1) = S.take i ++ [c] := by rw [List.take_add_one, hc]; rfl
    have hz1 : ((S.take i).map fun c => c.getD 0 Str.empty).length < sizeLine := by rw [List.length_map, List.length_take, sizeLine_eq]; omega
    have hz2 : (((S.take i).filter fun c => decide (1 < c.length)).map List.tail).length < sizeLine := by
      have := List.length_filter_le (fun c : List Str => decide (1 < c.length)) (S.take i)
      rw [List.length_take] at this
      rw [List.length_map, sizeLine_eq]; omega
    refine sd_append 1 (px_ix (px_var 3) px_int (atI_int (k := 0) (d := Str.empty) (by decide) (by omega))) rfl hz1 ?_
    refine sd_if (tx_cmp cr_gt (px_len T.n_len (px_var 3).br) px_int) (fun h => ?_) (fun h => ?_)
    · have h : (1 : Int) < (c.length : Int) := of_decide_eq_true h
      refine sd_append 2 (px_frz (px_slice (px_var 3) (ox_some px_int) ox_none)) rfl hz2 (sd_nil (sd_nil ⟨_, ?_, rfl⟩))
      rw [e1, List.filter_append, List.map_append, List.map_append, List.filter_cons, if_pos (by simpa using (show 1 < c.length by omega)), show cutL c (some (1 : Int)) none = c.tail from (cutL_from (k := 1)).trans List.drop_one]
      exact .same (.same (.same (.no .nil)))
    · have h : ¬ (1 : Int) < (c.length : Int) := of_decide_eq_false h
      refine sd_nil (sd_nil ⟨_, ?_, rfl⟩)
      rw [e1, List.filter_append, List.map_append, List.map_append, List.filter_cons, if_neg (by simpa using (show ¬ 1 < c.length by omega)), List.filter_nil, List.map_nil, List.append_nil]
      exact .same (.same (.same (.no .nil)))
  · subst e
    rw [behind_full hS.full]
    have fine : ∀ z ∈ (S.map fun c => c.getD 0 Str.empty), De.good z := fun z hz => by
      obtain ⟨c, hc, rfl⟩ := List.mem_map.mp hz
      have hp := List.length_pos_iff.mpr (hS.full c hc)
      rw [List.getD_eq_getElem?_getD, List.getElem?_eq_getElem hp]
      exact (hS.fine hc _ (List.getElem_mem hp)).2
    refine sd_if (tx_eqNil hu (px_ownB 1) fine) (fun h => ?_) (fun h => sd_nil ?_)
    · have h := of_decide_eq_true h
      exact sd_ret (px_lst lx_nil) ⟨by rw [if_pos h], .is .nil⟩
    · have h := of_decide_eq_false h
      refine sd_ret (px_cat (px_frz (px_lst (lx_cons (px_take 1) lx_nil))) (px_take 2) ?_) ⟨by rw [if_neg h]; rfl, .is .nil⟩
      have := List.length_filter_le (fun c : List Str => decide (1 < c.length)) S
      rw [List.length_map, sizeLine_eq]
      simp only [List.length_cons, List.length_nil]
      omega
def r_lshape : DE → Bool → DE → Prop := fun Γ x Γ' => ∃ S : Stg, Good S ∧ Γ = [.is S] ∧ x = lawShape S ∧ Γ' = Γ
theorem can_lshape (T : Txt K mg) : Can P w K mg base CX0 1 "_law_shape" ps__law_shape [] (spM K (sh Bool) 1 r_lshape) := by
  refine canD T.d__law_shape sc__law_shape b__law_shape fun cdv A outer s0 H E Γ x Γ' hr hR => ?_
  obtain ⟨S, hS, rfl, rfl, rfl⟩ := hR
  have nd := sc__law_shape.nd
  have hu : A.units + 3 + 64 < cLine := hr.units
  have hl := hS.len
  have hf := hS.few
  rw [folk_total] at hf
  have hz : S.length < sizeLine := by rw [sizeLine_eq]; omega
  refine sd_set 1 (px_sum T.n_sum (PX.nb (px_lc (own := [("_law_company", 4)]) [4] (it_list (px_var 0)) nd hz (f := fun c : List Str => (c.length : Int)) (Γt := fun c => ([.is S, .no, .no, .no, .is c, .no, .no] : DE)) (fun c hc s H0 C cl fp => gx_name 4 nd) fun c hc s1 H0 C cl fp => px_len T.n_len (px_var 4).br))) ?_ nd
  rw [sum_lens]
  generalize hn : total S = n at hf
  refine sd_set 2 px_int ?_ nd
  have e : ∀ k : Nat, ((k : Int) + 1) * ((k : Int) + 2) / 2 = (tri (k + 1) : Int) := fun k => by
    have := tri_int (k + 1)
    rw [← this]
    congr 1
  refine sd_while (N := fun Γ' => Γ' = ([.is S, .is (n : Int), .is (rg n : Int), .no, .no, .no, .no] : DE)) (fun k : Nat => ([.is S, .is (n : Int), .is (k : Int), .no, .no, .no, .no] : DE)) (fun k => tri k ≤ n) (fun k => n - k) (fun k => decide (((k : Int) + 1) * ((k : Int) + 2) / 2 ≤ (n : Int))) 0 (Nat.zero_le _) Wk.refl
    (fun k hk => tx_cmp cr_le (px_div (px_mulL (px_add (px_var 2) px_int) (px_add (px_var 2) px_int) ?_) px_int (div_ok (by decide) (by decide))) (px_var 1)) (fun k hk hb => ?_) (fun k hk hb => ?_) (fun Γ' e => ?_)
  · have := tri_ge k
    exact ⟨by omega, by omega⟩
  · rw [e] at hb
    have hb : (tri (k + 1) : Int) ≤ n := of_decide_eq_true hb
    have := tri_ge (k + 1)
    refine sd_set 2 (px_add (px_var 2) px_int) (sd_nil ⟨k + 1, by omega, by omega, ?_⟩) nd
    exact .same (.same (.same (.same (.same (.same (.same .nil))))))
  · rw [e] at hb
    have hb : ¬ (tri (k + 1) : Int) ≤ n := of_decide_eq_false hb
    rw [rg_eq ⟨hk, by omega⟩]
  · subst e
    unfold lawShape
    rw [hn]
    refine sd_setLcG 3 (lcx (own := [("_law_company", 4)]) [4] (it_list (px_var 0)) nd hz (f := fun c : List Str => (c.length : Int)) (Γt := fun c => ([.is S, .is (n : Int), .is (rg n : Int), .no, .is c, .no, .no] : DE)) (fun c hc s H0 C cl fp => gx_name 4 nd) fun c hc s1 H0 C cl fp => px_len T.n_len (px_var 4).br) ?_
    refine sd_if (WX.tx (wx_or (tx_cmp cr_lt (px_len T.n_len (px_var (x := S.map fun c => (c.length : Int)) 3).br) (px_var 2)) fun _ => wx_or1 (tx_cmp cr_gt (px_len T.n_len (px_var (x := S.map fun c => (c.length : Int)) 3).br) (px_add (px_var 2) px_int)))) (fun h => ?_) (fun h => sd_nil ?_)
    · rw [List.length_map] at h
      exact sd_ret px_bl ⟨by rw [if_pos h], .is .nil⟩
    · rw [List.length_map] at h
      refine sd_ret (px_cmp (cr_eqD hu (fun _ _ => trivial) (fun _ _ => trivial)) (px_frz (px_lcIf (own := [("_law_n", 5), ("_law_size", 6)]) [5, 6] (it_enum T.n_enumerate (px_var (x := S.map fun c => (c.length : Int)) 3)) nd (by rw [enum_len, List.length_map]; exact hz) (f := fun y : Int × Int => y.2) (k := fun y => !decide (y.2 - ((rg n : Int) - y.1) ∈ ([0, 1] : List Int))) (Γt := fun y => ([.is S, .is (n : Int), .is (rg n : Int), .is (S.map fun c => (c.length : Int)), .no, .is y.1, .is y.2] : DE))
        (fun y hy s H0 C cl fp => gx_t2 (gx_name 5 nd) (gx_name 6 nd)) (fun y hy s1 H0 C cl fp => tx_cmp cr_notInT (px_sub (px_var 6) (px_sub (px_var 2) (px_var 5))) (px_tup (lx_cons px_int (lx_cons px_int lx_nil)))) fun y hy hk s1 H0 C cl fp => px_var 6)) (px_frz (px_lst lx_nil))) ⟨by rw [if_neg (by rw [h]; exact Bool.false_ne_true)], .is .nil⟩
def r_lwalk : DE → List Stg → DE → Prop := fun Γ x Γ' => ∃ S : Stg, Good S ∧ Γ = [.is S] ∧ x = rowsN S (firstDay S + 1) ∧ Γ' = Γ
theorem can_lsettled_walk (T : Txt K mg) : Can P w K mg base CX0 2 "_law_settled_walk" ps__law_settled_walk [] (spM K (sh (List Stg)) 1 r_lwalk) := by
  refine canD T.d__law_settled_walk sc__law_settled_walk b__law_settled_walk fun cdv A outer s0 H E Γ x Γ' hr hR => ?_
  obtain ⟨S, hS, rfl, rfl, rfl⟩ := hR
  have nd := sc__law_settled_walk.nd
  obtain ⟨hf1, hf2⟩ := firstDay_is hS
  have hf3 := firstDay_le hS
  generalize firstDay S = f at *
  refine sd_setO 1 (px_lst (xs := [S]) (lx_cons (px_var 0) lx_nil)) (fun ad => ?_) nd
  have last : ∀ i, L2.atI (rowsN S (i + 1)) (-1) = some (it i S) := fun i => rowsN_end
  refine sd_while (N := fun Γ' => Γ' = ([.is S, .own ad (rowsN S (f + 1))] : DE)) (fun i : Nat => ([.is S, .own ad (rowsN S (i + 1))] : DE)) (fun i => i ≤ f) (fun i => f - i) (fun i => !lawShape (it i S)) 0 (Nat.zero_le _) Wk.refl
    (fun i hi => tx_not (tx_val (px_c ((can_lshape T).mono (by decide)) hr (ax_cons (px_ixO 1 (px_neg px_int) rfl rfl (last i)) ax_nil) ⟨_, hS.it i, rfl, rfl, rfl⟩ defOk_nil))) (fun i hi hb => ?_) (fun i hi hb => ?_) (fun Γ' e => ?_)
  · have hlt : i < f := by
      refine Nat.lt_of_le_of_ne hi fun z => ?_
      subst z
      rw [(lawShape_iff (hS.it i).full').mpr hf1] at hb
      cases hb
    refine sd_append 1 (px_frz (px_c ((can_lbehind T).mono (by decide)) hr (ax_cons (px_ixO 1 (px_neg px_int) rfl rfl (last i)) ax_nil) ⟨_, hS.it i, rfl, rfl, rfl⟩ defOk_nil)) rfl (by rw [rowsN_len, sizeLine_eq]; omega) (sd_nil ⟨i + 1, by omega, by omega, ?_⟩)
    rw [rowsN_succ (i := i + 1)]
    exact Wk.refl
  · have h1 : lawShape (it i S) = true := by simpa using hb
    have h2 := (lawShape_iff (hS.it i).full').mp h1
    have : ¬ i < f := fun z => hf2 _ z h2
    have e : i = f := by omega
    subst e
    rfl
  · subst e
    exact sd_ret (px_take 1) ⟨rfl, .is .nil⟩
end
end L
namespace L
open PySem PySem.Spec PyProof.Rows L2 G M P
section
variable {P : Program} {w : World} {K : PySem.W.Frag} {mg : Str → Option Value} {base : Heap}
def r_lrings : DE → Dk Str (Int × Int) → DE → Prop := fun Γ x Γ' => ∃ (S : Stg) (f : Int), Good S ∧ Γ = [.is S, .is f] ∧ x = ⟨cellsOf S f⟩ ∧ Γ' = Γ
/-- a dict from names to ring and remainder -/
theorem can_lrings (T : Txt K mg) : Can P w K mg base CX0 1 "_law_rings" ps__law_rings [] (spM K (sh (Dk Str (Int × Int))) 2 r_lrings) := by
  refine canD T.d__law_rings sc__law_rings b__law_rings fun cdv A outer s H E Γ x Γ' hr hR => ?_
  obtain ⟨S, f, hG, rfl, rfl, rfl⟩ := hR
  have nd := sc__law_rings.nd
  have hu : A.units + 3 + 64 < cLine := hr.units
  have hl := hG.len
  refine sd_setR 2 (px_dkR (κ := Str) (α := Int × Int)) (fun r ⟨a2, e⟩ => ?_) nd
  subst e
  refine sd_for (ts := [3, 4]) (N := fun Γ' => Γ' = ([.is S, .is f, .res (.dk a2 (cellsOf S f)), .no, .no, .no, .no] : DE)) (it_enum T.n_enumerate (px_var 0))
    (fun i Γ' => (((enum S).take i).foldl (foI f) []).length ≤ 450 * i ∧ Γ' = ([.is S, .is f, .res (.dk a2 (((enum S).take i).foldl (foI f) [])), .no, .no, .no, .no] : DE)) ⟨by simp, rfl⟩ (fun i y Γ' hy ⟨hb, e⟩ => ?_) (fun Γ' z => z.2.trans ?_) (fun Γ' e => ?_)
  · subst e
    obtain ⟨y1, y2⟩ := enum_get hy
    have hcl := comp_len hG (List.mem_of_getElem? y2)
    have hi : i < 450 := by
      have := (List.getElem?_eq_some_iff.mp y2).1
      omega
    have e1 : ((enum S).take (i + 1)).foldl (foI f) [] = foI f (((enum S).take i).foldl (foI f) []) y := by rw [List.take_add_one, hy, List.foldl_append]; rfl
    have hlen : (foI f (((enum S).take i).foldl (foI f) []) y).length ≤ 450 * (i + 1) := by
      have := foldl_puts (fun z : Int × Str => z.2) (fun z => (y.1 + z.1 + 1, (f - y.1) % (y.1 + z.1 + 1))) (enum y.2) (((enum S).take i).foldl (foI f) [])
      rw [enum_len] at this
      have this : (foI f (((enum S).take i).foldl (foI f) []) y).length ≤ (((enum S).take i).foldl (foI f) []).length + y.2.length := this
      omega
    have hb : (((enum S).take i).foldl (foI f) []).length ≤ 450 * i := hb
    generalize ((enum S).take i).foldl (foI f) [] = acc at *
    refine ⟨_, gx_t2 (gx_name 3 nd) (gx_name 4 nd), ?_⟩
    refine sd_for (ts := [5, 6]) (N := fun Γ' => Γ' = ([.is S, .is f, .res (.dk a2 (foI f acc y)), .is y.1, .is y.2, .no, .no] : DE)) (it_enum T.n_enumerate (px_var 4))
      (fun j Γ' => (((enum y.2).take j).foldl (fun acc z => put acc z.2 (y.1 + z.1 + 1, (f - y.1) % (y.1 + z.1 + 1))) acc).length ≤ 450 * i + j ∧ Γ' = ([.is S, .is f, .res (.dk a2 (((enum y.2).take j).foldl (fun acc z => put acc z.2 (y.1 + z.1 + 1, (f - y.1) % (y.1 + z.1 + 1))) acc)), .is y.1, .is y.2, .no, .no] : DE)) ⟨by simpa using hb, rfl⟩ (fun j z Γ' hz ⟨hb2, e⟩ => ?_) (fun Γ' z => z.2.trans (by rw [List.take_length]; rfl)) (fun Γ' e => ?_)
    · subst e
      obtain ⟨z1, z2⟩ := enum_get hz
      have hj : j < 450 := by
        have := (List.getElem?_eq_some_iff.mp z2).1
        omega
      have e2 : ((enum y.2).take (j + 1)).foldl (fun acc z => put acc z.2 (y.1 + z.1 + 1, (f - y.1) % (y.1 + z.1 + 1))) acc = put (((enum y.2).take j).foldl (fun acc z => put acc z.2 (y.1 + z.1 + 1, (f - y.1) % (y.1 + z.1 + 1))) acc) z.2 (y.1 + z.1 + 1, (f - y.1) % (y.1 + z.1 + 1)) := by rw [List.take_add_one, hz, List.foldl_append]; rfl
      refine ⟨_, gx_t2 (gx_name 5 nd) (gx_name 6 nd), ?_⟩
      have hb2 : (((enum y.2).take j).foldl (fun acc z => put acc z.2 (y.1 + z.1 + 1, (f - y.1) % (y.1 + z.1 + 1))) acc).length ≤ 450 * i + j := hb2
      have hzz : (((enum y.2).take j).foldl (fun acc z => put acc z.2 (y.1 + z.1 + 1, (f - y.1) % (y.1 + z.1 + 1))) acc).length < sizeLine := by
        rw [sizeLine_eq]; omega
      refine sd_put 2 (show A.units + 3 + 1 < cLine by omega) (px_t2 (px_add (px_add (px_var 3) (px_var 5)) px_int) (px_mod (px_sub (px_var 1) (px_var 3)) (px_add (px_add (px_var 3) (px_var 5)) px_int) (by omega))) (px_var 6) rfl hzz (sd_nil ⟨_, ?_, ?_, rfl⟩)
      · rw [e2]
        exact .same (.same (.same (.same (.same (.no (.no .nil))))))
      · have := put_len (xs := ((enum y.2).take j).foldl (fun acc z => put acc z.2 (y.1 + z.1 + 1, (f - y.1) % (y.1 + z.1 + 1))) acc) (k := z.2) (y := (y.1 + z.1 + 1, (f - y.1) % (y.1 + z.1 + 1)))
        rw [e2]
        omega
    · subst e
      refine sd_nil ⟨_, ?_, by rw [e1]; exact hlen, rfl⟩
      rw [e1]
      exact .same (.same (.same (.no (.no (.same (.same .nil))))))
  · rw [List.take_length, ← ringBy_eq (S := S) f hG.once]
    rfl
  · subst e
    exact sd_ret (px_giveD 2 (px_var 2)) ⟨rfl, .is (.is .nil)⟩
end
end L
namespace M
open PySem G SrtT
/-- all days of a course -/
structure OnAll (c : Crs) (S : Stg) (f : Int) : Prop where
  ok : CrsB c
  good : Good S
  set_ : Settled S
  f0 : 0 ≤ f
  begin_ : c.begin_ = f
  rings : c.ringBy.l = cellsOf S f
  on : ∀ j : Nat, standingOn c (f + j) = it j S
theorem on_all {S : Stg} (h : Good S) : OnAll (mkCrs S (firstDay S)) (it (firstDay S) S) (firstDay S : Int) := by
  have hs := (firstDay_is h).1
  refine ⟨⟨crs_ok _ h, ?_, ?_, ?_⟩, h.it _, hs, by omega, rfl, rfl, fun j => ?_⟩
  · show (0 : Int) ≤ (firstDay S : Int); omega
  · show (firstDay S : Int) < ((List.range (firstDay S + 1)).map fun d => it d S).length
    rw [List.length_map, List.length_range]; omega
  · have := firstDay_le h
    show (firstDay S : Int) ≤ 1000000; omega
  · have := standing_at h hs (firstDay S + j)
    rw [show ((firstDay S + j : Nat) : Int) = (firstDay S : Int) + j by omega, it_add] at this
    exact this
theorem rng_up (lo : Int) (n : Nat) : (rng lo n).Pairwise (· < ·) := by
  unfold rng
  rw [List.pairwise_map]
  exact List.pairwise_lt_range.imp fun {a b} h => by omega
end M
namespace L
open PySem PySem.Spec PyProof.Rows L2 G M P SrtT
open Rp (rp)
section
variable {P : Program} {w : World} {K : PySem.W.Frag} {mg : Str → Option Value} {base : Heap}
end
end L
namespace M
open PySem G SrtT
/-- a course as it was made, with all its rings -/
structure Made (c : Crs) (S : Stg) (f : Int) : Prop extends OnAll c S f where
  name : c.nameBy.l = (cellsOf S f).map fun b => (b.2, b.1)
  great : c.greatest = greatestOf S f
  far : ∀ j : Nat, farOn c (f + j) = it j S
theorem made {S : Stg} (h : Good S) : Made (mkCrs S (firstDay S)) (it (firstDay S) S) (firstDay S : Int) := by
  refine ⟨on_all h, rfl, rfl, fun j => ?_⟩
  rw [farOn_at h (firstDay_is h).1 j, it_add]
theorem Made.look {c : Crs} {S : Stg} {f : Int} (m : Made c S f) {L r : Int} {x : Str} : G.look c.nameBy.l (L, r) = some x ↔ (x, (L, r)) ∈ cellsOf S f := by
  rw [m.name, look_iff]
  · constructor
    · intro h
      obtain ⟨⟨b1, b2⟩, hb, e⟩ := List.mem_map.mp h
      cases e
      exact hb
    · intro h
      exact List.mem_map.mpr ⟨_, h, rfl⟩
  · rw [List.map_map]
    exact cells_nodup f m.good.once
theorem cells_once {S : Stg} {f : Int} (h : Good S) {x : Str} {k k' : Int × Int} (h1 : (x, k) ∈ cellsOf S f) (h2 : (x, k') ∈ cellsOf S f) : k = k' := by
  have once : ((cellsOf S f).map (·.1)).Nodup := by rw [cells_names]; exact h.once
  have a := (look_iff once).mpr h1
  have b := (look_iff once).mpr h2
  rw [a] at b
  exact Option.some.inj b
/-- who begins the walk round ring L on a day -/
theorem first_on {S : Stg} {f : Int} (h : Good S) (hs : Settled S) {L j : Nat} (h1 : 1 ≤ L) (h2 : (L : Int) ≤ greatestOf S f) {x : Str} : (x, ((L : Int), (f + j) % (L : Int))) ∈ cellsOf S f ↔ cell (it j S) 0 (L - 1) = some x := by
  have R := rings_of f h.full' hs
  rw [it_cell R (by omega)]
  have := turn_ring (f := f) h.once (j := j) (n := 0) (p := L - 1) (x := x)
  rw [this, show ((0 + (L - 1) + 1 : Nat) : Int) = (L : Int) by omega, show f + (j : Int) - ((0 : Nat) : Int) = f + j by omega]
/-- the second one is D days later -/
structure Later (c1 c2 : Crs) (S1 S2 : Stg) (f1 f2 D : Int) : Prop where
  m1 : Made c1 S1 f1
  m2 : Made c2 S2 f2
  tot : total S1 = total S2
  sh : ∃ N : Nat, ∀ j1 j2 : Nat, N ≤ j1 → N ≤ j2 → f1 + j1 = D + f2 + j2 → it j1 S1 = it j2 S2
theorem Later.great {c1 c2 : Crs} {S1 S2 : Stg} {f1 f2 D : Int} (l : Later c1 c2 S1 S2 f1 f2 D) : greatestOf S1 f1 = greatestOf S2 f2 := by
  rw [greatest_total f1 l.m1.good.full' l.m1.set_, greatest_total f2 l.m2.good.full' l.m2.set_, l.tot]
theorem Later.cells {c1 c2 : Crs} {S1 S2 : Stg} {f1 f2 D : Int} (l : Later c1 c2 S1 S2 f1 f2 D) {L : Nat} (h1 : 1 ≤ L) (h2 : (L : Int) ≤ greatestOf S1 f1) (r : Int) {x : Str} : (x, ((L : Int), r % (L : Int))) ∈ cellsOf S2 f2 ↔ (x, ((L : Int), (r + D) % (L : Int))) ∈ cellsOf S1 f1 := by
  have L0 : (0 : Int) < L := by omega
  have a0 := Int.emod_nonneg (r - f2) (show (L : Int) ≠ 0 by omega)
  obtain ⟨N0, sh⟩ := l.sh
  obtain ⟨N, hN, hN0⟩ : ∃ N : Nat, f1 - D - f2 + N0 ≤ N ∧ N0 ≤ N := ⟨(f1 - D - f2).toNat + N0, by omega, by omega⟩
  obtain ⟨j2, hj2⟩ : ∃ j2 : Nat, (j2 : Int) = N * (L : Int) + (r - f2) % L := by
    have : (0 : Int) ≤ (N : Int) * L := Int.mul_nonneg (by omega) (by omega)
    exact ⟨(N * (L : Int) + (r - f2) % L).toNat, by omega⟩
  have big : (N : Int) ≤ N * L := by
    have := Int.mul_le_mul_of_nonneg_left (show (1 : Int) ≤ L by omega) (show (0 : Int) ≤ N by omega)
    omega
  obtain ⟨j1, hj1⟩ : ∃ j1 : Nat, f1 + (j1 : Int) = D + f2 + j2 := ⟨(D + f2 + j2 - f1).toNat, by omega⟩
  have e2 : (f2 + j2) % (L : Int) = r % L := by
    refine mod_of_dvd ?_
    obtain ⟨k, hk⟩ := dvd_mod_self (L : Int) (r - f2)
    exact ⟨N - k, by grind⟩
  have e1 : (f1 + j1) % (L : Int) = (r + D) % L := by
    refine mod_of_dvd ?_
    obtain ⟨k, hk⟩ := dvd_of_mod e2
    exact ⟨k, by omega⟩
  rw [← e2, ← e1, first_on l.m2.good l.m2.set_ h1 (by rw [← l.great]; exact h2), first_on l.m1.good l.m1.set_ h1 h2, sh j1 j2 (by omega) (by omega) hj1]
theorem Later.look {c1 c2 : Crs} {S1 S2 : Stg} {f1 f2 D : Int} (l : Later c1 c2 S1 S2 f1 f2 D) {L : Nat} (h1 : 1 ≤ L) (h2 : (L : Int) ≤ greatestOf S1 f1) {r : Int} (r0 : 0 ≤ r) (r1 : r < L) : look c2.nameBy.l ((L : Int), r) = look c1.nameBy.l ((L : Int), (r + D) % (L : Int)) := by
  have k : ∀ x, G.look c2.nameBy.l ((L : Int), r) = some x ↔ G.look c1.nameBy.l ((L : Int), (r + D) % (L : Int)) = some x := fun x => by
    rw [l.m2.look, l.m1.look, ← l.cells h1 h2 r, Int.emod_eq_of_lt r0 r1]
  cases q : G.look c2.nameBy.l ((L : Int), r) with
  | some x => exact ((k x).mp q).symm
  | none =>
    cases q2 : G.look c1.nameBy.l ((L : Int), (r + D) % (L : Int)) with
    | none => rfl
    | some x =>
      have := (k x).mpr q2
      rw [q] at this
      cases this
def ringAt (c : Crs) (L : Int) : Ring := (rng 0 L.toNat).map fun r => look c.nameBy.l (L, r)
theorem ringAt_len (c : Crs) (L : Nat) : (ringAt c (L : Int)).length = L := by unfold ringAt; rw [List.length_map, rng_len]; simp
theorem ringAt_get (c : Crs) {L : Nat} {r : Int} (r0 : 0 ≤ r) (r1 : r < L) : (ringAt c (L : Int)).getD r.toNat none = look c.nameBy.l ((L : Int), r) := by
  unfold ringAt rng
  rw [List.getD_eq_getElem?_getD, List.map_map, List.getElem?_map, List.getElem?_range (by omega)]
  show look c.nameBy.l ((L : Int), 0 + ((r.toNat : Nat) : Int)) = _
  rw [show (0 : Int) + ((r.toNat : Nat) : Int) = r by omega]
theorem turnAt_iff {c1 c2 : Crs} {L : Nat} (L0 : 1 ≤ L) (d : Int) : turnAt (ringAt c1 (L : Int)) (ringAt c2 (L : Int)) d = true ↔ ∀ r : Int, 0 ≤ r → r < L → look c2.nameBy.l ((L : Int), r) = look c1.nameBy.l ((L : Int), (r + d) % (L : Int)) := by
  unfold turnAt
  rw [ringAt_len, List.all_map, List.all_eq_true]
  constructor
  · intro h r r0 r1
    have hr : r ∈ rng 0 L := by
      unfold rng
      exact List.mem_map.mpr ⟨r.toNat, List.mem_range.mpr (by omega), by omega⟩
    have := of_decide_eq_true (h r hr)
    rw [ringAt_get _ r0 r1, ringAt_get _ (Int.emod_nonneg _ (by omega)) (Int.emod_lt_of_pos _ (by omega))] at this
    exact this
  · intro h r hr
    have hr2 := rng_mem hr
    refine decide_eq_true ?_
    rw [ringAt_get _ hr2.1 (by omega), ringAt_get _ (Int.emod_nonneg _ (by omega)) (Int.emod_lt_of_pos _ (by omega))]
    exact h r hr2.1 (by omega)
theorem Made.some_on {c : Crs} {S : Stg} {f : Int} (m : Made c S f) {L : Nat} (h1 : 1 ≤ L) (h2 : (L : Int) ≤ greatestOf S f) : ∃ x r, 0 ≤ r ∧ r < (L : Int) ∧ (x, ((L : Int), r)) ∈ cellsOf S f := by
  obtain ⟨n, p, x, e, hc⟩ := (rings_some f m.set_).ex L h1 (by have := greatest_nn S f; omega)
  refine ⟨x, (f - n) % (L : Int), Int.emod_nonneg _ (by omega), Int.emod_lt_of_pos _ (by omega), mem_cells.mpr ⟨n, p, hc, ?_⟩⟩
  rw [show (n : Int) + p + 1 = (L : Int) by omega]
theorem Later.turn {c1 c2 : Crs} {S1 S2 : Stg} {f1 f2 D : Int} (l : Later c1 c2 S1 S2 f1 f2 D) {L : Nat} (h1 : 1 ≤ L) (h2 : (L : Int) ≤ greatestOf S1 f1) {d : Int} (d0 : 0 ≤ d) (d1 : d < L) : turnAt (ringAt c1 (L : Int)) (ringAt c2 (L : Int)) d = true ↔ d = D % (L : Int) := by
  rw [turnAt_iff h1]
  constructor
  · intro h
    obtain ⟨x, r1, r10, r11, hx⟩ := l.m1.some_on h1 h2
    have r0 := Int.emod_nonneg (r1 - D) (show (L : Int) ≠ 0 by omega)
    have r2 := Int.emod_lt_of_pos (r1 - D) (show (0 : Int) < L by omega)
    have a := h _ r0 r2
    have e : ((r1 - D) % (L : Int) + D) % (L : Int) = r1 := by
      have : ((r1 - D) % (L : Int) + D) % (L : Int) = r1 % L := by
        refine mod_of_dvd ?_
        obtain ⟨k, hk⟩ := dvd_mod_self (L : Int) (r1 - D)
        exact ⟨-k, by grind⟩
      rw [this, Int.emod_eq_of_lt r10 r11]
    rw [l.look h1 h2 r0 r2, e, l.m1.look.mpr hx] at a
    have b := l.m1.look.mp a.symm
    have := cells_once l.m1.good hx b
    have e3 : r1 = ((r1 - D) % (L : Int) + d) % (L : Int) := congrArg Prod.snd this
    rw [← e] at e3
    have := Int.emod_add_cancel_right (m := D) (n := (L : Int)) (k := d) ((r1 - D) % (L : Int))
    rw [Int.add_comm D, Int.add_comm d] at this
    have h3 := this.mp (by
      rw [e] at e3
      rw [e]
      exact e3)
    rw [Int.emod_eq_of_lt d0 d1] at h3
    exact h3.symm
  · intro h r r0 r1
    rw [l.look h1 h2 r0 r1, h]
    congr 2
    refine mod_of_dvd ?_
    obtain ⟨k, hk⟩ := dvd_mod_self (L : Int) D
    exact ⟨k, by omega⟩
theorem Later.perm {c1 c2 : Crs} {S1 S2 : Stg} {f1 f2 D : Int} (l : Later c1 c2 S1 S2 f1 f2 D) : (folk S1).Perm (folk S2) := by
  obtain ⟨N, sh⟩ := l.sh
  obtain ⟨j2, hj2, hj3⟩ : ∃ j2 : Nat, f1 - D - f2 + N ≤ j2 ∧ N ≤ j2 := ⟨(f1 - D - f2).toNat + N, by omega, by omega⟩
  obtain ⟨j1, hj1⟩ : ∃ j1 : Nat, f1 + (j1 : Int) = D + f2 + j2 := ⟨(D + f2 + j2 - f1).toNat, by omega⟩
  have e := sh j1 j2 (by omega) hj3 hj1
  have a := folk_it l.m1.good.full' j1
  have b := folk_it l.m2.good.full' j2
  rw [e] at a
  exact a.symm.trans b
theorem Made.names {c : Crs} {S : Stg} {f : Int} (m : Made c S f) : ∀ p ∈ c.ringBy.l, isName p.1 = true := fun p hp => by
  rw [m.rings] at hp
  have : p.1 ∈ (cellsOf S f).map (·.1) := List.mem_map_of_mem hp
  rw [cells_names] at this
  obtain ⟨c, h1, h2⟩ := folk_mem.mp this
  exact m.good.names c h1 _ h2
end M
namespace M
open PySem G SrtT P
/-- the rings of those who stand there -/
theorem dict_okD {c : Crs} {S : Stg} {f : Int} (m : Made c S f) (ne : S ≠ []) : DictOk c.ringBy.l := by
  have h := m.good
  rw [m.rings]
  have few : (cellsOf S f).length ≤ 450 := by
    have := congrArg List.length (cells_names S f)
    rw [List.length_map] at this
    rw [this]; exact h.few
  refine ⟨by rw [cells_names]; exact h.once, few, fun p hp => ?_, fun p hp => ?_, ?_⟩
  · have : p.1 ∈ (cellsOf S f).map (·.1) := List.mem_map_of_mem hp
    rw [cells_names] at this
    obtain ⟨c, h1, h2⟩ := folk_mem.mp this
    exact h.names c h1 _ h2
  · obtain ⟨x, k⟩ := p
    obtain ⟨n, q, hc, rfl⟩ := mem_cells.mp hp
    have h1 := cell_lt h.full' (show (cell S n q).isSome by rw [hc]; rfl)
    rw [← folk_total] at h1
    have := h.few
    exact ⟨by show (0 : Int) < n + q + 1; omega, by show (n : Int) + q + 1 ≤ 500; omega, Int.emod_nonneg _ (by omega), Int.emod_lt_of_pos _ (by omega)⟩
  · obtain ⟨c, S', rfl⟩ := List.exists_cons_of_ne_nil ne
    obtain ⟨x, c', e⟩ := List.exists_cons_of_ne_nil (h.full' c List.mem_cons_self)
    refine ⟨(x, (1, 0)), mem_cells.mpr ⟨0, 0, cell_iff.mpr ⟨c, rfl, by rw [e]; rfl⟩, ?_⟩, rfl⟩
    simp
end M
namespace M
open PySem G SrtT
def fromF (t : T3 Int Int Int) (day : Int) : Int := if (day - t.a) % t.b < t.c then day else day + t.b - (day - t.a) % t.b
def earlyA (c : Crs) (l : List Str) (b : Int) : List Int := (rng b (c.begin_ - b).toNat).filter fun d => areT c l d
def firstF (c : Crs) (l : List Str) (b : Int) : Option Int :=
  if earlyA c l b = [] then (meetF (l.map (ringIn c.ringBy.l))).map fun t => fromF t (max b c.begin_) else some ((earlyA c l b).getD 0 0)
end M
namespace P
open PySem PySem.Spec PyProof.Rows L2 G L M
open Rp (rp)
section
variable {P : Program} {w : World} {K : PySem.W.Frag} {mg : Str → Option Value} {base : Heap}
/-- a method whose last parameter has a default -/
def CanMD (P : Program) (w : World) (K : PySem.W.Frag) (mg : Str → Option Value) (base : Heap) (CX : CXT) (k : Nat) (x : Str) (ps : List Str) (sp : Sp) (n : Int) : Prop :=
  Cls K (crsA K) ∧ Meth K (crsA K) x (crsM K x) ∧ ∃ fd : FuncData, FnOk P w K mg base CX k (crsM K x) fd ps sp ∧ ∃ ds, Vals [.int n] ds ∧ Binds K fd ps ds
theorem CanMD.mono {CX : CXT} {j k : Nat} {x : Str} {ps : List Str} {sp : Sp} {n : Int} (C : CanMD P w K mg base CX j x ps sp n) (h : j ≤ k) : CanMD P w K mg base CX k x ps sp n := by
  obtain ⟨c, me, fd, F, ds⟩ := C
  exact ⟨c, me, fd, F.mono h, ds⟩
end
section
variable {X : Cx} {Γ Γ1 Γ2 : DE} {o e : Expr} {es : List Expr} {apos cpos : Pos} {x : Str} {k : Nat} {ps : List Str} {ents : DE} {m1 : Md} {R : DE → m1.β → DE → Prop} {y : m1.β} {Γc : DE} {c : Crs} {n : Int}
end
section
variable {P : Program} {w : World} {K : PySem.W.Frag} {mg : Str → Option Value} {base : Heap}
end
end P
namespace M
open PySem G SrtT P
def onP (c : Crs) (l : List Str) (d : Int) : Bool := inOne (standingOn c d) l
theorem are_in (S : Stg) (l : List Str) : ((S.map fun r => (l.map fun n => decide (n ∈ r)).all id).any id) = inOne S l := by
  unfold inOne
  rw [List.any_map]
  congr 1
  funext r
  show (l.map fun n => decide (n ∈ r)).all id = decide ((l.filter fun n => !decide (n ∈ r)) = [])
  rw [Bool.eq_iff_iff, decide_eq_true_iff, List.all_map, List.all_eq_true, List.filter_eq_nil_iff]
  refine forall_congr' fun n => forall_congr' fun _ => ?_
  show decide (n ∈ r) = true ↔ ¬ (!decide (n ∈ r)) = true
  cases decide (n ∈ r) <;> simp
theorem are_on {c : Crs} (h : CrsB c) {l : List Str} {d : Int} (hd : d < c.begin_) : areT c l d = onP c l d := by
  have b1 := h.b1
  unfold areT onP standingOn
  rw [if_pos (by omega), are_in]
theorem met_on {c : Crs} {S : Stg} {f : Int} (m : OnAll c S f) {l : List Str} (hf : FolkOk c.ringBy.l l) {d : Int} (h : f ≤ d) : onP c l d = match meetF (l.map (ringIn c.ringBy.l)) with
      | some t => decide ((d - t.a) % t.b < t.c)
      | none => false := by
  obtain ⟨j, rfl⟩ : ∃ j : Nat, d = f + j := ⟨(d - f).toNat, by omega⟩
  unfold onP
  rw [m.on j]
  have hf2 := hf
  rw [m.rings] at hf2 ⊢
  exact together_on m.good m.set_ hf2 j
theorem below_step {t : T3 Int Int Int} (h1 : 0 < t.c) (h2 : t.c ≤ t.b) (d : Int) : belowF t (d + 1) = belowF t d + (if (d - t.a) % t.b < t.c then 1 else 0) := by
  unfold belowF
  have e := Int.emod_add_mul_ediv (d - t.a) t.b
  have r0 := Int.emod_nonneg (d - t.a) (show t.b ≠ 0 by omega)
  have r1 := Int.emod_lt_of_pos (d - t.a) (show 0 < t.b by omega)
  rw [show d + 1 - t.a = d - t.a + 1 by omega]
  generalize d - t.a = x at *
  generalize x % t.b = r at *
  generalize x / t.b = q at *
  by_cases z : r + 1 < t.b
  · have a1 : (x + 1) % t.b = r + 1 := by
      rw [show x + 1 = r + 1 + t.b * q by omega, Int.add_mul_emod_self_left, Int.emod_eq_of_lt (by omega) z]
    have a2 : (x + 1) / t.b = q := by
      rw [show x + 1 = r + 1 + t.b * q by omega, Int.add_mul_ediv_left _ _ (by omega), Int.ediv_eq_zero_of_lt (by omega) z]
      omega
    rw [a1, a2]
    split <;> omega
  · have a1 : (x + 1) % t.b = 0 := by
      rw [show x + 1 = t.b + t.b * q by omega, Int.add_mul_emod_self_left, Int.emod_self]
    have a2 : (x + 1) / t.b = q + 1 := by
      rw [show x + 1 = t.b + t.b * q by omega, Int.add_mul_ediv_left _ _ (by omega), Int.ediv_self (by omega)]
      omega
    rw [a1, a2, Int.add_mul]
    split <;> omega
theorem below_sum {t : T3 Int Int Int} (h1 : 0 < t.c) (h2 : t.c ≤ t.b) (d : Int) : ∀ n : Nat, belowF t (d + n) = belowF t d + (((rng d n).filter fun x => decide ((x - t.a) % t.b < t.c)).length : Int)
  | 0 => by simp [rng]
  | n + 1 => by
    have ih := below_sum h1 h2 d n
    rw [show d + ((n + 1 : Nat) : Int) = d + n + 1 by omega, below_step h1 h2, ih]
    unfold rng
    rw [List.range_succ, List.map_append, List.filter_append, List.length_append]
    by_cases z : (d + n - t.a) % t.b < t.c
    · rw [if_pos z]
      simp [z]
      omega
    · rw [if_neg z]
      simp [z]
theorem rng_split (b : Int) (k n : Nat) : rng b (k + n) = rng b k ++ rng (b + k) n := by
  unfold rng
  rw [List.range_add, List.map_append, List.map_map]
  congr 1
  refine List.map_congr_left fun i _ => ?_
  show b + ((k + i : Nat) : Int) = b + k + i
  omega
/-- how many days together -/
theorem many_on {c : Crs} {S : Stg} {f : Int} (m : OnAll c S f) {l : List Str} (hf : FolkOk c.ringBy.l l) {b e : Int} (hbe : b ≤ e) : manyF c l b e = (((rng b (e - b).toNat).filter (onP c l)).length : Int) := by
  have hb := m.begin_
  have ek : earlyF c l b e = (rng b (min e f - b).toNat).filter (onP c l) := by
    unfold earlyF
    rw [hb]
    refine List.filter_congr fun d hd => ?_
    have := rng_mem hd
    exact are_on m.ok (by omega)
  obtain ⟨k1, hk1⟩ : ∃ k1 : Nat, (min e f - b).toNat = k1 := ⟨_, rfl⟩
  obtain ⟨k2, hk2⟩ : ∃ k2 : Nat, (e - b).toNat = k1 + k2 := ⟨(e - b).toNat - k1, by omega⟩
  have later : ∀ d ∈ rng (b + k1) k2, f ≤ d := fun d hd => by
    have := rng_mem hd
    omega
  rw [hk2, rng_split, List.filter_append, List.length_append]
  rw [hk1] at ek
  unfold manyF
  rw [ek, hb]
  generalize ((rng b k1).filter (onP c l)).length = n1
  have hr : ∀ p ∈ l.map (ringIn c.ringBy.l), RingOk p := fun p hp => by
    obtain ⟨n, hn, rfl⟩ := List.mem_map.mp hp
    exact (hf.look hn).2
  have hne : l.map (ringIn c.ringBy.l) ≠ [] := by simpa using hf.ne
  cases q : meetF (l.map (ringIn c.ringBy.l)) with
  | none =>
    have : (rng (b + k1) k2).filter (onP c l) = [] := List.filter_eq_nil_iff.mpr fun d hd => by
      rw [met_on m hf (later d hd), q]
      exact Bool.false_ne_true
    rw [this]
    rfl
  | some t =>
    obtain ⟨_, _, _, _, _, c0, cb, _⟩ := met_ok hr hne q
    show (if e ≤ max b f then (n1 : Int) else (n1 : Int) + belowF t e - belowF t (max b f)) = _
    have ef : (rng (b + k1) k2).filter (onP c l) = (rng (b + k1) k2).filter fun x => decide ((x - t.a) % t.b < t.c) := List.filter_congr fun d hd => by
      rw [met_on m hf (later d hd), q]
    rw [ef]
    have bs := below_sum c0 cb (b + k1) k2
    by_cases z : e ≤ max b f
    · rw [if_pos z]
      have : k2 = 0 := by omega
      subst this
      rfl
    · rw [if_neg z, show max b f = b + k1 by omega]
      rw [show b + k1 + (k2 : Int) = e by omega] at bs
      omega
def IsFirst (p : Int → Bool) (b : Int) : Option Int → Prop
  | some d => b ≤ d ∧ p d = true ∧ ∀ x, b ≤ x → x < d → p x = false
  | none => ∀ x, b ≤ x → p x = false
theorem first_unique {p : Int → Bool} {b : Int} : ∀ {o1 o2 : Option Int}, IsFirst p b o1 → IsFirst p b o2 → o1 = o2
  | some d1, some d2, ⟨a1, a2, a3⟩, ⟨b1, b2, b3⟩ => by
    rcases Int.lt_trichotomy d1 d2 with z | z | z
    · rw [b3 d1 a1 z] at a2; cases a2
    · rw [z]
    · rw [a3 d2 b1 z] at b2; cases b2
  | some d1, none, ⟨a1, a2, _⟩, h => by rw [h d1 a1] at a2; cases a2
  | none, some d2, h, ⟨b1, b2, _⟩ => by rw [h d2 b1] at b2; cases b2
  | none, none, _, _ => rfl
theorem rng_first {p : Int → Bool} {b x : Int} {n : Nat} {r : List Int} (h : (rng b n).filter p = x :: r) : b ≤ x ∧ p x = true ∧ ∀ y, b ≤ y → y < x → p y = false := by
  obtain ⟨l1, l2, e, no, px, _⟩ := List.filter_eq_cons_iff.mp h
  have ex : (rng b n)[l1.length]? = some x := by rw [e, List.getElem?_append_right (Nat.le_refl _), Nat.sub_self]; rfl
  obtain ⟨_, hx⟩ := rng_get ex
  refine ⟨by omega, px, fun y hy hlt => ?_⟩
  have hi : (y - b).toNat < l1.length := by omega
  have ey : (rng b n)[(y - b).toNat]? = some l1[(y - b).toNat] := by rw [e, List.getElem?_append_left hi, List.getElem?_eq_getElem hi]
  obtain ⟨_, hy2⟩ := rng_get ey
  have := no _ (List.getElem_mem hi)
  rw [hy2, show b + ((y - b).toNat : Int) = y by omega] at this
  simpa using this
theorem from_first {t : T3 Int Int Int} (h1 : 0 < t.c) (h2 : t.c ≤ t.b) (b : Int) : IsFirst (fun d => decide ((d - t.a) % t.b < t.c)) b (some (fromF t b)) := by
  have e := Int.emod_add_mul_ediv (b - t.a) t.b
  have r0 := Int.emod_nonneg (b - t.a) (show t.b ≠ 0 by omega)
  have r1 := Int.emod_lt_of_pos (b - t.a) (show 0 < t.b by omega)
  unfold fromF
  generalize hr : (b - t.a) % t.b = r at *
  by_cases z : r < t.c
  · rw [if_pos z]
    exact ⟨Int.le_refl _, decide_eq_true (by rw [hr]; exact z), fun x h1 h2 => by omega⟩
  · rw [if_neg z]
    refine ⟨by omega, decide_eq_true ?_, fun x g1 g2 => decide_eq_false ?_⟩
    · rw [show b + t.b - r - t.a = t.b + t.b * ((b - t.a) / t.b) by omega, Int.add_mul_emod_self_left, Int.emod_self]
      exact h1
    · rw [show x - t.a = (r + (x - b)) + t.b * ((b - t.a) / t.b) by omega, Int.add_mul_emod_self_left, Int.emod_eq_of_lt (by omega) (by omega)]
      omega
/-- the first day together -/
theorem first_is {c : Crs} {S : Stg} {f : Int} (m : OnAll c S f) {l : List Str} (hf : FolkOk c.ringBy.l l) (b : Int) : IsFirst (onP c l) b (firstF c l b) := by
  have hb := m.begin_
  have ek : earlyA c l b = (rng b (f - b).toNat).filter (onP c l) := by
    unfold earlyA
    rw [hb]
    refine List.filter_congr fun d hd => ?_
    have := rng_mem hd
    exact are_on m.ok (by omega)
  have hr : ∀ p ∈ l.map (ringIn c.ringBy.l), RingOk p := fun p hp => by
    obtain ⟨n, hn, rfl⟩ := List.mem_map.mp hp
    exact (hf.look hn).2
  have hne : l.map (ringIn c.ringBy.l) ≠ [] := by simpa using hf.ne
  unfold firstF
  rw [ek, hb]
  by_cases z : (rng b (f - b).toNat).filter (onP c l) = []
  · rw [if_pos z]
    have early : ∀ x, b ≤ x → x < f → onP c l x = false := fun x h1 h2 => by
      have hx : x ∈ rng b (f - b).toNat := List.mem_map.mpr ⟨(x - b).toNat, List.mem_range.mpr (by omega), by omega⟩
      have := List.filter_eq_nil_iff.mp z x hx
      simpa using this
    cases q : meetF (l.map (ringIn c.ringBy.l)) with
    | none =>
      intro x hx
      by_cases y : x < f
      · exact early x hx y
      · rw [met_on m hf (by omega), q]
    | some t =>
      obtain ⟨_, _, _, _, _, c0, cb, _⟩ := met_ok hr hne q
      obtain ⟨a1, a2, a3⟩ := from_first c0 cb (max b f)
      have on : ∀ x, f ≤ x → onP c l x = decide ((x - t.a) % t.b < t.c) := fun x hx => by rw [met_on m hf hx, q]
      show IsFirst (onP c l) b (some (fromF t (max b f)))
      generalize fromF t (max b f) = d at *
      refine ⟨by omega, by rw [on _ (by omega)]; exact a2, fun x h1 h2 => ?_⟩
      by_cases y : x < f
      · exact early x h1 y
      · rw [on x (by omega)]
        exact a3 x (by omega) h2
  · rw [if_neg z]
    obtain ⟨x, r, e⟩ := List.exists_cons_of_ne_nil z
    rw [e]
    exact rng_first e
end M
namespace M
open PySem G SrtT
def gapsC (c : Crs) : List Int := (rng 0 c.greatest.toNat).filter fun r => !(look c.nameBy.l (c.greatest, r)).isSome
def lessC (g f : Int) : Int := lcmL (rng f (g - f).toNat)
def stepC (g : Int) (gaps : List Int) (z f : Int) : Int :=
  z + lcmL (rng f (g + 1 - f).toNat) / g * (g - gaps.length) + (if f < g then lessC g f / (Int.gcd (lessC g f) g : Int) * ((dist (gaps.map fun r => r % (Int.gcd (lessC g f) g : Int))).length : Nat) else 0)
def manyC (g : Int) (gaps : List Int) : Int := (rng 1 g.toNat).foldl (stepC g gaps) 0
end M
namespace P
open PySem PySem.Spec PyProof.Rows L2 G L M SrtT
open Rp (rp)
section
variable {P : Program} {w : World} {K : PySem.W.Frag} {mg : Str → Option Value} {base : Heap}
theorem lcx_eq {X : Cx} {Γ Γ2 : DE} {tg iter elt : Expr} {ifs : List Expr} {scope : Scope} {β : Type} [Rp β] {ys zs : List β} (e : ys = zs) (h : LCX X Γ tg iter ifs elt scope ys Γ2) : LCX X Γ tg iter ifs elt scope zs Γ2 := e ▸ h
end
end P
namespace M
open PySem G SrtT P
structure ShiftC (c1 c2 : Crs) (D : Nat) : Prop where
  later : ∃ (R1 R2 : Stg) (f1 f2 : Nat), Later c1 c2 R1 R2 (f1 : Int) (f2 : Int) (D : Int)
  on : ∀ d : Nat, standingOn c1 ((d + D : Nat) : Int) = standingOn c2 (d : Int)
def shiftK (D : Int) (p : Int × Int) : Int × Int := (p.1, (p.2 - D) % p.1)
theorem ShiftC.great {c1 c2 : Crs} {D : Nat} (h : ShiftC c1 c2 D) : c1.greatest = c2.greatest := by
  obtain ⟨R1, R2, f1, f2, l⟩ := h.later
  rw [l.m1.great, l.m2.great]
  exact l.great
theorem Later.cellsS {c1 c2 : Crs} {R1 R2 : Stg} {f1 f2 D : Int} (l : Later c1 c2 R1 R2 f1 f2 D) {x : Str} {k : Int × Int} (h : (x, k) ∈ cellsOf R1 f1) : (x, shiftK D k) ∈ cellsOf R2 f2 := by
  obtain ⟨n, p, hc, rfl⟩ := mem_cells.mp h
  have hg := greatest_up (f := f1) (show (cell R1 n p).isSome by rw [hc]; rfl)
  have e := l.cells (L := n + p + 1) (by omega) (by omega) ((f1 - n) % ((n : Int) + p + 1) - D) (x := x)
  rw [show ((n + p + 1 : Nat) : Int) = (n : Int) + p + 1 by omega, show (f1 - (n : Int)) % ((n : Int) + p + 1) - D + D = (f1 - (n : Int)) % ((n : Int) + p + 1) by omega, Int.emod_emod] at e
  exact e.mpr h
theorem Later.cellsB {c1 c2 : Crs} {R1 R2 : Stg} {f1 f2 D : Int} (l : Later c1 c2 R1 R2 f1 f2 D) {x : Str} {k2 : Int × Int} (h : (x, k2) ∈ cellsOf R2 f2) : ∃ k, (x, k) ∈ cellsOf R1 f1 ∧ k2 = shiftK D k := by
  have m : x ∈ folk R2 := by
    rw [← cells_names R2 f2]
    exact List.mem_map_of_mem (f := (·.1)) h
  have m := l.perm.mem_iff.mpr m
  rw [← cells_names R1 f1] at m
  obtain ⟨⟨y, k⟩, hk, e⟩ := List.mem_map.mp m
  cases e
  exact ⟨k, hk, cells_once l.m2.good h (l.cellsS hk)⟩
theorem ShiftC.look {c1 c2 : Crs} {D : Nat} (h : ShiftC c1 c2 D) (x : Str) : look c2.ringBy.l x = (look c1.ringBy.l x).map (shiftK D) := by
  obtain ⟨R1, R2, f1, f2, l⟩ := h.later
  have n1 : (c1.ringBy.l.map (·.1)).Nodup := by rw [l.m1.rings, cells_names]; exact l.m1.good.once
  have n2 : (c2.ringBy.l.map (·.1)).Nodup := by rw [l.m2.rings, cells_names]; exact l.m2.good.once
  cases q : G.look c1.ringBy.l x with
  | some k =>
    refine (look_iff n2).mpr ?_
    rw [l.m2.rings]
    have := look_mem q
    rw [l.m1.rings] at this
    exact l.cellsS this
  | none =>
    cases q2 : G.look c2.ringBy.l x with
    | none => rfl
    | some k =>
      have := look_mem q2
      rw [l.m2.rings] at this
      obtain ⟨k1, h1, _⟩ := l.cellsB this
      rw [← l.m1.rings] at h1
      rw [(look_iff n1).mpr h1] at q
      cases q
theorem shift_ok {D : Int} {p : Int × Int} (h : RingOk p) : RingOk (shiftK D p) := by
  have p0 := h.pos
  exact ⟨h.pos, h.few, Int.emod_nonneg _ (by omega), Int.emod_lt_of_pos _ h.pos⟩
theorem ShiftC.folk {c1 c2 : Crs} {D : Nat} (h : ShiftC c1 c2 D) {l : List Str} (hf : FolkOk c1.ringBy.l l) : FolkOk c2.ringBy.l l := by
  refine ⟨hf.ne, hf.once, hf.few, hf.names, fun n hn => ?_⟩
  obtain ⟨p, a, b⟩ := hf.has n hn
  exact ⟨shiftK D p, by rw [h.look n, a]; rfl, shift_ok b⟩
theorem ShiftC.ring {c1 c2 : Crs} {D : Nat} (h : ShiftC c1 c2 D) {l : List Str} (hf : FolkOk c1.ringBy.l l) {n : Str} (hn : n ∈ l) : ringIn c2.ringBy.l n = shiftK D (ringIn c1.ringBy.l n) := by
  have a := (hf.look hn).1
  have b := h.look n
  rw [a] at b
  unfold ringIn at a ⊢
  rw [b]
  rfl
theorem ShiftC.onP {c1 c2 : Crs} {D : Nat} (h : ShiftC c1 c2 D) (l : List Str) {d : Int} (d0 : 0 ≤ d) : onP c1 l (d + D) = onP c2 l d := by
  obtain ⟨n, rfl⟩ : ∃ n : Nat, d = n := ⟨d.toNat, by omega⟩
  unfold M.onP
  rw [← h.on n]
  rfl
theorem ShiftC.many {c1 c2 : Crs} {D : Nat} (h : ShiftC c1 c2 D) {l : List Str} (hf : FolkOk c1.ringBy.l l) {b e : Int} (b0 : 0 ≤ b) (be : b ≤ e) : manyF c2 l b e = manyF c1 l (b + D) (e + D) := by
  obtain ⟨R1, R2, f1, f2, q⟩ := h.later
  rw [many_on q.m1.toOnAll hf (show b + D ≤ e + D by omega), many_on q.m2.toOnAll (h.folk hf) be, show e + D - (b + D) = e - b by omega]
  have er : rng (b + D) (e - b).toNat = (rng b (e - b).toNat).map (· + (D : Int)) := by
    unfold rng
    rw [List.map_map]
    refine List.map_congr_left fun i _ => ?_
    show b + (D : Int) + i = b + i + D
    omega
  rw [er, List.filter_map, List.length_map]
  congr 2
  exact List.filter_congr fun d hd => (h.onP l (by have := rng_mem hd; omega)).symm
theorem ShiftC.first {c1 c2 : Crs} {D : Nat} (h : ShiftC c1 c2 D) {l : List Str} (hf : FolkOk c1.ringBy.l l) {b : Int} (b0 : 0 ≤ b) : firstF c2 l b = (firstF c1 l (b + D)).map (· - (D : Int)) := by
  obtain ⟨R1, R2, f1, f2, q⟩ := h.later
  have a1 := first_is q.m1.toOnAll hf (b + D)
  have a2 := first_is q.m2.toOnAll (h.folk hf) b
  refine first_unique a2 ?_
  cases e : firstF c1 l (b + D) with
  | none =>
    rw [e] at a1
    exact fun x hx => by rw [← h.onP l (by omega)]; exact a1 _ (by omega)
  | some d =>
    rw [e] at a1
    obtain ⟨u, v, w⟩ := a1
    show IsFirst (M.onP c2 l) b (some (d - (D : Int)))
    refine ⟨by omega, ?_, fun x h1 h2 => ?_⟩
    · rw [← h.onP l (by omega), show d - (D : Int) + D = d by omega]
      exact v
    · rw [← h.onP l (by omega)]
      exact w _ (by omega) (by omega)
def shiftL (D : Int) (l : List (Str × (Int × Int))) : List (Str × (Int × Int)) := l.map fun z => (z.1, shiftK D z.2)
theorem off_shift (D : Int) (x y : Str × (Int × Int)) : offOf (x.1, shiftK D x.2) (y.1, shiftK D y.2) = offOf x y := by
  unfold offOf shiftK
  have key : ((x.2.2 - D) % x.2.1 - (y.2.2 - D) % y.2.1) % (Int.gcd x.2.1 y.2.1 : Int) = (x.2.2 - y.2.2) % (Int.gcd x.2.1 y.2.1 : Int) := by
    have g1 : (Int.gcd x.2.1 y.2.1 : Int) ∣ x.2.1 := Int.gcd_dvd_left _ _
    have g2 : (Int.gcd x.2.1 y.2.1 : Int) ∣ y.2.1 := Int.gcd_dvd_right _ _
    generalize (Int.gcd x.2.1 y.2.1 : Int) = g at *
    refine Int.emod_emod_of_dvd _ (Int.dvd_refl g) |>.symm.trans ?_
    rw [Int.emod_emod]
    refine Int.emod_eq_emod_iff_emod_sub_eq_zero.mpr (Int.emod_eq_zero_of_dvd ?_)
    have a1 := Int.emod_add_mul_ediv (x.2.2 - D) x.2.1
    have a2 := Int.emod_add_mul_ediv (y.2.2 - D) y.2.1
    have : (x.2.2 - D) % x.2.1 - (y.2.2 - D) % y.2.1 - (x.2.2 - y.2.2) = y.2.1 * ((y.2.2 - D) / y.2.1) - x.2.1 * ((x.2.2 - D) / x.2.1) := by omega
    rw [this]
    exact Int.dvd_sub (Int.dvd_trans g2 (Int.dvd_mul_right _ _)) (Int.dvd_trans g1 (Int.dvd_mul_right _ _))
  show (if ((x.2.2 - D) % x.2.1 - (y.2.2 - D) % y.2.1) % (Int.gcd x.2.1 y.2.1 : Int) = 0 then none else some (x.1, y.1, (Int.gcd x.2.1 y.2.1 : Int))) = _
  rw [key]
theorem firstOff_shift (D : Int) : ∀ l : List (Str × (Int × Int)), firstOff (shiftL D l) = firstOff l
  | [] => rfl
  | x :: r => by
    show ((shiftL D r).findSome? (offOf (x.1, shiftK D x.2))).or (firstOff (shiftL D r)) = (r.findSome? (offOf x)).or (firstOff r)
    rw [firstOff_shift D r]
    congr 1
    unfold shiftL
    rw [List.findSome?_map]
    congr 1
    funext y
    exact off_shift D x y
theorem on_shift {D : Int} {p : Int × Int} (x : Int) : On (flipR (shiftK D p)) x ↔ On (flipR p) (x + D) := by
  show p.1 ∣ x - (p.2 - D) % p.1 ↔ p.1 ∣ x + D - p.2
  have a1 := Int.emod_add_mul_ediv (p.2 - D) p.1
  have e : x - (p.2 - D) % p.1 = x + D - p.2 + p.1 * ((p.2 - D) / p.1) := by omega
  rw [e]
  exact ⟨fun h => by have := Int.dvd_sub h (Int.dvd_mul_right p.1 ((p.2 - D) / p.1)); rwa [show x + D - p.2 + p.1 * ((p.2 - D) / p.1) - p.1 * ((p.2 - D) / p.1) = x + D - p.2 by omega] at this, fun h => Int.dvd_add h (Int.dvd_mul_right _ _)⟩
def shiftM (D : Int) (t : T3 Int Int Int) : T3 Int Int Int := ⟨(t.a - D) % t.b, t.b, t.c⟩
theorem meet_shift {D : Int} {l : List (Str × (Int × Int))} (hp : ∀ p ∈ l, RingOk p.2) (ne : l ≠ []) : meetF ((shiftL D l).map (·.2)) = (meetF (l.map (·.2))).map (shiftM D) := by
  have hp2 : ∀ p ∈ shiftL D l, RingOk p.2 := fun p h => by
    obtain ⟨q, hq, rfl⟩ := List.mem_map.mp h
    exact shift_ok (hp q hq)
  have n1 := meet_none hp
  have n2 := meet_none hp2
  rw [firstOff_shift] at n2
  have e1 : (shiftL D l).map (·.2) = (l.map (·.2)).map (shiftK D) := by
    unfold shiftL
    rw [List.map_map, List.map_map]
    rfl
  have r1 : ∀ p ∈ l.map (·.2), RingOk p := fun p h => by
    obtain ⟨q, hq, rfl⟩ := List.mem_map.mp h
    exact hp q hq
  have r2 : ∀ p ∈ (l.map (·.2)).map (shiftK D), RingOk p := fun p h => by
    obtain ⟨q, hq, rfl⟩ := List.mem_map.mp h
    exact shift_ok (r1 q hq)
  have ne1 : l.map (·.2) ≠ [] := by simpa using ne
  have ne2 : (l.map (·.2)).map (shiftK D) ≠ [] := by simpa using ne
  rw [e1] at n2 ⊢
  have es : ((l.map (·.2)).map (shiftK D)).map (·.1) = (l.map (·.2)).map (·.1) := by
    rw [List.map_map]
    rfl
  cases q1 : meetF (l.map (·.2)) with
  | none => exact n2.mpr (n1.mp q1)
  | some t1 =>
    cases q2 : meetF ((l.map (·.2)).map (shiftK D)) with
    | none =>
      have := n1.mpr (n2.mp q2)
      rw [q1] at this
      cases this
    | some t2 =>
      obtain ⟨b1, l1, a1, a1', c1, _, _, _, _, o1⟩ := met_ok r1 ne1 q1
      obtain ⟨b2, l2, a2, a2', c2, _, _, _, _, o2⟩ := met_ok r2 ne2 q2
      rw [es] at l2 c2
      obtain ⟨x1, x2, x3⟩ := t1
      obtain ⟨y1, y2, y3⟩ := t2
      simp only at *
      subst c1 c2
      have eb : y2 = x2 := l2.trans l1.symm
      subst eb
      have key : y2 ∣ y1 + D - x1 := (o1 (y1 + D)).mpr fun p hp => (on_shift y1).mp ((o2 y1).mp (by rw [Int.sub_self]; exact Int.dvd_zero _) _ (List.mem_map_of_mem (f := shiftK D) hp))
      show some _ = some (shiftM D _)
      congr 1
      unfold shiftM
      simp only
      congr 1
      obtain ⟨w, hw⟩ := key
      have : x1 - D = y1 + y2 * (-w) := by rw [Int.mul_neg]; omega
      rw [this, Int.add_mul_emod_self_left, Int.emod_eq_of_lt a2 a2']
def shiftTold (D : Int) : Told → Told
  | .met t => .met (shiftM D t)
  | o => o
theorem told_shift {D : Int} {l : List (Str × (Int × Int))} (hp : ∀ p ∈ l, RingOk p.2) (ne : l ≠ []) : toldF (shiftL D l) = shiftTold D (toldF l) := by
  unfold toldF
  rw [meet_shift hp ne, firstOff_shift]
  cases meetF (l.map (·.2)) with
  | some t => rfl
  | none =>
    cases firstOff l with
    | none => rfl
    | some q => rfl
theorem ShiftC.withR {c1 c2 : Crs} {D : Nat} (h : ShiftC c1 c2 D) {l : List Str} (hf : FolkOk c1.ringBy.l l) : withR c2.ringBy.l l = shiftL D (withR c1.ringBy.l l) := by
  unfold M.withR shiftL
  rw [List.map_map]
  exact List.map_congr_left fun n hn => by
    rw [h.ring hf hn]
    rfl
theorem withR_rok {d : List (Str × (Int × Int))} {l : List Str} (hf : FolkOk d l) : (∀ p ∈ M.withR d l, RingOk p.2) ∧ M.withR d l ≠ [] := by
  refine ⟨fun p hp => ?_, fun z => hf.ne ?_⟩
  · obtain ⟨n, hn, rfl⟩ := List.mem_map.mp hp
    exact (hf.look hn).2
  · exact List.map_eq_nil_iff.mp z
theorem ShiftC.told {c1 c2 : Crs} {D : Nat} (h : ShiftC c1 c2 D) {l : List Str} (hf : FolkOk c1.ringBy.l l) : toldF (M.withR c2.ringBy.l l) = shiftTold D (toldF (M.withR c1.ringBy.l l)) := by
  rw [h.withR hf]
  exact told_shift (withR_rok hf).1 (withR_rok hf).2
theorem dist_same {xs ys : List Int} (h : ∀ k, k ∈ xs ↔ k ∈ ys) : (dist xs).length = (dist ys).length :=
  ((List.perm_ext_iff_of_nodup (dist_nodup xs) (dist_nodup ys)).mpr fun k => by rw [dist_mem, dist_mem, h]).length_eq
theorem dist_map {xs : List Int} {f : Int → Int} (h : ∀ a ∈ xs, ∀ b ∈ xs, f a = f b → a = b) : (dist (xs.map f)).length = (dist xs).length := by
  have nd : ((dist xs).map f).Nodup := by
    refine List.pairwise_map.mpr ((dist_nodup xs).imp_of_mem fun ha hb hne e => hne (h _ (dist_mem.mp ha) _ (dist_mem.mp hb) e))
  rw [← List.length_map (f := f) (as := dist xs)]
  exact ((List.perm_ext_iff_of_nodup (dist_nodup _) nd).mpr fun k => by
    rw [dist_mem, List.mem_map, List.mem_map]
    exact ⟨fun ⟨a, ha, e⟩ => ⟨a, dist_mem.mpr ha, e⟩, fun ⟨a, ha, e⟩ => ⟨a, dist_mem.mp ha, e⟩⟩).length_eq
theorem gaps_mem {c : Crs} {r : Int} : r ∈ gapsC c ↔ (0 ≤ r ∧ r < c.greatest) ∧ look c.nameBy.l (c.greatest, r) = none := by
  unfold gapsC
  rw [List.mem_filter]
  constructor
  · rintro ⟨a, b⟩
    have := rng_mem a
    refine ⟨by omega, ?_⟩
    cases q : look c.nameBy.l (c.greatest, r) with
    | none => rfl
    | some x => rw [q] at b; cases b
  · rintro ⟨a, b⟩
    refine ⟨List.mem_map.mpr ⟨r.toNat, List.mem_range.mpr (by omega), by omega⟩, by rw [b]; rfl⟩
theorem gaps_nodup (c : Crs) : (gapsC c).Nodup := by
  unfold gapsC
  exact List.Pairwise.filter _ ((rng_up _ _).imp fun h => Int.ne_of_lt h)
theorem gaps_shift {c1 c2 : Crs} {D : Nat} (h : ShiftC c1 c2 D) : (gapsC c1).Perm ((gapsC c2).map fun r => (r + D) % c1.greatest) := by
  obtain ⟨R1, R2, f1, f2, l⟩ := h.later
  have g := h.great
  have lg := l.m1.great
  have gp : ∀ r : Int, 0 ≤ r → r < c1.greatest → ∃ n : Nat, c1.greatest = (n : Int) ∧ 1 ≤ n := fun r h0 h1 => ⟨c1.greatest.toNat, by omega, by omega⟩
  have lookE : ∀ r : Int, 0 ≤ r → r < c1.greatest → look c2.nameBy.l (c1.greatest, r) = look c1.nameBy.l (c1.greatest, (r + D) % c1.greatest) := fun r h0 h1 => by
    obtain ⟨n, en, n1⟩ := gp r h0 h1
    have := l.look (L := n) n1 (by rw [← lg]; omega) h0 (by omega)
    rw [en]
    exact this
  have inj : ∀ a b : Int, 0 ≤ a → a < c1.greatest → 0 ≤ b → b < c1.greatest → (a + D) % c1.greatest = (b + D) % c1.greatest → a = b := fun a b a0 a1 b0 b1 e => by
    have e2 := Int.emod_eq_emod_iff_emod_sub_eq_zero.mp e
    rw [show a + (D : Int) - (b + D) = a - b by omega] at e2
    obtain ⟨w, hw⟩ := Int.dvd_of_emod_eq_zero e2
    have : w = 0 := by
      refine Classical.byContradiction fun nz => ?_
      rcases Int.lt_or_lt_of_ne nz with z | z
      · have := Int.mul_le_mul_of_nonneg_left (show w ≤ -1 by omega) (show 0 ≤ c1.greatest by omega)
        omega
      · have := Int.mul_le_mul_of_nonneg_left (show 1 ≤ w by omega) (show 0 ≤ c1.greatest by omega)
        omega
    rw [this, Int.mul_zero] at hw
    omega
  have nd : ((gapsC c2).map fun r => (r + D) % c1.greatest).Nodup := by
    refine List.pairwise_map.mpr ((gaps_nodup c2).imp_of_mem fun {a b} ha hb hne e => hne ?_)
    obtain ⟨⟨a0, a1⟩, _⟩ := gaps_mem.mp ha
    obtain ⟨⟨b0, b1⟩, _⟩ := gaps_mem.mp hb
    rw [← g] at a1 b1
    exact inj a b a0 a1 b0 b1 e
  refine (List.perm_ext_iff_of_nodup (gaps_nodup c1) nd).mpr fun r => ?_
  rw [gaps_mem, List.mem_map]
  constructor
  · rintro ⟨⟨r0, r1⟩, e⟩
    have m0 := Int.emod_nonneg (r - D) (show c1.greatest ≠ 0 by omega)
    have m1 := Int.emod_lt_of_pos (r - D) (show 0 < c1.greatest by omega)
    have back : ((r - D) % c1.greatest + D) % c1.greatest = r := by
      rw [Int.emod_add_emod, show r - (D : Int) + D = r by omega, Int.emod_eq_of_lt r0 r1]
    refine ⟨(r - D) % c1.greatest, gaps_mem.mpr ⟨⟨m0, by rw [← g]; exact m1⟩, ?_⟩, back⟩
    rw [← g, lookE _ m0 m1, back]
    exact e
  · rintro ⟨s, hs, rfl⟩
    obtain ⟨⟨s0, s1⟩, e⟩ := gaps_mem.mp hs
    rw [← g] at s1 e
    have m0 := Int.emod_nonneg (s + D) (show c1.greatest ≠ 0 by omega)
    have m1 := Int.emod_lt_of_pos (s + D) (show 0 < c1.greatest by omega)
    exact ⟨⟨m0, m1⟩, by rw [← lookE s s0 s1]; exact e⟩
theorem dist_gaps {c1 c2 : Crs} {D : Nat} (h : ShiftC c1 c2 D) {m : Int} (m0 : 0 < m) (hm : m ∣ c1.greatest) : (dist ((gapsC c1).map fun r => r % m)).length = (dist ((gapsC c2).map fun r => r % m)).length := by
  have pm := gaps_shift h
  have e1 : (dist ((gapsC c1).map fun r => r % m)).length = (dist (((gapsC c2).map fun r => r % m).map fun s => (s + D) % m)).length := by
    refine dist_same fun k => ?_
    rw [List.map_map, (pm.map fun r => r % m).mem_iff, List.map_map]
    have : ((fun r => r % m) ∘ fun r => (r + (D : Int)) % c1.greatest) = ((fun s => (s + (D : Int)) % m) ∘ fun r => r % m) := by
      funext r
      show (r + (D : Int)) % c1.greatest % m = (r % m + D) % m
      rw [Int.emod_emod_of_dvd _ hm, Int.emod_add_emod]
    rw [this]
  rw [e1]
  refine dist_map fun a ha b hb e => ?_
  obtain ⟨x, _, rfl⟩ := List.mem_map.mp ha
  obtain ⟨y, _, rfl⟩ := List.mem_map.mp hb
  rw [Int.emod_add_emod, Int.emod_add_emod] at e
  have e2 := Int.emod_eq_emod_iff_emod_sub_eq_zero.mp e
  rw [show x + (D : Int) - (y + D) = x - y by omega] at e2
  exact Int.emod_eq_emod_iff_emod_sub_eq_zero.mpr e2
theorem foldl_same {α β : Type} {f g : α → β → α} : ∀ {l : List β} {a : α}, (∀ a, ∀ x ∈ l, f a x = g a x) → l.foldl f a = l.foldl g a
  | [], _, _ => rfl
  | x :: l, a, h => by
    rw [List.foldl_cons, List.foldl_cons, h a x List.mem_cons_self]
    exact foldl_same fun a y hy => h a y (List.mem_cons_of_mem _ hy)
theorem ShiftC.companies {c1 c2 : Crs} {D : Nat} (h : ShiftC c1 c2 D) : manyC c1.greatest (gapsC c1) = manyC c2.greatest (gapsC c2) := by
  rw [← h.great]
  unfold manyC
  have hl := (gaps_shift h).length_eq
  rw [List.length_map] at hl
  refine foldl_same fun z f hf => ?_
  have hf := rng_mem hf
  unfold stepC
  rw [hl]
  by_cases y : f < c1.greatest
  · rw [if_pos y, if_pos y]
    have d0 : 0 < (Int.gcd (lessC c1.greatest f) c1.greatest : Int) := by
      have := Int.gcd_pos_of_ne_zero_right (lessC c1.greatest f) (show c1.greatest ≠ 0 by omega)
      omega
    rw [dist_gaps h d0 (Int.gcd_dvd_right _ _)]
  · rw [if_neg y, if_neg y]
end M
namespace M
open PySem G SrtT P
end M
namespace P
open PySem PySem.Spec PyProof.Rows L2 G L M SrtT
open Rp (rp)
section
variable {P : Program} {w : World} {K : PySem.W.Frag} {mg : Str → Option Value} {base : Heap}
end
end P
namespace M
open PySem G SrtT P
def rowEvery (g : Int) (rs : List (Int × Int)) : Int := lcmL (rs.map (·.1) ++ [g])
def cdaysF (g : Int) (gaps : List Int) (rs : List (Int × Int)) : List Int × Int :=
  match allJ (rs.map flipR) with
  | none => ([], rowEvery g rs)
  | some f => if ¬ rs.map (·.1) = rng ((rs.map (·.1)).getD 0 0) rs.length then ([], rowEvery g rs)
    else if (rs.map (·.1)).getD (rs.length - 1) 0 = g then ([(f.1 + (rs.map (·.1)).getD 0 0 - 1) % rowEvery g rs], rowEvery g rs)
    else if (rs.map (·.1)).getD (rs.length - 1) 0 < g - 1 then ([], rowEvery g rs)
    else (upI ((gaps.filterMap fun r => joinF f (r, g)).map fun p => (p.1 + (rs.map (·.1)).getD 0 0 - 1) % rowEvery g rs), rowEvery g rs)
theorem somes_map {α β γ : Type} (J : α → Option β) (d : β) (h : β → γ) : ∀ l : List α, (((l.map J).filter Option.isSome).map fun o => h (o.getD d)) = (l.filterMap J).map h
  | [] => rfl
  | x :: l => by
    rw [List.map_cons, List.filter_cons, List.filterMap_cons]
    cases J x with
    | none => exact somes_map J d h l
    | some y =>
      show h y :: _ = h y :: _
      rw [← somes_map J d h l]
theorem lcm_dvdL {L g : Int} (g0 : 0 < g) (h : g ∣ L) : lcm1 L g = L := by
  obtain ⟨w, rfl⟩ := h
  unfold lcm1
  have : (Int.gcd (g * w) g : Int) = g := by
    have a : (Int.gcd (g * w) g : Int) ∣ g := Int.gcd_dvd_right _ _
    have b : g ∣ (Int.gcd (g * w) g : Int) := Int.dvd_coe_gcd (Int.dvd_mul_right g w) (Int.dvd_refl g)
    exact Int.dvd_antisymm (by omega) (by omega) a b
  rw [this, Int.mul_ediv_cancel_left _ (by omega), Int.mul_comm]
end M
namespace M
open PySem G SrtT P
theorem row_len (S : Stg) (j g n : Nat) : (rowT S j g n).length ≤ g - n := by
  unfold rowT
  have := List.length_filterMap_le (turnT S j n) (List.range (g - n))
  rwa [List.length_range] at this
theorem company_mean {R : Stg} {f : Int} (h : Good R) (hs : Settled R) {l : List Str} (hf : FolkOk (cellsOf R f) l) (j : Nat) {g : Nat} (hg : greatestOf R f = (g : Int)) :
    l ∈ it j R ↔ ∃ n : Nat, (∀ p x, l[p]? = some x → n + p < g ∧ ringIn (cellsOf R f) x = (((n + p + 1 : Nat) : Int), (f + j - n) % ((n + p + 1 : Nat) : Int))) ∧ (n + l.length = g ∨ (n + l.length + 1 = g ∧ ∀ x, (x, ((g : Int), (f + j - n) % (g : Int))) ∉ cellsOf R f)) := by
  have Rg := rings_of f h.full' hs
  rw [hg, Int.toNat_natCast] at Rg
  have once : ((cellsOf R f).map (·.1)).Nodup := by rw [cells_names]; exact h.once
  have ring_eq : ∀ {x r}, (x, r) ∈ cellsOf R f → ringIn (cellsOf R f) x = r := fun hm => by
    have := (look_iff once).mpr hm
    unfold ringIn
    rw [this]; rfl
  have mem_l : l ∈ it j R ↔ l ≠ [] ∧ ∃ n, n < g ∧ rowT R j g n = l := by
    rw [it_rings Rg j]
    unfold clean arrT
    rw [List.mem_filter, List.mem_map]
    constructor
    · rintro ⟨⟨n, hn, e⟩, ne⟩
      exact ⟨(fun z => by rw [z] at ne; cases ne), n, List.mem_range.mp hn, e⟩
    · rintro ⟨ne, n, hn, e⟩
      refine ⟨⟨n, List.mem_range.mpr hn, e⟩, ?_⟩
      cases l with
      | nil => exact absurd rfl ne
      | cons a b => rfl
  rw [mem_l]
  have ne := hf.ne
  have lp := List.length_pos_iff.mpr ne
  constructor
  · rintro ⟨_, n, hn, e⟩
    have ll := row_len R j g n
    rw [e] at ll
    refine ⟨n, fun p x hx => ?_, ?_⟩
    · have pl := (List.getElem?_eq_some_iff.mp hx).1
      have np : n + p < g := by omega
      rw [← e, row_get Rg np] at hx
      exact ⟨np, ring_eq ((turn_ring (f := f) h.once).mp hx)⟩
    · by_cases z : n + l.length = g
      · exact .inl z
      · have nl : n + l.length < g := by omega
        have tn : turnT R j n l.length = none := by
          rw [← row_get Rg nl, e]
          exact List.getElem?_eq_none (Nat.le_refl _)
        have nk : ¬ n + l.length < rg (total R) := fun y => by
          have := turn_lo Rg (j := j) y
          rw [tn] at this
          cases this
        have kg := Rg.kg
        have eg : n + l.length + 1 = g := by omega
        refine .inr ⟨eg, fun x hx => ?_⟩
        have := (turn_ring (f := f) h.once (j := j) (n := n) (p := l.length) (x := x)).mpr (by rw [eg]; exact hx)
        rw [tn] at this
        cases this
  · rintro ⟨n, h1, h2⟩
    have e0 : l[0]? = some l[0] := List.getElem?_eq_getElem lp
    have hn : n < g := by have := (h1 0 _ e0).1; omega
    refine ⟨ne, n, hn, List.ext_getElem? fun p => ?_⟩
    have rl := row_len R j g n
    by_cases np : n + p < g
    · rw [row_get Rg np]
      by_cases pl : p < l.length
      · have e1 : l[p]? = some l[p] := List.getElem?_eq_getElem pl
        have hm := look_mem (hf.look (List.getElem_mem pl)).1
        rw [(h1 p _ e1).2] at hm
        rw [e1]
        exact (turn_ring (f := f) h.once).mpr hm
      · rw [List.getElem?_eq_none (Nat.le_of_not_lt pl)]
        rcases h2 with z | ⟨z, no⟩
        · omega
        · have ep : p = l.length := by omega
          subst ep
          cases q : turnT R j n l.length with
          | none => rfl
          | some x =>
            have := (turn_ring (f := f) h.once).mp q
            rw [z] at this
            exact absurd this (no x)
    · rw [List.getElem?_eq_none (by omega), List.getElem?_eq_none (by rcases h2 with z | ⟨z, _⟩ <;> omega)]
theorem upI_mem {xs : List Int} {x : Int} : x ∈ upI xs ↔ x ∈ xs := (upI_perm xs).mem_iff
theorem mod_eq_iff {N x y : Int} (h0 : 0 < N) : x % N = y % N ↔ N ∣ x - y := ⟨dvd_of_mod, mod_of_dvd⟩
/-- THE DAYS -/
theorem cdays_mean {c : Crs} {R : Stg} {f : Int} (m : Made c R f) {l : List Str} (hf : FolkOk c.ringBy.l l) (g0 : 0 < c.greatest) (j : Nat) :
    l ∈ it j R ↔ (f + j) % rowEvery c.greatest (l.map (ringIn c.ringBy.l)) ∈ (cdaysF c.greatest (gapsC c) (l.map (ringIn c.ringBy.l))).1 := by
  have hr : ∀ p ∈ l.map (ringIn c.ringBy.l), RingOk p := fun p hp => by
    obtain ⟨n, hn, rfl⟩ := List.mem_map.mp hp
    exact (hf.look hn).2
  have gm := fun r => gaps_mem (c := c) (r := r)
  have hlk := fun {L r : Int} {x : Str} => m.look (L := L) (r := r) (x := x)
  obtain ⟨g, hg⟩ : ∃ g : Nat, c.greatest = (g : Int) := ⟨c.greatest.toNat, by omega⟩
  have hgr : greatestOf R f = (g : Int) := by rw [← m.great, hg]
  have hfR : FolkOk (cellsOf R f) l := by rw [← m.rings]; exact hf
  have key := company_mean m.good m.set_ hfR j hgr
  rw [← m.rings] at key
  have up : ∀ x ∈ l, (ringIn c.ringBy.l x).1 ≤ (g : Int) := fun x hx => by
    have hm := look_mem (hfR.look hx).1
    rw [← m.rings] at hm
    have hm2 : (x, ringIn c.ringBy.l x) ∈ cellsOf R f := by rw [← m.rings]; exact hm
    obtain ⟨n, p, hc, e⟩ := mem_cells.mp hm2
    rw [e, ← hgr]
    exact greatest_up (by rw [hc]; rfl)
  rw [hg] at gm ⊢
  have ne := hf.ne
  have lp := List.length_pos_iff.mpr ne
  generalize hri : ringIn c.ringBy.l = ri at *
  have zl : ((l.map ri).map (·.1)).length = l.length := by rw [List.length_map, List.length_map]
  have at_ : ∀ p, (h : p < l.length) → ((l.map ri).map (·.1)).getD p 0 = (ri l[p]).1 := fun p h => by
    rw [List.getD_eq_getElem?_getD, List.getElem?_map, List.getElem?_map, List.getElem?_eq_getElem h]
    rfl
  rw [key]
  unfold cdaysF
  have len2 : (l.map ri).length = l.length := List.length_map _
  rw [at_ 0 lp, len2, at_ (l.length - 1) (by omega)]
  have cons_iff : (l.map ri).map (·.1) = rng ((ri l[0]).1) l.length ↔ ∀ p, (h : p < l.length) → (ri l[p]).1 = (ri l[0]).1 + (p : Int) := by
    constructor
    · intro e p h
      rw [← at_ p h, e]
      unfold rng
      rw [List.getD_eq_getElem?_getD, List.getElem?_map, List.getElem?_range h]
      rfl
    · intro e
      refine List.ext_getElem? fun p => ?_
      by_cases h : p < l.length
      · unfold rng
        rw [List.getElem?_map, List.getElem?_map, List.getElem?_eq_getElem h, List.getElem?_map, List.getElem?_range h]
        exact congrArg some (e p h)
      · rw [List.getElem?_eq_none (by rw [zl]; omega), List.getElem?_eq_none (by rw [rng_len]; omega)]
  have hmem : ∀ p, (h : p < l.length) → ri l[p] ∈ l.map ri := fun p h => List.mem_map_of_mem (List.getElem_mem h)
  have first_pos := (hr _ (hmem 0 lp)).pos
  have last_le := up _ (List.getElem_mem (show l.length - 1 < l.length by omega))
  -- rings and remainders of a company that is begun on a day
  have meets : ∀ n : Nat, (∀ p x, l[p]? = some x → n + p < g ∧ ri x = (((n + p + 1 : Nat) : Int), (f + j - n) % ((n + p + 1 : Nat) : Int))) ↔ ((ri l[0]).1 = (n : Int) + 1 ∧ (l.map ri).map (·.1) = rng ((ri l[0]).1) l.length ∧ ∀ p ∈ (l.map ri).map flipR, On p (f + j - n)) := by
    intro n
    constructor
    · intro H
      have h0 := (H 0 _ (List.getElem?_eq_getElem lp)).2
      refine ⟨by rw [h0]; show ((n + 0 + 1 : Nat) : Int) = _; omega, cons_iff.mpr fun p h => ?_, fun q hq => ?_⟩
      · rw [(H p _ (List.getElem?_eq_getElem h)).2, h0]
        show ((n + p + 1 : Nat) : Int) = ((n + 0 + 1 : Nat) : Int) + p
        omega
      · obtain ⟨r, hr2, rfl⟩ := List.mem_map.mp hq
        obtain ⟨x, hx, rfl⟩ := List.mem_map.mp hr2
        obtain ⟨p, hp⟩ := List.getElem?_of_mem hx
        rw [(H p x hp).2]
        exact dvd_mod_self _ _
    · rintro ⟨h0, hc, hon⟩ p x hx
      have pl := (List.getElem?_eq_some_iff.mp hx).1
      have ex : l[p] = x := (List.getElem?_eq_some_iff.mp hx).2
      have hs := cons_iff.mp hc p pl
      have on := hon _ (List.mem_map_of_mem (hmem p pl))
      have ok := hr _ (hmem p pl)
      have u := up _ (List.getElem_mem pl)
      rw [← ex]
      generalize ri l[p] = r at *
      obtain ⟨s, t⟩ := r
      have hs : s = (ri l[0]).1 + p := hs
      have u : s ≤ (g : Int) := u
      have on : s ∣ f + j - n - t := on
      have es : s = ((n + p + 1 : Nat) : Int) := by omega
      refine ⟨by omega, ?_⟩
      rw [← es]
      congr 1
      have := mod_of_dvd on
      rw [this, Int.emod_eq_of_lt ok.nn ok.lt]
  have first_nat : ∀ n : Nat, (ri l[0]).1 = (n : Int) + 1 → (n : Int) = (ri l[0]).1 - 1 := fun n h => by omega
  cases hq : allJ ((l.map ri).map flipR) with
  | none =>
    simp only [List.not_mem_nil, iff_false]
    rintro ⟨n, H, _⟩
    obtain ⟨_, _, on⟩ := (meets n).mp H
    have pos : ∀ p ∈ (l.map ri).map flipR, 0 < p.2 := fun p hp => by
      obtain ⟨q, hq2, rfl⟩ := List.mem_map.mp hp
      exact (hr q hq2).pos
    exact joinL_none (f := (0, 1)) (by decide) (by decide) (by decide) pos hq (f + j - n) ⟨⟨f + j - n, by simp⟩, on⟩
  | some fd =>
    obtain ⟨f0, f1, f2, f3, fo⟩ := allJ_some (fun p hp => by
      obtain ⟨q, hq2, rfl⟩ := List.mem_map.mp hp
      exact (hr q hq2).pos) hq
    have fl : fd.2 = lcmL ((l.map ri).map (·.1)) := by
      rw [f1, List.map_map]
      rfl
    have ev : rowEvery (g : Int) (l.map ri) = lcm1 fd.2 (g : Int) := by
      unfold rowEvery
      rw [fl]
      unfold lcmL
      rw [List.foldl_append]
      rfl
    have gp : (0 : Int) < (g : Int) := by omega
    have ev0 : 0 < rowEvery (g : Int) (l.map ri) := by rw [ev]; exact lcm1_pos f0 gp
    simp only
    by_cases q1 : (l.map ri).map (·.1) = rng ((ri l[0]).1) l.length
    · rw [if_neg (by simp [q1])]
      obtain ⟨n, hn⟩ : ∃ n : Nat, (ri l[0]).1 = (n : Int) + 1 := ⟨((ri l[0]).1 - 1).toNat, by omega⟩
      have hlast := cons_iff.mp q1 (l.length - 1) (by omega)
      have uniq : ∀ n' : Nat, (ri l[0]).1 = (n' : Int) + 1 → n' = n := fun n' h => by omega
      by_cases q2 : (ri l[l.length - 1]).1 = (g : Int)
      · rw [if_pos q2]
        have e2 : rowEvery (g : Int) (l.map ri) = fd.2 := by
          rw [ev]
          refine lcm_dvdL gp ?_
          rw [fl]
          refine (dvd_lcm_of ((l.map ri).map (·.1)) 1 (by decide) fun n hn => by
            obtain ⟨p, hp, rfl⟩ := List.mem_map.mp hn
            exact (hr p hp).pos).2 _ ?_
          rw [← q2]
          exact List.mem_map_of_mem (hmem _ (by omega))
        rw [List.mem_singleton, mod_eq_iff ev0, e2]
        constructor
        · rintro ⟨n', H, _⟩
          obtain ⟨a, _, on⟩ := (meets n').mp H
          have := uniq n' a
          subst this
          have := (fo _).mpr on
          have this : fd.2 ∣ f + j - n' - fd.1 := this
          rwa [show f + (j : Int) - (fd.1 + (ri l[0]).1 - 1) = f + j - n' - fd.1 by omega]
        · intro H
          refine ⟨n, (meets n).mpr ⟨hn, q1, (fo _).mp ?_⟩, .inl (by omega)⟩
          show fd.2 ∣ f + j - n - fd.1
          rwa [show f + (j : Int) - (fd.1 + (ri l[0]).1 - 1) = f + j - n - fd.1 by omega] at H
      · rw [if_neg q2]
        by_cases q3 : (ri l[l.length - 1]).1 < (g : Int) - 1
        · rw [if_pos q3]
          simp only [List.not_mem_nil, iff_false]
          rintro ⟨n', H, H2⟩
          obtain ⟨a, _, _⟩ := (meets n').mp H
          have := uniq n' a
          subst this
          rcases H2 with z | ⟨z, _⟩ <;> omega
        · rw [if_neg q3]
          have lg : (ri l[l.length - 1]).1 = (g : Int) - 1 := by omega
          have nl : n + l.length + 1 = g := by omega
          rw [upI_mem, List.mem_map]
          constructor
          · rintro ⟨n', H, H2⟩
            obtain ⟨a, _, on⟩ := (meets n').mp H
            have := uniq n' a
            subst this
            rcases H2 with z | ⟨_, no⟩
            · omega
            have rn := Int.emod_nonneg (f + j - n') (show (g : Int) ≠ 0 by omega)
            have rl := Int.emod_lt_of_pos (f + j - n') gp
            have gapm : (f + j - n') % (g : Int) ∈ gapsC c := (gm _).mpr ⟨⟨rn, rl⟩, by
              cases q : look c.nameBy.l ((g : Int), (f + j - n') % (g : Int)) with
              | none => rfl
              | some x =>
                have hx := hlk.mp q
                exact absurd (show (x, ((g : Int), (f + j - n') % (g : Int))) ∈ c.ringBy.l by rw [m.rings]; exact hx) (no x)⟩
            have o1 := (fo _).mpr on
            have o2 : On ((f + j - n') % (g : Int), (g : Int)) (f + j - n') := dvd_mod_self _ _
            cases hj : joinF fd ((f + j - n') % (g : Int), (g : Int)) with
            | none => exact absurd ⟨o1, o2⟩ (join_none hj _)
            | some p =>
              obtain ⟨p0, p1, p2, p3, po⟩ := join_some f0 gp hj
              refine ⟨p, List.mem_filterMap.mpr ⟨_, gapm, hj⟩, ?_⟩
              have e2 : p.2 = rowEvery (g : Int) (l.map ri) := by rw [ev]; exact p1
              rw [eq_comm, mod_eq_iff ev0, ← e2]
              have := (po _).mpr ⟨o1, o2⟩
              have this : p.2 ∣ f + j - n' - p.1 := this
              rwa [show f + (j : Int) - (p.1 + (ri l[0]).1 - 1) = f + j - n' - p.1 by omega]
          · rintro ⟨p, hp, e⟩
            obtain ⟨r, hr2, hj⟩ := List.mem_filterMap.mp hp
            obtain ⟨p0, p1, p2, p3, po⟩ := join_some f0 gp hj
            have e2 : p.2 = rowEvery (g : Int) (l.map ri) := by rw [ev]; exact p1
            rw [eq_comm, mod_eq_iff ev0, ← e2] at e
            rw [show f + (j : Int) - (p.1 + (ri l[0]).1 - 1) = f + j - n - p.1 by omega] at e
            obtain ⟨o1, o2⟩ := (po (f + j - n)).mp e
            obtain ⟨⟨r0, r1⟩, rn⟩ := (gm r).mp hr2
            refine ⟨n, (meets n).mpr ⟨hn, q1, (fo _).mp o1⟩, .inr ⟨nl, fun x hx => ?_⟩⟩
            have o2 : (g : Int) ∣ f + j - n - r := o2
            have er : (f + j - n) % (g : Int) = r := by
              rw [mod_of_dvd o2, Int.emod_eq_of_lt r0 r1]
            rw [er] at hx
            have := hlk.mpr (show (x, ((g : Int), r)) ∈ cellsOf R f by rw [← m.rings]; exact hx)
            rw [rn] at this
            cases this
    · rw [if_pos q1]
      simp only [List.not_mem_nil, iff_false]
      rintro ⟨n, H, _⟩
      exact q1 ((meets n).mp H).2.1
end M
namespace M
open PySem G
theorem named_eq {S : Stg} (f : Int) (h : (folk S).Nodup) : ((cellsOf S f).map fun b => (b.2, b.1)).foldl (fun l q => put l q.1 q.2) [] = (cellsOf S f).map fun b => (b.2, b.1) := by
  have e2 := fold_put_new (fun b : Str × (Int × Int) => b.2) (fun b => b.1) (cellsOf S f) [] (by rw [List.map_nil, List.nil_append]; exact cells_nodup f h)
  rw [List.nil_append] at e2
  rw [List.foldl_map]
  exact e2
/-- who has ring L, told by the day and the company's number -/
theorem look_turn {S : Stg} {f : Int} (h : (folk S).Nodup) (j n p : Nat) : look ((cellsOf S f).map fun b => (b.2, b.1)) (((n + p + 1 : Nat) : Int), (f + j - n) % ((n + p + 1 : Nat) : Int)) = turnT S j n p := by
  have := look_name (f := f) h (show 0 < n + p + 1 by omega) (f + j - n)
  rw [this]
  unfold turnT back
  rw [show f - (f + (j : Int) - (n : Int)) = (n : Int) - j by omega, show n + p + 1 - 1 = n + p by omega]
theorem cells_few {S : Stg} (f : Int) (h : Good S) : (cellsOf S f).length ≤ 450 := by
  have := congrArg List.length (cells_names S f)
  rw [List.length_map] at this
  rw [this]; exact h.few
theorem turn_mem {S : Stg} {j n p : Nat} {x : Str} (h : turnT S j n p = some x) : x ∈ folk S := by
  unfold turnT at h
  obtain ⟨c, h1, h2⟩ := cell_iff.mp h
  exact folk_mem.mpr ⟨c, List.mem_of_getElem? h1, List.mem_of_getElem? h2⟩
theorem Good.nameOk {S : Stg} (h : Good S) {x : Str} (m : x ∈ folk S) : isName x = true := by
  obtain ⟨c, h1, h2⟩ := folk_mem.mp m
  exact h.names c h1 x h2
theorem greatest_few {S : Stg} (f : Int) (h : Good S) : greatestOf S f ≤ 450 := by
  rcases greatest_at S f with e | ⟨n, p, hc, e⟩
  · omega
  · have h1 := cell_lt h.full' hc
    rw [← folk_total] at h1
    have := h.few
    omega
end M
namespace L
open PySem PySem.Spec PyProof.Rows L2 G M P
section
variable {P : Program} {w : World} {K : PySem.W.Frag} {mg : Str → Option Value} {base : Heap}
def r_lfar : DE → Stg → DE → Prop := fun Γ x Γ' => ∃ (S : Stg) (f : Int) (j : Nat), Good S ∧ Settled S ∧ Γ = [.is (⟨cellsOf S f⟩ : Dk Str (Int × Int)), .is (f + j)] ∧ x = it j S ∧ Γ' = Γ
theorem can_lfar (T : Txt K mg) : Can P w K mg base CX0 1 "_law_far" ps__law_far [] (spM K (sh Stg) 2 r_lfar) := by
  refine canD T.d__law_far sc__law_far b__law_far fun cdv A outer s0 H E Γ x Γ' hr hR => ?_
  obtain ⟨S, f, j, hG, hS, rfl, rfl, rfl⟩ := hR
  have nd := sc__law_far.nd
  have hu : A.units + 3 + 64 < cLine := hr.units
  have hc4 := cells_few f hG
  have hcz : (cellsOf S f).length < sizeLine := by rw [sizeLine_eq]; omega
  have g0 := greatest_nn S f
  have g1 := greatest_few f hG
  have R := rings_of f hG.full' hS
  refine sd_set 2 (px_dictT T.n_dict (show A.units + 3 + 2 < cLine by omega) (px_frz (px_lockK 0 mdLk_nw trivial fun ad od => px_lc (own := [("_law_name_here", 8), ("_law_ring", 9)]) [8, 9] (it_items 0) nd hcz (f := fun y : Str × (Int × Int) => (y.2, y.1)) (Γt := fun y => ([.res (.lkK ad od (cellsOf S f)), .is (f + (j : Int)), .no, .no, .no, .no, .no, .no, .is y.1, .is y.2] : DE))
    (fun y hy s H0 C cl fp => gx_t2 (gx_name 8 nd) (gx_name 9 nd)) fun y hy s H0 C cl fp => px_t2 (px_var 9) (px_var 8)))) ?_ nd
  rw [named_eq f hG.once]
  generalize hN : (cellsOf S f).map (fun b => (b.2, b.1)) = named
  have hNl : named.length < sizeLine := by rw [← hN, List.length_map]; exact hcz
  have heads : named.map (fun x => x.1.1) = (cellsOf S f).map fun b => b.2.1 := by rw [← hN, List.map_map]; rfl
  refine sd_set 3 (px_maxL (M := greatestOf S f) T.n_max (PX.nb (px_cat (px_frz (px_lst (xs := ([0] : List Int)) (lx_cons px_int lx_nil))) (px_frz (px_headsT (d := ⟨named⟩) [("_law_ring", 9)] 2 9 nd trivial hNl (Nat.le_of_ble_eq_true rfl) rfl)) ?_)) ?_ ?_) ?_ nd
  · rw [List.length_map, sizeLine_eq]
    rw [sizeLine_eq] at hNl
    have : named.length = (cellsOf S f).length := by rw [← hN, List.length_map]
    simp only [List.length_cons, List.length_nil]
    omega
  · rw [heads]
    rcases greatest_at S f with e | ⟨n, p, hc, e⟩
    · rw [e]; simp
    · obtain ⟨x, hx⟩ := Option.isSome_iff_exists.mp hc
      rw [e]
      exact List.mem_append_right _ (List.mem_map.mpr ⟨(x, ((n : Int) + p + 1, (f - n) % ((n : Int) + p + 1))), mem_cells.mpr ⟨n, p, hx, rfl⟩, rfl⟩)
  · intro m hm
    rw [heads] at hm
    rcases List.mem_append.mp hm with hm | hm
    · rw [List.mem_singleton.mp hm]; exact g0
    · obtain ⟨⟨x, k⟩, hb, rfl⟩ := List.mem_map.mp hm
      obtain ⟨n, p, hc, rfl⟩ := mem_cells.mp hb
      exact greatest_up (f := f) (show (cell S n p).isSome by rw [hc]; rfl)
  obtain ⟨g, hg⟩ : ∃ g : Nat, greatestOf S f = (g : Int) := ⟨(greatestOf S f).toNat, by omega⟩
  rw [hg] at R g0 g1 ⊢
  rw [Int.toNat_natCast] at R
  refine sd_setO 4 (px_lst (α := List Str) lx_nil) (fun a4 => ?_) nd
  refine sd_for (ts := [5]) (N := fun Γ' => Γ' = ([.is (⟨cellsOf S f⟩ : Dk Str (Int × Int)), .is (f + (j : Int)), .is (⟨named⟩ : Dt Str), .is (g : Int), .own a4 (clean (arrT S j g)), .no, .no, .no, .no, .no] : DE)) (it_range1 T.n_range (px_var 3) (by omega) (by omega))
    (fun i Γ' => Γ' = ([.is (⟨cellsOf S f⟩ : Dk Str (Int × Int)), .is (f + (j : Int)), .is (⟨named⟩ : Dt Str), .is (g : Int), .own a4 (clean ((List.range i).map (rowT S j g))), .no, .no, .no, .no, .no] : DE)) rfl (fun i n Γ' hn e => ?_) (fun Γ' e => ?_) (fun Γ' e => ?_)
  · subst e
    obtain ⟨hi, rfl⟩ := rng_get hn
    rw [Int.toNat_natCast] at hi
    rw [Int.zero_add]
    refine ⟨_, gx_name 5 nd, ?_⟩
    refine sd_setO 6 (px_lst (α := Str) lx_nil) (fun a6 => ?_) nd
    have e1 : (List.range (i + 1)).map (rowT S j g) = (List.range i).map (rowT S j g) ++ [rowT S j g i] := by rw [List.range_succ, List.map_append]; rfl
    refine sd_for (ts := [7]) (N := fun Γ' => Γ' = ([.is (⟨cellsOf S f⟩ : Dk Str (Int × Int)), .is (f + (j : Int)), .is (⟨named⟩ : Dt Str), .is (g : Int), .own a4 (clean ((List.range i).map (rowT S j g))), .is (i : Int), .own a6 (rowT S j g i), .no, .no, .no] : DE)) (it_range2 T.n_range (px_add (px_var 5) px_int) (px_add (px_var 3) px_int) ⟨by omega, by omega, by omega, by omega⟩)
      (fun q Γ' => Γ' = ([.is (⟨cellsOf S f⟩ : Dk Str (Int × Int)), .is (f + (j : Int)), .is (⟨named⟩ : Dt Str), .is (g : Int), .own a4 (clean ((List.range i).map (rowT S j g))), .is (i : Int), .own a6 ((List.range q).filterMap (turnT S j i)), .no, .no, .no] : DE)) rfl (fun q L Γ' hL e => ?_) (fun Γ' e => ?_) (fun Γ' e => ?_)
    · subst e
      obtain ⟨hq, rfl⟩ := rng_get hL
      have hL2 : (i : Int) + 1 + (q : Int) = ((i + q + 1 : Nat) : Int) := by omega
      rw [hL2]
      refine ⟨_, gx_name 7 nd, ?_⟩
      have lk := look_turn (f := f) hG.once j i q
      rw [hN] at lk
      refine sd_set 8 (px_dget1T (show A.units + 3 + 1 < cLine by omega) (px_var 2) (px_t2 (px_var 7) (px_mod (px_sub (px_var 1) (px_var 5)) (px_var 7) (by omega)))) ?_ nd
      rw [show look ((⟨named⟩ : Dt Str).l) (((i + q + 1 : Nat) : Int), (f + (j : Int) - (i : Int)) % ((i + q + 1 : Nat) : Int)) = turnT S j i q from lk]
      have e2 : (List.range (q + 1)).filterMap (turnT S j i) = (List.range q).filterMap (turnT S j i) ++ (match turnT S j i q with | none => [] | some y => [y]) := by
        rw [List.range_succ, List.filterMap_append, List.filterMap_cons, List.filterMap_nil]
        cases turnT S j i q <;> rfl
      have hz : ((List.range q).filterMap (turnT S j i)).length < sizeLine := by
        have := List.length_filterMap_le (turnT S j i) (List.range q)
        rw [List.length_range] at this
        rw [sizeLine_eq]
        have : q ≤ 500 := by omega
        omega
      cases hx : turnT S j i q with
      | none =>
        rw [hx] at e2
        refine sd_if (tx_cmp (cr_notN fun h e => by rw [e] at h; cases h) (px_var (x := (none : Option Str)) 8) px_non) (fun h => by cases h) (fun h => sd_nil (sd_nil ⟨_, ?_, rfl⟩))
        rw [e2, List.append_nil]
        exact .same (.same (.same (.same (.same (.same (.same (.no (.no (.same .nil)))))))))
      | some y =>
        rw [hx] at e2
        refine sd_if (tx_cmp (cr_notN fun h e => by rw [e] at h; cases h) (px_var (x := some y) 8) px_non) (fun h => ?_) (fun h => by cases h)
        refine sd_append 6 (px_unsome (px_var (x := some y) 8)) rfl hz (sd_nil (sd_nil ⟨_, ?_, rfl⟩))
        rw [e2]
        exact .same (.same (.same (.same (.same (.same (.same (.no (.no (.same .nil)))))))))
    · rw [e, rng_len]
      unfold rowT
      rw [show ((g : Int) + 1 - ((i : Int) + 1)).toNat = g - i by omega]
    · subst e
      have fine : ∀ z ∈ rowT S j g i, De.good z := fun z hz => by
        unfold rowT at hz
        obtain ⟨p, _, hp⟩ := List.mem_filterMap.mp hz
        exact (isName_ok (hG.nameOk (turn_mem hp))).2
      have hcl : (clean ((List.range i).map (rowT S j g))).length < sizeLine := by
        have := List.length_filter_le (fun c : List Str => !c.isEmpty) ((List.range i).map (rowT S j g))
        rw [List.length_map, List.length_range] at this
        unfold clean
        rw [sizeLine_eq]; omega
      have ec : clean ((List.range (i + 1)).map (rowT S j g)) = clean ((List.range i).map (rowT S j g)) ++ clean [rowT S j g i] := by rw [e1, clean_append]
      refine sd_if (tx_neNil hu (px_ownB 6) fine) (fun h => ?_) (fun h => ?_)
      · have h : rowT S j g i ≠ [] := by simpa using h
        refine sd_append 4 (px_take 6) rfl hcl (sd_nil (sd_nil ⟨_, ?_, rfl⟩))
        have e3 : clean [rowT S j g i] = [rowT S j g i] := clean_full fun c hc => by rw [List.mem_singleton.mp hc]; exact h
        rw [ec, e3]
        exact .same (.same (.same (.same (.same (.no (.no (.same (.same (.same .nil)))))))))
      · have h : rowT S j g i = [] := by simpa using h
        refine sd_nil (sd_nil ⟨_, ?_, rfl⟩)
        have e3 : clean [rowT S j g i] = [] := by rw [h]; rfl
        rw [ec, e3, List.append_nil]
        exact .same (.same (.same (.same (.same (.no (.no (.same (.same (.same .nil)))))))))
  · rw [e, rng_len, Int.toNat_natCast]; rfl
  · subst e
    rw [it_rings R j]
    exact sd_ret (px_take 4) ⟨rfl, .is (.is .nil)⟩
end
end L
namespace M
open PySem G SrtT P
theorem lcm_fold_swap {g : Int} {ns : List Int} (g0 : 0 < g) (hn : ∀ n ∈ ns, 0 < n) : ns.foldl lcm1 g = lcm1 (lcmL ns) g := by
  have l0 : 0 < lcmL ns := lcmL_pos hn 1 (by decide)
  have a0 : 0 < ns.foldl lcm1 g := lcmL_pos hn g g0
  have b0 : 0 < lcm1 (lcmL ns) g := lcm1_pos l0 g0
  obtain ⟨d1, d2⟩ := dvd_lcm_of ns g g0 hn
  obtain ⟨_, e2⟩ := dvd_lcm_of ns 1 (by decide) hn
  have gl : lcmL ns ∣ lcm1 (lcmL ns) g ∧ g ∣ lcm1 (lcmL ns) g := by
    rw [lcm1_eq l0 g0]
    exact ⟨Int.dvd_lcm_left _ _, Int.dvd_lcm_right _ _⟩
  refine Int.dvd_antisymm (by omega) (by omega) ?_ ?_
  · exact lcm_dvd_of ns g g0 gl.2 fun n hn2 => ⟨hn n hn2, Int.dvd_trans (e2 n hn2) gl.1⟩
  · have := lcm_dvd_of [g] (lcmL ns) l0 (N := ns.foldl lcm1 g) (lcm_dvd_of ns 1 (by decide) (Int.one_dvd _) fun n h => ⟨hn n h, d2 n h⟩) fun n h => by rw [List.mem_singleton.mp h]; exact ⟨g0, d1⟩
    exact this
theorem every_eq {g : Int} {rs : List (Int × Int)} (g0 : 0 < g) (hr : ∀ p ∈ rs, RingOk p) : (rs.map (·.1)).foldl lcm1 g = rowEvery g rs := by
  have hn : ∀ n ∈ rs.map (·.1), 0 < n := fun n hn => by
    obtain ⟨p, hp, rfl⟩ := List.mem_map.mp hn
    exact (hr p hp).pos
  rw [lcm_fold_swap g0 hn]
  unfold rowEvery lcmL
  rw [List.foldl_append]
  rfl
theorem allJ_more {rs : List (Int × Int)} {f : Int × Int} (h : allJ (rs.map flipR) = some f) (g r : Int) : allJ ((rs ++ [(g, r)]).map flipR) = joinF f (r, g) := by
  unfold allJ at h ⊢
  rw [List.map_append, joinL_app, h]
  show joinL [(r, g)] f = _
  unfold joinL
  cases joinF f (r, g) <;> rfl
theorem nd_false {p : Prop} [Decidable p] (h : (!decide p) = false) : p := by simpa using h
theorem nd_true {p : Prop} [Decidable p] (h : (!decide p) = true) : ¬ p := by simpa using h
/-- the empty remainders -/
theorem gaps_taken {c : Crs} {R : Stg} {f : Int} (m : Made c R f) : (rng 0 c.greatest.toNat).filter (fun r => !decide (r ∈ (((c.ringBy.l.map (·.2)).filter fun k => decide (k.1 = c.greatest)).map (·.2)))) = gapsC c := by
  unfold gapsC
  refine List.filter_congr fun r _ => ?_
  have key : (r ∈ (((c.ringBy.l.map (·.2)).filter fun k => decide (k.1 = c.greatest)).map (·.2))) ↔ (look c.nameBy.l (c.greatest, r)).isSome = true := by
    constructor
    · intro h
      obtain ⟨k, hk, e⟩ := List.mem_map.mp h
      obtain ⟨h1, h2⟩ := List.mem_filter.mp hk
      obtain ⟨q, hq, e2⟩ := List.mem_map.mp h1
      have h2 := of_decide_eq_true h2
      obtain ⟨x, k2⟩ := q
      simp only at e2
      subst e2
      obtain ⟨a, b⟩ := k2
      simp only at e h2
      subst e h2
      have := (m.look (L := c.greatest) (r := b) (x := x)).mpr (by rw [← m.rings]; exact hq)
      rw [this]; rfl
    · intro h
      cases q : look c.nameBy.l (c.greatest, r) with
      | none => rw [q] at h; cases h
      | some x =>
        have := m.look.mp q
        rw [← m.rings] at this
        exact List.mem_map.mpr ⟨(c.greatest, r), List.mem_filter.mpr ⟨List.mem_map.mpr ⟨_, this, rfl⟩, by simp⟩, rfl⟩
  rw [show decide (r ∈ (((c.ringBy.l.map (·.2)).filter fun k => decide (k.1 = c.greatest)).map (·.2))) = (look c.nameBy.l (c.greatest, r)).isSome by rw [Bool.eq_iff_iff, decide_eq_true_iff, key]]
theorem great_in {c : Crs} {R : Stg} {f : Int} (m : Made c R f) (h : 0 < c.greatest) : c.greatest ∈ (c.ringBy.l.map (·.2)).map (·.1) ∧ ∀ n ∈ (c.ringBy.l.map (·.2)).map (·.1), n ≤ c.greatest := by
  rw [m.great] at h ⊢
  rw [m.rings]
  constructor
  · rcases greatest_at R f with e | ⟨n, p, hc, e⟩
    · omega
    · obtain ⟨x, hx⟩ := Option.isSome_iff_exists.mp hc
      rw [e]
      exact List.mem_map.mpr ⟨_, List.mem_map.mpr ⟨_, mem_cells.mpr ⟨n, p, hx, rfl⟩, rfl⟩, rfl⟩
  · intro n hn
    obtain ⟨k, hk, rfl⟩ := List.mem_map.mp hn
    obtain ⟨q, hq, rfl⟩ := List.mem_map.mp hk
    obtain ⟨x, k2⟩ := q
    obtain ⟨n2, p2, hc, e⟩ := mem_cells.mp hq
    show k2.1 ≤ _
    rw [e]
    exact greatest_up (by rw [hc]; rfl)
end M
namespace L
open PySem PySem.Spec PyProof.Rows L2 G M P SrtT
open Rp (rp)
section
variable {P : Program} {w : World} {K : PySem.W.Frag} {mg : Str → Option Value} {base : Heap}
def r_ldueC : DE → List Int × Int → DE → Prop := fun Γ x Γ' => ∃ (c : Crs) (R : Stg) (f : Int) (l : List Str) (d : List (Str × (Int × Int))) (ad : Addr) (od : Obj), Made c R f ∧ CrsOk c ∧ 0 < c.greatest ∧ c.ringBy.l = d ∧ d.length ≤ 450 ∧ FolkOk d l ∧ Γ = [.is l, .res (.lkK ad od d)] ∧ x = cdaysF c.greatest (gapsC c) (l.map (ringIn d)) ∧ Γ' = Γ
theorem can_ldueC (T : Txt K mg) : Can P w K mg base CX0 3 "_law_due" ps__law_due [] (spM K (sh (List Int × Int)) 2 r_ldueC) := by
  refine canD T.d__law_due sc__law_due b__law_due fun cdv A outer s H E Γ x Γ' hr hR => ?_
  obtain ⟨c, R, f, l, d, ad, od, mk, cok, g0, hd, dl, hf, rfl, rfl, rfl⟩ := hR
  have nd := sc__law_due.nd
  have hu : A.units + 3 + 64 < cLine := hr.units
  have notN : ∀ {F : Hp} {v : V} {y : Int × Int}, rp K F v y → v ≠ .non := fun h e => by obtain ⟨_, _, _, e2, _⟩ := h; rw [e2] at e; cases e
  have gin := great_in mk g0
  have gt := gaps_taken mk
  have g1 := cok.g1
  rw [hd] at gin gt
  have hfew := hf.few
  have ne := hf.ne
  have lp := List.length_pos_iff.mpr ne
  have hrs : ∀ p ∈ l.map (ringIn d), RingOk p := fun p hp => by
    obtain ⟨n, hn, rfl⟩ := List.mem_map.mp hp
    exact (hf.look hn).2
  have ev := every_eq g0 hrs
  have szp : ∀ n ∈ (l.map (ringIn d)).map (·.1), 0 < n := fun n hn => by
    obtain ⟨p, hp, rfl⟩ := List.mem_map.mp hn
    exact (hrs p hp).pos
  have ev0 : 0 < rowEvery c.greatest (l.map (ringIn d)) := by
    rw [← ev]
    exact lcmL_pos szp _ g0
  have fitR : d.length < sizeLine := by rw [sizeLine_eq]; omega
  refine sd_set 2 (px_maxL T.n_max (PX.nb (px_lc (own := [("_law_ring", 13)]) [13] (it_values (xs := d) 1) nd (by rw [List.length_map]; exact fitR) (f := fun k : Int × Int => k.1) (Γt := fun k => ([.is l, .res (.lkK ad od d), .no, .no, .no, .no, .no, .no, .no, .no, .no, .no, .no, .is k] : DE)) (fun k hk s H0 C cl fp => gx_name 13 nd) fun k hk s H0 C cl fp => px_fst (px_var (x := k) 13) px_int)) gin.1 gin.2) ?_ nd
  refine sd_set 3 (px_var (x := c.greatest) 2) ?_ nd
  have dat : ∀ {n : Str}, n ∈ l → look d n = some (ringIn d n) ∧ RingOk (ringIn d n) := fun hn => hf.look hn
  refine sd_for (ts := [4]) (N := fun Γ' => Wk Γ' ([.is l, .res (.lkK ad od d), .is c.greatest, .is (rowEvery c.greatest (l.map (ringIn d))), .no, .no, .no, .no, .no, .no, .no, .no, .no, .no] : DE)) (it_list (px_var (x := l) 0))
    (fun i Γ' => ∃ e4, Γ' = ([.is l, .res (.lkK ad od d), .is c.greatest, .is ((((l.take i).map (ringIn d)).map (·.1)).foldl lcm1 c.greatest), e4, .no, .no, .no, .no, .no, .no, .no, .no, .no] : DE)) ⟨_, rfl⟩ (fun i n Γ' hn hi => ?_) (fun Γ' hi => ?_) (fun Γ' wk0 => sd_wk wk0 ?_)
  · obtain ⟨e4, rfl⟩ := hi
    have hm := List.mem_of_getElem? hn
    obtain ⟨k1, k2⟩ := dat hm
    have s0 := k2.pos
    have s1 := k2.few
    have szi : ∀ n ∈ ((l.take i).map (ringIn d)).map (·.1), 0 < n := fun n hn => by
      obtain ⟨p, hp, rfl⟩ := List.mem_map.mp hn
      obtain ⟨x, hx, rfl⟩ := List.mem_map.mp hp
      exact (dat (List.mem_of_mem_take hx)).2.pos
    have e0 : 0 < (((l.take i).map (ringIn d)).map (·.1)).foldl lcm1 c.greatest := lcmL_pos szi _ g0
    have tk : l.take (i + 1) = l.take i ++ [n] := by rw [List.take_add_one, hn]; rfl
    rw [tk, List.map_append, List.map_append, List.foldl_append]
    generalize (((l.take i).map (ringIn d)).map (·.1)).foldl lcm1 c.greatest = e at *
    refine ⟨_, gx_name 4 nd, ?_⟩
    have gc0 : 0 < (Int.gcd e (ringIn d n).1 : Int) := by
      have := Int.gcd_pos_of_ne_zero_left (ringIn d n).1 (show e ≠ 0 by omega)
      omega
    have gc1 : (Int.gcd e (ringIn d n).1 : Int) < 2 ^ 62 := by
      have := Int.le_of_dvd s0 (Int.gcd_dvd_right e (ringIn d n).1)
      omega
    refine sd_set 3 (px_mulR (px_div (px_var (x := e) 3) (px_c ((can_lcommon2 T).mono (by decide)) hr (ax_cons (px_var (x := e) 3) (ax_cons (px_fst (px_dat (show A.units + 3 + 1 < cLine by omega) (px_see (x := (⟨d⟩ : Dk Str (Int × Int))) 1 see_lkK) (px_var (x := n) 4) k1) px_int) ax_nil)) ⟨e, (ringIn d n).1, by omega, by omega, rfl, rfl, rfl⟩ defOk_nil) (div_ok gc0 gc1)) (px_fst (px_dat (show A.units + 3 + 1 < cLine by omega) (px_see (x := (⟨d⟩ : Dk Str (Int × Int))) 1 see_lkK) (px_var (x := n) 4) k1) px_int) ⟨by omega, by omega⟩) (sd_nil ⟨_, Wk.refl, .is n, rfl⟩) nd
  · obtain ⟨e4, rfl⟩ := hi
    rw [List.take_length, ev]
    exact .same (.same (.same (.same (.no (.no (.no (.no (.no (.no (.no (.no (.no (.no .nil)))))))))))))
  have z0 : atI l 0 = some l[0] := ll_nat (n := 0) (List.getElem?_eq_getElem lp)
  have zN : atI l (-1) = some l[l.length - 1] := atI_last (List.getElem?_eq_getElem (by omega))
  obtain ⟨f1, f2⟩ := dat (List.getElem_mem lp)
  obtain ⟨n1, n2⟩ := dat (List.getElem_mem (show l.length - 1 < l.length by omega))
  have at_ : ∀ p, (h : p < l.length) → ((l.map (ringIn d)).map (·.1)).getD p 0 = (ringIn d l[p]).1 := fun p h => by
    rw [List.getD_eq_getElem?_getD, List.getElem?_map, List.getElem?_map, List.getElem?_eq_getElem h]
    rfl
  unfold cdaysF
  rw [at_ 0 lp, show (l.map (ringIn d)).length = l.length from List.length_map _, at_ (l.length - 1) (by omega)]
  have lastle : (ringIn d l[l.length - 1]).1 ≤ c.greatest := gin.2 _ (List.mem_map.mpr ⟨_, List.mem_map.mpr ⟨_, look_mem n1, rfl⟩, rfl⟩)
  have hz : l.length < sizeLine := by rw [sizeLine_eq]; omega
  refine sd_set 5 (px_fst (px_dat (show A.units + 3 + 1 < cLine by omega) (px_see (x := (⟨d⟩ : Dk Str (Int × Int))) 1 see_lkK) (px_ix (px_var (x := l) 0) px_int z0) f1) px_int) ?_ nd
  refine sd_set 6 (px_c ((can_lmeeting T).mono (by decide)) hr (ax_cons (px_frz (px_lc (own := [("_law_name_here", 4)]) [4] (it_list (px_var (x := l) 0)) nd hz (f := ringIn d) (Γt := fun n => ([.is l, .res (.lkK ad od d), .is c.greatest, .is (rowEvery c.greatest (l.map (ringIn d))), .is n, .is (ringIn d l[0]).1, .no, .no, .no, .no, .no, .no, .no, .no] : DE))
    (fun n hn s H0 C cl fp => gx_name 4 nd) fun n hn s H0 C cl fp => px_dat (show A.units + 3 + 1 < cLine by omega) (px_see (x := (⟨d⟩ : Dk Str (Int × Int))) 1 see_lkK) (px_var (x := n) 4) (dat hn).1)) ax_nil) ⟨l.map (ringIn d), hrs, rfl, rfl, rfl⟩ defOk_nil) ?_ nd
  refine sd_setLcG 7 (lcx_eq (by rw [List.map_map]; rfl) (lcx (own := [("_law_name_here", 4)]) [4] (it_list (px_var (x := l) 0)) nd hz (f := fun n => (ringIn d n).1) (Γt := fun n => ([.is l, .res (.lkK ad od d), .is c.greatest, .is (rowEvery c.greatest (l.map (ringIn d))), .is n, .is (ringIn d l[0]).1, .is (allJ ((l.map (ringIn d)).map flipR)), .no, .no, .no, .no, .no, .no, .no] : DE))
    (fun n hn s H0 C cl fp => gx_name 4 nd) fun n hn s H0 C cl fp => px_fst (px_dat (show A.units + 3 + 1 < cLine by omega) (px_see (x := (⟨d⟩ : Dk Str (Int × Int))) 1 see_lkK) (px_var (x := n) 4) (dat hn).1) px_int)) (ys := (l.map (ringIn d)).map (·.1)) ?_
  have s0 := f2.pos
  have s1 := f2.few
  have t1 := n2.few
  have rsl : (l.map (ringIn d)).length = l.length := List.length_map _
  have zl : ((l.map (ringIn d)).map (·.1)).length = l.length := by rw [List.length_map, rsl]
  have meetD : ∀ fd, allJ ((l.map (ringIn d)).map flipR) = some fd → ∀ r, allJ ((l.map (ringIn d) ++ [(c.greatest, r)]).map flipR) = joinF fd (r, c.greatest) := fun fd h r => allJ_more h _ _
  obtain ⟨first, hfirst⟩ : ∃ first, (ringIn d l[0]).1 = first := ⟨_, rfl⟩
  obtain ⟨last, hlast⟩ : ∃ last, (ringIn d l[l.length - 1]).1 = last := ⟨_, rfl⟩
  rw [hfirst] at s0 s1 ⊢
  rw [hlast] at t1 lastle ⊢
  have gl : (gapsC c).length ≤ 500 := by
    rw [← gt]
    have := List.length_filter_le (fun r => !decide (r ∈ (((d.map (·.2)).filter fun k => decide (k.1 = c.greatest)).map (·.2)))) (rng 0 c.greatest.toNat)
    rw [rng_len] at this
    omega
  have gmem : ∀ r ∈ gapsC c, 0 ≤ r ∧ r < c.greatest := fun r hr => (gaps_mem.mp hr).1
  obtain ⟨e, he⟩ : ∃ e, rowEvery c.greatest (l.map (ringIn d)) = e := ⟨_, rfl⟩
  rw [he] at ev0 ⊢
  cases hq : allJ ((l.map (ringIn d)).map flipR) with
  | none =>
    refine sd_if (WX.tx (wx_or (z := false) (tx_cmp (cr_isN (α := Int × Int) (x := none) notN) (px_var (x := (none : Option (Int × Int))) 6) px_non) fun v => by cases v)) (fun _ => ?_) (fun v => by simp at v)
    exact sd_ret (px_t2 (px_frz (px_lst (α := Int) lx_nil)) (px_var (x := e) 3)) ⟨rfl, .is (.res (fun _ _ _ _ _ _ _ h h' => h.1.trans h'.1.symm) .nil)⟩
  | some fd =>
    have meetD := meetD fd hq
    simp only
    have eR : rng first (first + (l.length : Int) - first).toNat = rng first l.length := by rw [show (first + (l.length : Int) - first).toNat = l.length by omega]
    show SD (cxN P w K mg base ns__law_due "_law_due" st__law_due (He.ga K "_law_due") cdv A outer s H E) (sh (List Int × Int)) ([.is l, .res (.lkK ad od d), .is c.greatest, .is e, .no, .is first, .is (some fd), .is ((l.map (ringIn d)).map (·.1)), .no, .no, .no, .no, .no, .no] : DE) _ (axD (sh (List Int × Int)) K (if ¬ (l.map (ringIn d)).map (·.1) = rng first l.length then _ else _) _ _)
    clear ev at_ szp
    have tst : TX (cxN P w K mg base ns__law_due "_law_due" st__law_due (He.ga K "_law_due") cdv A outer s H E) ([.is l, .res (.lkK ad od d), .is c.greatest, .is e, .no, .is first, .is (some fd), .is ((l.map (ringIn d)).map (·.1)), .no, .no, .no, .no, .no, .no] : DE) (match (defBody st__law_due).getD 6 (.Pass ⟨0, 0, 0, 0⟩) with | .If c _ _ _ => c | _ => .Constant .none 0 ⟨0, 0, 0, 0⟩) (!decide (((l.map (ringIn d)).map (·.1)) = rng first l.length)) ([.is l, .res (.lkK ad od d), .is c.greatest, .is e, .no, .is first, .is (some fd), .is ((l.map (ringIn d)).map (·.1)), .no, .no, .no, .no, .no, .no] : DE) := 
      WX.tx (wx_or (y := false) (z := !decide (((l.map (ringIn d)).map (·.1)) = rng first l.length)) (tx_cmp (cr_isN (α := Int × Int) (x := some fd) notN) (px_var (x := some fd) 6) px_non) fun _ => wx_or1 (tx_cmp (cr_neD (α := List Int) hu (fun _ _ => trivial) (fun _ _ => trivial)) (px_var (x := ((l.map (ringIn d)).map (·.1))) 7) (px_frz (px_eq (m1 := nw Int) eR (px_listR2 T.n_list T.n_range (px_var (x := first) 5) (px_add (px_var (x := first) 5) (px_len T.n_len (px_var (x := l) 0).br)) (RgOk.of_le (by omega) (by omega) (by omega) (by omega)))))))
    by_cases q1 : ¬ ((l.map (ringIn d)).map (·.1)) = rng first l.length
    · rw [if_pos q1]
      refine sd_if tst (fun _ => ?_) (fun v => absurd (nd_false v) q1)
      exact sd_ret (px_t2 (px_frz (px_lst (α := Int) lx_nil)) (px_var (x := e) 3)) ⟨rfl, .is (.res (fun _ _ _ _ _ _ _ h h' => h.1.trans h'.1.symm) .nil)⟩
    · rw [if_neg q1]
      refine sd_if tst (fun v => absurd (nd_true v) q1) (fun _ => sd_nil ?_)
      refine sd_set 8 (px_eq (m1 := sh Int) hlast (px_fst (px_dat (show A.units + 3 + 1 < cLine by omega) (px_see (x := (⟨d⟩ : Dk Str (Int × Int))) 1 see_lkK) (px_ix (px_var (x := l) 0) (px_neg px_int) zN) n1) px_int)) ?_ nd
      by_cases q2 : last = c.greatest
      · rw [if_pos q2]
        refine sd_if (tx_cmp cr_eq (px_var (x := last) 8) (px_var (x := c.greatest) 2)) (fun _ => ?_) (fun v => absurd q2 (of_decide_eq_false v))
        exact sd_ret (px_t2 (px_frz (px_lst (xs := [(fd.1 + first - 1) % e]) (lx_cons (px_mod (px_sub (px_add (px_fst (px_unsome (px_var (x := some fd) 6)) px_int) (px_var (x := first) 5)) px_int) (px_var (x := e) 3) ev0) lx_nil))) (px_var (x := e) 3)) ⟨rfl, .is (.res (fun _ _ _ _ _ _ _ h h' => h.1.trans h'.1.symm) .nil)⟩
      · rw [if_neg q2]
        refine sd_if (tx_cmp cr_eq (px_var (x := last) 8) (px_var (x := c.greatest) 2)) (fun v => absurd (of_decide_eq_true v) q2) (fun _ => sd_nil ?_)
        refine sd_set 9 (px_frz (px_lcIf (own := [("_law_ring", 13)]) [13] (it_values (xs := d) 1) nd (by rw [List.length_map]; exact fitR) (f := fun k : Int × Int => k.2) (k := fun k => decide (k.1 = c.greatest)) (Γt := fun k => ([.is l, .res (.lkK ad od d), .is c.greatest, .is e, .no, .is first, .is (some fd), .is ((l.map (ringIn d)).map (·.1)), .is last, .no, .no, .no, .no, .is k] : DE)) (fun k hk s H0 C cl fp => gx_name 13 nd) (fun k hk s H0 C cl fp => tx_cmp cr_eq (px_fst (px_var (x := k) 13) px_int) (px_var (x := c.greatest) 2)) fun k hk _ s H0 C cl fp => px_snd (px_var (x := k) 13) px_int)) ?_ nd
        generalize htk : ((d.map (·.2)).filter fun k => decide (k.1 = c.greatest)).map (·.2) = taken at *
        refine sd_setO 10 (px_lst (α := Int) lx_nil) (fun a10 => ?_) nd
        by_cases q3 : last = c.greatest - 1
        · rw [if_neg (by omega)]
          refine sd_if (tx_cmp cr_eq (px_var (x := last) 8) (px_sub (px_var (x := c.greatest) 2) px_int)) (fun _ => ?_) (fun v => absurd q3 (of_decide_eq_false v))
          refine sd_for (ts := [11]) (N := fun Γ' => ∃ e11 e12, Γ' = ([.is l, .res (.lkK ad od d), .is c.greatest, .is e, .no, .is first, .is (some fd), .is ((l.map (ringIn d)).map (·.1)), .is last, .is taken, .own a10 (((gapsC c).filterMap fun r => joinF fd (r, c.greatest)).map fun p => (p.1 + first - 1) % e), e11, e12, .no] : DE))
            (it_list (px_frz (px_eq (m1 := nw Int) ((List.map_id' _).trans gt) (px_lcIf (own := [("_law_due_here", 11)]) [11] (it_range1 T.n_range (px_var (x := c.greatest) 2) (by omega) (by omega)) nd (by rw [rng_len, sizeLine_eq]; omega) (f := fun r : Int => r) (k := fun r => !decide (r ∈ taken)) (Γt := fun r => ([.is l, .res (.lkK ad od d), .is c.greatest, .is e, .no, .is first, .is (some fd), .is ((l.map (ringIn d)).map (·.1)), .is last, .is taken, .own a10 ([] : List Int), .is r, .no, .no] : DE)) (fun r hr s H0 C cl fp => gx_name 11 nd) (fun r hr s H0 C cl fp => tx_cmp cr_notInL (px_var (x := r) 11) (px_var (x := taken) 9).br) fun r hr _ s H0 C cl fp => px_var (x := r) 11))))
            (fun i Γ' => ∃ e11 e12, Γ' = ([.is l, .res (.lkK ad od d), .is c.greatest, .is e, .no, .is first, .is (some fd), .is ((l.map (ringIn d)).map (·.1)), .is last, .is taken, .own a10 ((((gapsC c).take i).filterMap fun r => joinF fd (r, c.greatest)).map fun p => (p.1 + first - 1) % e), e11, e12, .no] : DE)) ⟨_, _, rfl⟩ (fun i r Γ' hr2 hi => ?_) (fun Γ' hi => ?_) (fun Γ' hi => ?_)
          · obtain ⟨e11, e12, rfl⟩ := hi
            have rm := gmem r (List.mem_of_getElem? hr2)
            have il := (List.getElem?_eq_some_iff.mp hr2).1
            have tk : (gapsC c).take (i + 1) = (gapsC c).take i ++ [r] := by rw [List.take_add_one, hr2]; rfl
            have ml := List.length_filterMap_le (fun r => joinF fd (r, c.greatest)) ((gapsC c).take i)
            rw [List.length_take] at ml
            rw [tk, List.filterMap_append, List.map_append]
            have ml2 : ((((gapsC c).take i).filterMap fun r => joinF fd (r, c.greatest)).map fun p => (p.1 + first - 1) % e).length < sizeLine := by rw [List.length_map, sizeLine_eq]; omega
            generalize (((gapsC c).take i).filterMap fun r => joinF fd (r, c.greatest)).map (fun p => (p.1 + first - 1) % e) = acc at *
            refine ⟨_, gx_name 11 nd, ?_⟩
            refine sd_set 12 (px_eq (m1 := sh (Option (Int × Int))) (meetD r) (px_c ((can_lmeeting T).mono (by decide)) hr (ax_cons (px_frz (px_cat (px_frz (px_lc (own := [("_law_name_here", 4)]) [4] (it_list (px_var (x := l) 0)) nd hz (f := ringIn d) (Γt := fun n => ([.is l, .res (.lkK ad od d), .is c.greatest, .is e, .is n, .is first, .is (some fd), .is ((l.map (ringIn d)).map (·.1)), .is last, .is taken, .own a10 acc, .is r, e12, .no] : DE))
              (fun n hn s H0 C cl fp => gx_name 4 nd) fun n hn s H0 C cl fp => px_dat (show A.units + 3 + 1 < cLine by omega) (px_see (x := (⟨d⟩ : Dk Str (Int × Int))) 1 see_lkK) (px_var (x := n) 4) (dat hn).1)) (px_frz (px_lst (xs := [(c.greatest, r)]) (lx_cons (px_t2 (px_var (x := c.greatest) 2) (px_var (x := r) 11)) lx_nil))) (by rw [List.length_map, sizeLine_eq]; show l.length + 1 ≤ _; omega))) ax_nil) ⟨l.map (ringIn d) ++ [(c.greatest, r)], fun p hp => by
                rcases List.mem_append.mp hp with z | z
                · exact hrs p z
                · rw [List.mem_singleton.mp z]
                  exact ⟨g0, g1, rm.1, rm.2⟩, rfl, rfl, rfl⟩ defOk_nil)) ?_ nd
            cases hj : joinF fd (r, c.greatest) with
            | none =>
              have en : ([r].filterMap fun r => joinF fd (r, c.greatest)) = [] := by rw [List.filterMap_cons, hj]; rfl
              rw [en, List.map_nil, List.append_nil]
              exact sd_if (tx_cmp (cr_notN (x := (none : Option (Int × Int))) notN) (px_var (x := (none : Option (Int × Int))) 12) px_non) (fun v => by cases v) (fun _ => sd_nil (sd_nil ⟨_, Wk.refl, .is r, .is (none : Option (Int × Int)), rfl⟩))
            | some p =>
              have en : ([r].filterMap fun r => joinF fd (r, c.greatest)) = [p] := by rw [List.filterMap_cons, hj]; rfl
              rw [en]
              refine sd_if (tx_cmp (cr_notN (x := some p) notN) (px_var (x := some p) 12) px_non) (fun _ => ?_) (fun v => by cases v)
              exact sd_append 10 (px_mod (px_sub (px_add (px_fst (px_unsome (px_var (x := some p) 12)) px_int) (px_var (x := first) 5)) px_int) (px_var (x := e) 3) ev0) rfl ml2 (sd_nil (sd_nil ⟨_, Wk.refl, .is r, .is (some p), rfl⟩))
          · obtain ⟨e11, e12, rfl⟩ := hi
            rw [List.take_length]
            exact ⟨e11, e12, rfl⟩
          · obtain ⟨e11, e12, rfl⟩ := hi
            refine sd_nil (sd_give 10 ?_)
            exact sd_ret (px_t2 (px_frz (px_upI T.n_sorted (px_var (x := ((gapsC c).filterMap fun r => joinF fd (r, c.greatest)).map fun p => (p.1 + first - 1) % e) 10).br)) (px_var (x := e) 3)) ⟨rfl, .is (.res (fun _ _ _ _ _ _ _ h h' => h.1.trans h'.1.symm) .nil)⟩
        · rw [if_pos (by omega)]
          refine sd_if (tx_cmp cr_eq (px_var (x := last) 8) (px_sub (px_var (x := c.greatest) 2) px_int)) (fun v => absurd (of_decide_eq_true v) q3) (fun _ => sd_nil (sd_give 10 ?_))
          exact sd_ret (px_t2 (px_eq (m1 := sh (List Int)) (show upI [] = [] from (upI_perm []).eq_nil) (px_frz (px_upI T.n_sorted (px_var (x := ([] : List Int)) 10).br))) (px_var (x := e) 3)) ⟨rfl, .is (.res (fun _ _ _ _ _ _ _ h h' => h.1.trans h'.1.symm) .nil)⟩
end
end L
namespace P
open PySem PySem.Spec PyProof.Rows L2 G L M SrtT
open Rp (rp)
section
variable {P : Program} {w : World} {K : PySem.W.Frag} {mg : Str → Option Value} {base : Heap}
def r_cdaysT : DE → List Int × Int → DE → Prop := fun Γ x Γ' => ∃ (c : Crs) (l : List Str), CrsOk c ∧ FolkOk c.ringBy.l l ∧ 0 < c.greatest ∧ Γ = [.is c, .is l] ∧ x = cdaysF c.greatest (gapsC c) (l.map (ringIn c.ringBy.l)) ∧ Γ' = Γ
theorem can_company_daysT (T : Txt K mg) : CanM P w K mg base CX0 5 "company_days" ps_Course_company_days (spM K (tl Int Int) 2 r_cdaysT) := by
  refine canM T.cls_Course T.me_company_days T.f_Course_company_days sc_Course_company_days b_Course_company_days fun cdv A outer s H E Γ x Γ' hr hR => ?_
  obtain ⟨c, l, hc, hf, g0, rfl, rfl, rfl⟩ := hR
  have nd := sc_Course_company_days.nd
  have hu : A.units + 3 + 64 < cLine := hr.units
  have g1 := hc.g1
  have hfew := hf.few
  have notN : ∀ {F : Hp} {v : V} {y : Int × Int}, rp K F v y → v ≠ .non := fun h e => by obtain ⟨_, _, _, e2, _⟩ := h; rw [e2] at e; cases e
  have hrs : ∀ p ∈ l.map (ringIn c.ringBy.l), RingOk p := fun p hp => by
    obtain ⟨n, hn, rfl⟩ := List.mem_map.mp hp
    exact (hf.look hn).2
  have hne : l.map (ringIn c.ringBy.l) ≠ [] := by simpa using hf.ne
  have hl : (l.map (ringIn c.ringBy.l)).length ≤ 500 := by rw [List.length_map]; exact hfew
  refine sd_set 2 (px_frz (px_m ((can_checked_folk T).mono (by decide)) hr (px_var (x := c) 0) (ax_cons (px_var (x := l) 1) ax_nil) ⟨c, l, hf, rfl, rfl, rfl⟩)) ?_ nd
  have gmem : ∀ r ∈ gapsC c, 0 ≤ r ∧ r < c.greatest := fun r hr => (gaps_mem.mp hr).1
  have gl : (gapsC c).length ≤ 500 := by
    have := List.length_filter_le (fun r => !(look c.nameBy.l (c.greatest, r)).isSome) (rng 0 c.greatest.toNat)
    rw [rng_len] at this
    have e : (rng 0 c.greatest.toNat).filter (fun r => !(look c.nameBy.l (c.greatest, r)).isSome) = gapsC c := rfl
    rw [e] at this
    omega
  generalize l.map (ringIn c.ringBy.l) = rs at *
  have lp := List.length_pos_iff.mpr hne
  refine sd_setLcG 3 (lcx (own := [("size", 9), ("rest", 10)]) [9, 10] (it_list (px_var (x := rs) 2)) nd (by rw [sizeLine_eq]; omega) (f := fun p : Int × Int => p.1) (Γt := fun p => ([.is c, .is l, .is rs, .no, .no, .no, .no, .no, .no, .is p.1, .is p.2, .no] : DE))
    (fun p hp s H0 C cl fp => gx_t2 (gx_name 9 nd) (gx_name 10 nd)) fun p hp s H0 C cl fp => px_var (x := p.1) 9) ?_
  have zl : (rs.map (·.1)).length = rs.length := List.length_map _
  have a0 : L2.atI (rs.map (·.1)) 0 = some ((rs.map (·.1)).getD 0 0) := ll_nat (n := 0) (by rw [List.getD_eq_getElem?_getD, List.getElem?_eq_getElem (by omega)]; rfl)
  have aN : L2.atI (rs.map (·.1)) (-1) = some ((rs.map (·.1)).getD (rs.length - 1) 0) := atI_last (by rw [zl, List.getD_eq_getElem?_getD, List.getElem?_eq_getElem (by omega)]; rfl)
  have sok : ∀ n ∈ rs.map (·.1) ++ [c.greatest], 0 < n ∧ n < 2 ^ 62 := fun n hn => by
    rcases List.mem_append.mp hn with z | z
    · obtain ⟨p, hp, rfl⟩ := List.mem_map.mp z
      have := hrs p hp
      have h1 := this.pos
      have h2 := this.few
      exact ⟨h1, by omega⟩
    · rw [List.mem_singleton.mp z]; omega
  have f1 : 1 ≤ (rs.map (·.1)).getD 0 0 ∧ (rs.map (·.1)).getD 0 0 ≤ 500 := by
    have e : (rs.map (·.1))[0]? = some ((rs.map (·.1)).getD 0 0) := by rw [List.getD_eq_getElem?_getD, List.getElem?_eq_getElem (by omega)]; rfl
    obtain ⟨p, hp, e2⟩ := List.mem_map.mp (List.mem_of_getElem? e)
    have h1 := (hrs p hp).pos
    have h2 := (hrs p hp).few
    omega
  have ev0 : 0 < rowEvery c.greatest rs := lcmL_pos (fun n hn => (sok n hn).1) 1 (by decide)
  unfold cdaysF
  refine sd_set 4 (px_ix (px_var (x := rs.map (·.1)) 3) px_int a0) ?_ nd
  refine sd_set 5 (px_eq (m1 := sh Int) (show lcmL (rs.map (·.1) ++ [c.greatest]) = rowEvery c.greatest rs from rfl) (px_c ((can_least_multiple T).mono (by decide)) hr (ax_cons (px_frz (px_cat (px_var (x := rs.map (·.1)) 3) (px_frz (px_lst (xs := [c.greatest]) (lx_cons (px_greatest T.cls_Course T.na_greatest (px_var (x := c) 0)) lx_nil))) (by rw [zl, sizeLine_eq]; show rs.length + 1 ≤ _; omega))) ax_nil) ⟨rs.map (·.1) ++ [c.greatest], sok, rfl, rfl, rfl⟩ defOk_nil)) ?_ nd
  generalize rowEvery c.greatest rs = ev at *
  refine sd_set 6 (px_c ((can_all_joined T).mono (by decide)) hr (ax_cons (px_frz (px_lc (own := [("size", 9), ("rest", 10)]) [9, 10] (it_list (px_var (x := rs) 2)) nd (by rw [sizeLine_eq]; omega) (f := flipR) (Γt := fun p => ([.is c, .is l, .is rs, .is (rs.map (·.1)), .is ((rs.map (·.1)).getD 0 0), .is ev, .no, .no, .no, .is p.1, .is p.2, .no] : DE))
    (fun p hp s H0 C cl fp => gx_t2 (gx_name 9 nd) (gx_name 10 nd)) fun p hp s H0 C cl fp => px_t2 (px_var (x := p.2) 10) (px_var (x := p.1) 9))) ax_nil) ⟨rs.map flipR, fun p hp => by
      obtain ⟨q, hq, rfl⟩ := List.mem_map.mp hp
      have h1 := (hrs q hq).pos
      have h2 := (hrs q hq).few
      exact ⟨h1, by show q.1 < 2 ^ 62; omega⟩, rfl, rfl, rfl⟩ defOk_nil) ?_ nd
  obtain ⟨first, hfirst⟩ : ∃ first, (rs.map (·.1)).getD 0 0 = first := ⟨_, rfl⟩
  rw [hfirst] at a0 f1 ⊢
  obtain ⟨lst, hlst⟩ : ∃ lst, (rs.map (·.1)).getD (rs.length - 1) 0 = lst := ⟨_, rfl⟩
  rw [hlst] at aN ⊢
  cases q : allJ (rs.map flipR) with
  | none =>
    refine sd_if (WX.tx (wx_or (z := false) (tx_cmp (cr_isN (α := Int × Int) (x := none) notN) (px_var (x := (none : Option (Int × Int))) 6) px_non) fun v => by cases v)) (fun _ => ?_) (fun v => by simp at v)
    exact sd_ret (px_tl (px_lst (α := Int) lx_nil) (px_var (x := ev) 5)) ⟨rfl, .is (.is .nil)⟩
  | some f =>
    obtain ⟨fp0, _, _, _, _⟩ := allJ_some (fun p hp => by
      obtain ⟨q, hq, rfl⟩ := List.mem_map.mp hp
      exact (hrs q hq).pos) q
    show SD _ _ _ _ (axD _ _ (if ¬ rs.map (·.1) = rng first rs.length then _ else _) _ _)
    have eR : rng first (first + (((rs.map (·.1)).length : Nat) : Int) - first).toNat = rng first rs.length := by
      rw [zl, show (first + ((rs.length : Nat) : Int) - first).toNat = rs.length by omega]
    by_cases q1 : ¬ rs.map (·.1) = rng first rs.length
    · rw [if_pos q1]
      refine sd_if (WX.tx (wx_or (tx_cmp (cr_isN (α := Int × Int) (x := some f) notN) (px_var (x := some f) 6) px_non) fun _ => wx_or1 (tx_cmp (cr_neD (α := List Int) hu (fun _ _ => trivial) (fun _ _ => trivial)) (px_var (x := rs.map (·.1)) 3) (px_frz (px_eq (m1 := nw Int) eR (px_listR2 T.n_list T.n_range (px_var (x := first) 4) (px_add (px_var (x := first) 4) (px_len T.n_len (px_var (x := rs.map (·.1)) 3).br)) (RgOk.of_le (by omega) (by rw [zl]; omega) (by omega) (by rw [zl]; omega)))))))) (fun _ => ?_) (fun v => by simp at v; exact absurd v q1)
      exact sd_ret (px_tl (px_lst (α := Int) lx_nil) (px_var (x := ev) 5)) ⟨rfl, .is (.is .nil)⟩
    · rw [if_neg q1]
      refine sd_if (WX.tx (wx_or (tx_cmp (cr_isN (α := Int × Int) (x := some f) notN) (px_var (x := some f) 6) px_non) fun _ => wx_or1 (tx_cmp (cr_neD (α := List Int) hu (fun _ _ => trivial) (fun _ _ => trivial)) (px_var (x := rs.map (·.1)) 3) (px_frz (px_eq (m1 := nw Int) eR (px_listR2 T.n_list T.n_range (px_var (x := first) 4) (px_add (px_var (x := first) 4) (px_len T.n_len (px_var (x := rs.map (·.1)) 3).br)) (RgOk.of_le (by omega) (by rw [zl]; omega) (by omega) (by rw [zl]; omega)))))))) (fun v => by simp at v; exact absurd v q1) (fun _ => sd_nil ?_)
      by_cases q2 : lst = c.greatest
      · rw [if_pos q2]
        refine sd_if (tx_cmp cr_eq (px_ix (px_var (x := rs.map (·.1)) 3) (px_neg px_int) aN) (px_greatest T.cls_Course T.na_greatest (px_var (x := c) 0))) (fun _ => ?_) (fun v => absurd q2 (of_decide_eq_false v))
        exact sd_ret (px_tl (px_lst (xs := [(f.1 + first - 1) % ev]) (lx_cons (px_mod (px_sub (px_add (px_fst (px_unsome (px_var (x := some f) 6)) px_int) (px_var (x := first) 4)) px_int) (px_var (x := ev) 5) ev0) lx_nil)) (px_var (x := ev) 5)) ⟨rfl, .is (.is .nil)⟩
      · rw [if_neg q2]
        refine sd_if (tx_cmp cr_eq (px_ix (px_var (x := rs.map (·.1)) 3) (px_neg px_int) aN) (px_greatest T.cls_Course T.na_greatest (px_var (x := c) 0))) (fun v => absurd (of_decide_eq_true v) q2) (fun _ => sd_nil ?_)
        by_cases q3 : lst < c.greatest - 1
        · rw [if_pos q3]
          refine sd_if (tx_cmp cr_lt (px_ix (px_var (x := rs.map (·.1)) 3) (px_neg px_int) aN) (px_sub (px_greatest T.cls_Course T.na_greatest (px_var (x := c) 0)) px_int)) (fun _ => ?_) (fun v => absurd q3 (of_decide_eq_false v))
          exact sd_ret (px_tl (px_lst (α := Int) lx_nil) (px_var (x := ev) 5)) ⟨rfl, .is (.is .nil)⟩
        · rw [if_neg q3]
          refine sd_if (tx_cmp cr_lt (px_ix (px_var (x := rs.map (·.1)) 3) (px_neg px_int) aN) (px_sub (px_greatest T.cls_Course T.na_greatest (px_var (x := c) 0)) px_int)) (fun v => absurd (of_decide_eq_true v) q3) (fun _ => sd_nil ?_)
          have hz : (rng 0 c.greatest.toNat).length < sizeLine := by rw [rng_len, sizeLine_eq]; omega
          refine sd_setLcG 7 (lcx_eq (List.map_id' _) (lcx_If (own := [("rest", 10)]) [10] (it_range1 T.n_range (px_greatest T.cls_Course T.na_greatest (px_var (x := c) 0)) (by omega) (by omega)) nd hz (f := fun r : Int => r) (k := fun r => !(look c.nameBy.l (c.greatest, r)).isSome) (Γt := fun r => ([.is c, .is l, .is rs, .is (rs.map (·.1)), .is first, .is ev, .is (some f), .no, .no, .no, .is r, .no] : DE))
            (fun r hr s H0 C cl fp => gx_name 10 nd) (fun r hr s H0 C cl fp => tx_dnotinT (by show A.units + 3 + 1 < cLine; omega) (px_t2 (px_greatest T.cls_Course T.na_greatest (px_var (x := c) 0)) (px_var (x := r) 10)) (px_nameBy T.cls_Course T.na_name_by (px_var (x := c) 0))) fun r hr _ s H0 C cl fp => px_var 10)) ?_
          have eg : (rng 0 c.greatest.toNat).filter (fun r => !(look c.nameBy.l (c.greatest, r)).isSome) = gapsC c := rfl
          rw [eg]
          generalize gapsC c = gaps at *
          refine sd_setLcG 8 (lcx (own := [("rest", 10)]) [10] (it_list (px_var (x := gaps) 7)) nd (by rw [sizeLine_eq]; omega) (f := fun r : Int => joinF f (r, c.greatest)) (Γt := fun r => ([.is c, .is l, .is rs, .is (rs.map (·.1)), .is first, .is ev, .is (some f), .is gaps, .no, .no, .is r, .no] : DE))
            (fun r hr s H0 C cl fp => gx_name 10 nd) fun r hr2 s H0 C cl fp => px_c ((can_joined T).mono (by decide)) hr (ax_cons (px_unsome (px_var (x := some f) 6)) (ax_cons (px_t2 (px_var (x := r) 10) (px_greatest T.cls_Course T.na_greatest (px_var (x := c) 0))) ax_nil)) ⟨f, (r, c.greatest), fp0, g0, by show c.greatest < 2 ^ 62; omega, rfl, rfl, rfl⟩ defOk_nil) ?_
          have sm := somes_map (fun r : Int => joinF f (r, c.greatest)) ((0 : Int), (0 : Int)) (fun p => (p.1 + first - 1) % ev) gaps
          generalize hos : gaps.map (fun r : Int => joinF f (r, c.greatest)) = os at *
          have ol : os.length ≤ 500 := by rw [← hos, List.length_map]; exact gl
          refine sd_ret (px_tl (px_eq (m1 := nw Int) (congrArg upI sm) (px_upI T.n_sorted (PX.nb (px_lcIf (own := [("pair", 11)]) [11] (it_list (px_var (x := os) 8)) nd (by rw [sizeLine_eq]; omega) (f := fun o : Option (Int × Int) => ((o.getD ((0 : Int), (0 : Int))).1 + first - 1) % ev) (k := Option.isSome) (Γt := fun o => ([.is c, .is l, .is rs, .is (rs.map (·.1)), .is first, .is ev, .is (some f), .is gaps, .is os, .no, .no, .is o] : DE))
            (fun o ho s H0 C cl fp => gx_name 11 nd) (fun o ho s H0 C cl fp => tx_cmp (cr_notN (x := o) notN) (px_var (x := o) 11) px_non) fun o ho hk s H0 C cl fp => ?_)))) (px_var (x := ev) 5)) ⟨rfl, .is (.is .nil)⟩
          cases o with
          | none => cases hk
          | some p => exact px_mod (px_sub (px_add (px_fst (px_unsome (px_var (x := some p) 11)) px_int) (px_var (x := first) 4)) px_int) (px_var (x := ev) 5) ev0
end
end P
namespace P
open PySem PySem.Spec PyProof.Rows L2 G L M SrtT
open Rp (rp)
section
variable {P : Program} {w : World} {K : PySem.W.Frag} {mg : Str → Option Value} {base : Heap}
def r_cdays : DE → List Int × Int → DE → Prop := fun Γ x Γ' => ∃ (c : Crs) (l : List Str), CrsOk c ∧ FolkOk c.ringBy.l l ∧ 0 < c.greatest ∧ Γ = [.is c, .is l] ∧ x = cdaysF c.greatest (gapsC c) (l.map (ringIn c.ringBy.l)) ∧ Γ' = Γ
theorem can_company_days (T : Txt K mg) : CanM P w K mg base CX0 5 "company_days" ps_Course_company_days (spM K (sh (List Int × Int)) 2 r_cdays) := by
  refine canM T.cls_Course T.me_company_days T.f_Course_company_days sc_Course_company_days b_Course_company_days fun cdv A outer s H E Γ x Γ' hr hR => ?_
  obtain ⟨c, l, hc, hf, g0, rfl, rfl, rfl⟩ := hR
  have nd := sc_Course_company_days.nd
  have hu : A.units + 3 + 64 < cLine := hr.units
  have g1 := hc.g1
  have hfew := hf.few
  have notN : ∀ {F : Hp} {v : V} {y : Int × Int}, rp K F v y → v ≠ .non := fun h e => by obtain ⟨_, _, _, e2, _⟩ := h; rw [e2] at e; cases e
  have hrs : ∀ p ∈ l.map (ringIn c.ringBy.l), RingOk p := fun p hp => by
    obtain ⟨n, hn, rfl⟩ := List.mem_map.mp hp
    exact (hf.look hn).2
  have hne : l.map (ringIn c.ringBy.l) ≠ [] := by simpa using hf.ne
  have hl : (l.map (ringIn c.ringBy.l)).length ≤ 500 := by rw [List.length_map]; exact hfew
  refine sd_set 2 (px_frz (px_m ((can_checked_folk T).mono (by decide)) hr (px_var (x := c) 0) (ax_cons (px_var (x := l) 1) ax_nil) ⟨c, l, hf, rfl, rfl, rfl⟩)) ?_ nd
  have gmem : ∀ r ∈ gapsC c, 0 ≤ r ∧ r < c.greatest := fun r hr => (gaps_mem.mp hr).1
  have gl : (gapsC c).length ≤ 500 := by
    have := List.length_filter_le (fun r => !(look c.nameBy.l (c.greatest, r)).isSome) (rng 0 c.greatest.toNat)
    rw [rng_len] at this
    have e : (rng 0 c.greatest.toNat).filter (fun r => !(look c.nameBy.l (c.greatest, r)).isSome) = gapsC c := rfl
    rw [e] at this
    omega
  generalize l.map (ringIn c.ringBy.l) = rs at *
  have lp := List.length_pos_iff.mpr hne
  refine sd_setLcG 3 (lcx (own := [("size", 9), ("rest", 10)]) [9, 10] (it_list (px_var (x := rs) 2)) nd (by rw [sizeLine_eq]; omega) (f := fun p : Int × Int => p.1) (Γt := fun p => ([.is c, .is l, .is rs, .no, .no, .no, .no, .no, .no, .is p.1, .is p.2, .no] : DE))
    (fun p hp s H0 C cl fp => gx_t2 (gx_name 9 nd) (gx_name 10 nd)) fun p hp s H0 C cl fp => px_var (x := p.1) 9) ?_
  have zl : (rs.map (·.1)).length = rs.length := List.length_map _
  have a0 : L2.atI (rs.map (·.1)) 0 = some ((rs.map (·.1)).getD 0 0) := ll_nat (n := 0) (by rw [List.getD_eq_getElem?_getD, List.getElem?_eq_getElem (by omega)]; rfl)
  have aN : L2.atI (rs.map (·.1)) (-1) = some ((rs.map (·.1)).getD (rs.length - 1) 0) := atI_last (by rw [zl, List.getD_eq_getElem?_getD, List.getElem?_eq_getElem (by omega)]; rfl)
  have sok : ∀ n ∈ rs.map (·.1) ++ [c.greatest], 0 < n ∧ n < 2 ^ 62 := fun n hn => by
    rcases List.mem_append.mp hn with z | z
    · obtain ⟨p, hp, rfl⟩ := List.mem_map.mp z
      have := hrs p hp
      have h1 := this.pos
      have h2 := this.few
      exact ⟨h1, by omega⟩
    · rw [List.mem_singleton.mp z]; omega
  have f1 : 1 ≤ (rs.map (·.1)).getD 0 0 ∧ (rs.map (·.1)).getD 0 0 ≤ 500 := by
    have e : (rs.map (·.1))[0]? = some ((rs.map (·.1)).getD 0 0) := by rw [List.getD_eq_getElem?_getD, List.getElem?_eq_getElem (by omega)]; rfl
    obtain ⟨p, hp, e2⟩ := List.mem_map.mp (List.mem_of_getElem? e)
    have h1 := (hrs p hp).pos
    have h2 := (hrs p hp).few
    omega
  have ev0 : 0 < rowEvery c.greatest rs := lcmL_pos (fun n hn => (sok n hn).1) 1 (by decide)
  unfold cdaysF
  refine sd_set 4 (px_ix (px_var (x := rs.map (·.1)) 3) px_int a0) ?_ nd
  refine sd_set 5 (px_eq (m1 := sh Int) (show lcmL (rs.map (·.1) ++ [c.greatest]) = rowEvery c.greatest rs from rfl) (px_c ((can_least_multiple T).mono (by decide)) hr (ax_cons (px_frz (px_cat (px_var (x := rs.map (·.1)) 3) (px_frz (px_lst (xs := [c.greatest]) (lx_cons (px_greatest T.cls_Course T.na_greatest (px_var (x := c) 0)) lx_nil))) (by rw [zl, sizeLine_eq]; show rs.length + 1 ≤ _; omega))) ax_nil) ⟨rs.map (·.1) ++ [c.greatest], sok, rfl, rfl, rfl⟩ defOk_nil)) ?_ nd
  generalize rowEvery c.greatest rs = ev at *
  refine sd_set 6 (px_c ((can_all_joined T).mono (by decide)) hr (ax_cons (px_frz (px_lc (own := [("size", 9), ("rest", 10)]) [9, 10] (it_list (px_var (x := rs) 2)) nd (by rw [sizeLine_eq]; omega) (f := flipR) (Γt := fun p => ([.is c, .is l, .is rs, .is (rs.map (·.1)), .is ((rs.map (·.1)).getD 0 0), .is ev, .no, .no, .no, .is p.1, .is p.2, .no] : DE))
    (fun p hp s H0 C cl fp => gx_t2 (gx_name 9 nd) (gx_name 10 nd)) fun p hp s H0 C cl fp => px_t2 (px_var (x := p.2) 10) (px_var (x := p.1) 9))) ax_nil) ⟨rs.map flipR, fun p hp => by
      obtain ⟨q, hq, rfl⟩ := List.mem_map.mp hp
      have h1 := (hrs q hq).pos
      have h2 := (hrs q hq).few
      exact ⟨h1, by show q.1 < 2 ^ 62; omega⟩, rfl, rfl, rfl⟩ defOk_nil) ?_ nd
  obtain ⟨first, hfirst⟩ : ∃ first, (rs.map (·.1)).getD 0 0 = first := ⟨_, rfl⟩
  rw [hfirst] at a0 f1 ⊢
  obtain ⟨lst, hlst⟩ : ∃ lst, (rs.map (·.1)).getD (rs.length - 1) 0 = lst := ⟨_, rfl⟩
  rw [hlst] at aN ⊢
  cases q : allJ (rs.map flipR) with
  | none =>
    refine sd_if (WX.tx (wx_or (z := false) (tx_cmp (cr_isN (α := Int × Int) (x := none) notN) (px_var (x := (none : Option (Int × Int))) 6) px_non) fun v => by cases v)) (fun _ => ?_) (fun v => by simp at v)
    exact sd_ret (px_t2 (px_frz (px_lst (α := Int) lx_nil)) (px_var (x := ev) 5)) ⟨rfl, .is (.is .nil)⟩
  | some f =>
    obtain ⟨fp0, _, _, _, _⟩ := allJ_some (fun p hp => by
      obtain ⟨q, hq, rfl⟩ := List.mem_map.mp hp
      exact (hrs q hq).pos) q
    show SD _ _ _ _ (axD _ _ (if ¬ rs.map (·.1) = rng first rs.length then _ else _) _ _)
    have eR : rng first (first + (((rs.map (·.1)).length : Nat) : Int) - first).toNat = rng first rs.length := by
      rw [zl, show (first + ((rs.length : Nat) : Int) - first).toNat = rs.length by omega]
    by_cases q1 : ¬ rs.map (·.1) = rng first rs.length
    · rw [if_pos q1]
      refine sd_if (WX.tx (wx_or (tx_cmp (cr_isN (α := Int × Int) (x := some f) notN) (px_var (x := some f) 6) px_non) fun _ => wx_or1 (tx_cmp (cr_neD (α := List Int) hu (fun _ _ => trivial) (fun _ _ => trivial)) (px_var (x := rs.map (·.1)) 3) (px_frz (px_eq (m1 := nw Int) eR (px_listR2 T.n_list T.n_range (px_var (x := first) 4) (px_add (px_var (x := first) 4) (px_len T.n_len (px_var (x := rs.map (·.1)) 3).br)) (RgOk.of_le (by omega) (by rw [zl]; omega) (by omega) (by rw [zl]; omega)))))))) (fun _ => ?_) (fun v => by simp at v; exact absurd v q1)
      exact sd_ret (px_t2 (px_frz (px_lst (α := Int) lx_nil)) (px_var (x := ev) 5)) ⟨rfl, .is (.is .nil)⟩
    · rw [if_neg q1]
      refine sd_if (WX.tx (wx_or (tx_cmp (cr_isN (α := Int × Int) (x := some f) notN) (px_var (x := some f) 6) px_non) fun _ => wx_or1 (tx_cmp (cr_neD (α := List Int) hu (fun _ _ => trivial) (fun _ _ => trivial)) (px_var (x := rs.map (·.1)) 3) (px_frz (px_eq (m1 := nw Int) eR (px_listR2 T.n_list T.n_range (px_var (x := first) 4) (px_add (px_var (x := first) 4) (px_len T.n_len (px_var (x := rs.map (·.1)) 3).br)) (RgOk.of_le (by omega) (by rw [zl]; omega) (by omega) (by rw [zl]; omega)))))))) (fun v => by simp at v; exact absurd v q1) (fun _ => sd_nil ?_)
      by_cases q2 : lst = c.greatest
      · rw [if_pos q2]
        refine sd_if (tx_cmp cr_eq (px_ix (px_var (x := rs.map (·.1)) 3) (px_neg px_int) aN) (px_greatest T.cls_Course T.na_greatest (px_var (x := c) 0))) (fun _ => ?_) (fun v => absurd q2 (of_decide_eq_false v))
        exact sd_ret (px_t2 (px_frz (px_lst (xs := [(f.1 + first - 1) % ev]) (lx_cons (px_mod (px_sub (px_add (px_fst (px_unsome (px_var (x := some f) 6)) px_int) (px_var (x := first) 4)) px_int) (px_var (x := ev) 5) ev0) lx_nil))) (px_var (x := ev) 5)) ⟨rfl, .is (.is .nil)⟩
      · rw [if_neg q2]
        refine sd_if (tx_cmp cr_eq (px_ix (px_var (x := rs.map (·.1)) 3) (px_neg px_int) aN) (px_greatest T.cls_Course T.na_greatest (px_var (x := c) 0))) (fun v => absurd (of_decide_eq_true v) q2) (fun _ => sd_nil ?_)
        by_cases q3 : lst < c.greatest - 1
        · rw [if_pos q3]
          refine sd_if (tx_cmp cr_lt (px_ix (px_var (x := rs.map (·.1)) 3) (px_neg px_int) aN) (px_sub (px_greatest T.cls_Course T.na_greatest (px_var (x := c) 0)) px_int)) (fun _ => ?_) (fun v => absurd q3 (of_decide_eq_false v))
          exact sd_ret (px_t2 (px_frz (px_lst (α := Int) lx_nil)) (px_var (x := ev) 5)) ⟨rfl, .is (.is .nil)⟩
        · rw [if_neg q3]
          refine sd_if (tx_cmp cr_lt (px_ix (px_var (x := rs.map (·.1)) 3) (px_neg px_int) aN) (px_sub (px_greatest T.cls_Course T.na_greatest (px_var (x := c) 0)) px_int)) (fun v => absurd (of_decide_eq_true v) q3) (fun _ => sd_nil ?_)
          have hz : (rng 0 c.greatest.toNat).length < sizeLine := by rw [rng_len, sizeLine_eq]; omega
          refine sd_setLcG 7 (lcx_eq (List.map_id' _) (lcx_If (own := [("rest", 10)]) [10] (it_range1 T.n_range (px_greatest T.cls_Course T.na_greatest (px_var (x := c) 0)) (by omega) (by omega)) nd hz (f := fun r : Int => r) (k := fun r => !(look c.nameBy.l (c.greatest, r)).isSome) (Γt := fun r => ([.is c, .is l, .is rs, .is (rs.map (·.1)), .is first, .is ev, .is (some f), .no, .no, .no, .is r, .no] : DE))
            (fun r hr s H0 C cl fp => gx_name 10 nd) (fun r hr s H0 C cl fp => tx_dnotinT (by show A.units + 3 + 1 < cLine; omega) (px_t2 (px_greatest T.cls_Course T.na_greatest (px_var (x := c) 0)) (px_var (x := r) 10)) (px_nameBy T.cls_Course T.na_name_by (px_var (x := c) 0))) fun r hr _ s H0 C cl fp => px_var 10)) ?_
          have eg : (rng 0 c.greatest.toNat).filter (fun r => !(look c.nameBy.l (c.greatest, r)).isSome) = gapsC c := rfl
          rw [eg]
          generalize gapsC c = gaps at *
          refine sd_setLcG 8 (lcx (own := [("rest", 10)]) [10] (it_list (px_var (x := gaps) 7)) nd (by rw [sizeLine_eq]; omega) (f := fun r : Int => joinF f (r, c.greatest)) (Γt := fun r => ([.is c, .is l, .is rs, .is (rs.map (·.1)), .is first, .is ev, .is (some f), .is gaps, .no, .no, .is r, .no] : DE))
            (fun r hr s H0 C cl fp => gx_name 10 nd) fun r hr2 s H0 C cl fp => px_c ((can_joined T).mono (by decide)) hr (ax_cons (px_unsome (px_var (x := some f) 6)) (ax_cons (px_t2 (px_var (x := r) 10) (px_greatest T.cls_Course T.na_greatest (px_var (x := c) 0))) ax_nil)) ⟨f, (r, c.greatest), fp0, g0, by show c.greatest < 2 ^ 62; omega, rfl, rfl, rfl⟩ defOk_nil) ?_
          have sm := somes_map (fun r : Int => joinF f (r, c.greatest)) ((0 : Int), (0 : Int)) (fun p => (p.1 + first - 1) % ev) gaps
          generalize hos : gaps.map (fun r : Int => joinF f (r, c.greatest)) = os at *
          have ol : os.length ≤ 500 := by rw [← hos, List.length_map]; exact gl
          refine sd_ret (px_t2 (px_frz (px_eq (m1 := nw Int) (congrArg upI sm) (px_upI T.n_sorted (PX.nb (px_lcIf (own := [("pair", 11)]) [11] (it_list (px_var (x := os) 8)) nd (by rw [sizeLine_eq]; omega) (f := fun o : Option (Int × Int) => ((o.getD ((0 : Int), (0 : Int))).1 + first - 1) % ev) (k := Option.isSome) (Γt := fun o => ([.is c, .is l, .is rs, .is (rs.map (·.1)), .is first, .is ev, .is (some f), .is gaps, .is os, .no, .no, .is o] : DE))
            (fun o ho s H0 C cl fp => gx_name 11 nd) (fun o ho s H0 C cl fp => tx_cmp (cr_notN (x := o) notN) (px_var (x := o) 11) px_non) fun o ho hk s H0 C cl fp => ?_))))) (px_var (x := ev) 5)) ⟨rfl, .is (.is .nil)⟩
          cases o with
          | none => cases hk
          | some p => exact px_mod (px_sub (px_add (px_fst (px_unsome (px_var (x := some p) 11)) px_int) (px_var (x := first) 4)) px_int) (px_var (x := ev) 5) ev0
end
end P
namespace M
open PySem G SrtT P
abbrev Rw := List Str × Src
def rowA1 (b : Int) (t : Rw) : Rw := if b = 4 ∧ 1 < t.1.length then (t.1.eraseIdx (t.2.draw t.1.length).toNat, t.2.next t.1.length) else t
def rowA2 (b : Int) (o : Str) (t : Rw) : Rw := if b = 5 ∧ o ∉ t.1 then (t.1.set (t.2.draw t.1.length).toNat o, t.2.next t.1.length) else t
def rowA3 (b : Int) (o : Str) (t : Rw) : Rw := if b = 6 ∧ o ∉ t.1 then (t.1.take (t.2.draw (t.1.length + 1)).toNat ++ [o] ++ t.1.drop (t.2.draw (t.1.length + 1)).toNat, t.2.next (t.1.length + 1)) else t
def rowA4 (b : Int) (ns : List Str) (t : Rw) : Rw := if b = 7 then (sF t.2 ns 4, sS t.2 ns 4) else t
def strI (l : List Str) (i : Int) : Str := l.getD i.toNat Str.empty
def rowG (s : Src) (W : Stg) (ns : List Str) : Rw :=
  rowA4 (((s.next W.length).next ns.length).draw 8) ns (rowA3 (((s.next W.length).next ns.length).draw 8) (strI ns ((s.next W.length).draw ns.length)) (rowA2 (((s.next W.length).next ns.length).draw 8) (strI ns ((s.next W.length).draw ns.length)) (rowA1 (((s.next W.length).next ns.length).draw 8) (W.getD (s.draw W.length).toNat [], ((s.next W.length).next ns.length).next 8))))
theorem rowA1_few {ks : List Str} {b : Int} {t : Rw} (h : FewOf ks t.1) : FewOf ks (rowA1 b t).1 := by
  unfold rowA1
  split
  · rename_i c
    exact few_erase h c.2 _
  · exact h
theorem set_perm {l : List Str} {j : Nat} {o : Str} (h : j < l.length) : (l.set j o).Perm (o :: l.eraseIdx j) := by
  rw [List.set_eq_take_append_cons_drop, if_pos h, List.eraseIdx_eq_take_drop_succ]
  exact List.perm_middle
theorem rowA2_few {ks : List Str} {b : Int} {o : Str} {t : Rw} (ho : o ∈ ks) (h : FewOf ks t.1) : FewOf ks (rowA2 b o t).1 := by
  unfold rowA2
  split
  · rename_i c
    have hl := List.length_pos_iff.mpr h.ne
    have d0 := draw_nn (s := t.2) (m := t.1.length) (by omega)
    have d1 := draw_lt (s := t.2) (m := t.1.length) (by omega)
    have p := set_perm (l := t.1) (j := (t.2.draw t.1.length).toNat) (o := o) (by omega)
    refine ⟨fun z => ?_, p.nodup_iff.mpr (List.nodup_cons.mpr ⟨fun m => c.2 ((List.eraseIdx_sublist ..).subset m), h.once.sublist (List.eraseIdx_sublist ..)⟩), fun n hn => ?_⟩
    · have := congrArg List.length z
      rw [List.length_set] at this
      have this : t.1.length = 0 := this
      omega
    · rcases List.mem_cons.mp (p.mem_iff.mp hn) with z | z
      · rw [z]; exact ho
      · exact h.sub n ((List.eraseIdx_sublist ..).subset z)
  · exact h
theorem rowA3_few {ks : List Str} {b : Int} {o : Str} {t : Rw} (ho : o ∈ ks) (h : FewOf ks t.1) : FewOf ks (rowA3 b o t).1 := by
  unfold rowA3
  split
  · rename_i c
    generalize (t.2.draw (t.1.length + 1)).toNat = k
    have p : (t.1.take k ++ [o] ++ t.1.drop k).Perm (o :: t.1) := by
      rw [List.append_assoc]
      have q := List.perm_middle (a := o) (l₁ := t.1.take k) (l₂ := t.1.drop k)
      rwa [List.take_append_drop] at q
    refine ⟨by simp, p.nodup_iff.mpr (List.nodup_cons.mpr ⟨c.2, h.once⟩), fun n hn => ?_⟩
    rcases List.mem_cons.mp (p.mem_iff.mp hn) with z | z
    · rw [z]; exact ho
    · exact h.sub n z
  · exact h
theorem rowA4_few {ks ns : List Str} {b : Int} {t : Rw} (hn : FewOf ks ns) (h : FewOf ks t.1) : FewOf ks (rowA4 b ns t).1 := by
  unfold rowA4
  split
  · have := sF_few (s := t.2) hn.ne (most := 4) (by decide) hn.once
    exact ⟨this.ne, this.once, fun n h => hn.sub n (this.sub n h)⟩
  · exact h
theorem strI_is {l : List Str} {s : Src} (h : 0 < l.length) : l[(s.draw l.length).toNat]? = some (strI l (s.draw l.length)) ∧ strI l (s.draw l.length) ∈ l := by
  have d0 := draw_nn (s := s) (m := l.length) (by omega)
  have d1 := draw_lt (s := s) (m := l.length) (by omega)
  have e : l[(s.draw l.length).toNat]? = some (strI l (s.draw l.length)) := by
    unfold strI
    rw [List.getD_eq_getElem?_getD, List.getElem?_eq_getElem (by omega)]
    rfl
  exact ⟨e, List.mem_of_getElem? e⟩
theorem rowG_few {ks ns : List Str} {s : Src} {W : Stg} (hn : FewOf ks ns) (hW : 0 < W.length) (h : ∀ r ∈ W, FewOf ks r) : FewOf ks (rowG s W ns).1 := by
  have d0 := draw_nn (s := s) (m := W.length) (by omega)
  have d1 := draw_lt (s := s) (m := W.length) (by omega)
  have hl := List.length_pos_iff.mpr hn.ne
  have ho := hn.sub _ (strI_is (s := s.next W.length) hl).2
  have e : W[(s.draw W.length).toNat]? = some (W.getD (s.draw W.length).toNat []) := by
    rw [List.getD_eq_getElem?_getD, List.getElem?_eq_getElem (by omega)]; rfl
  exact rowA4_few hn (rowA3_few ho (rowA2_few ho (rowA1_few (h _ (List.mem_of_getElem? e)))))
theorem cdays_small {c : Crs} {rs : List (Int × Int)} (hc : CrsOk c) (h0 : 0 < rowEvery c.greatest rs) : (cdaysF c.greatest (gapsC c) rs).1.length ≤ 500 ∧ ∀ r ∈ (cdaysF c.greatest (gapsC c) rs).1, 0 ≤ r := by
  have g1 := hc.g1
  have gl : (gapsC c).length ≤ 500 := by
    have := List.length_filter_le (fun r => !(look c.nameBy.l (c.greatest, r)).isSome) (rng 0 c.greatest.toNat)
    rw [rng_len] at this
    have e : (rng 0 c.greatest.toNat).filter (fun r => !(look c.nameBy.l (c.greatest, r)).isSome) = gapsC c := rfl
    rw [e] at this
    omega
  have n0 : ([] : List Int).length ≤ 500 ∧ ∀ r ∈ ([] : List Int), 0 ≤ r := ⟨by decide, fun r h => by cases h⟩
  unfold cdaysF
  split
  · exact n0
  · rename_i f _
    split
    · exact n0
    · split
      · exact ⟨by show 1 ≤ 500; decide, fun r h => by rw [List.mem_singleton.mp h]; exact Int.emod_nonneg _ (by omega)⟩
      · split
        · exact n0
        · refine ⟨?_, fun r h => ?_⟩
          · have p := (upI_perm (((gapsC c).filterMap fun r => joinF f (r, c.greatest)).map fun p => (p.1 + (rs.map (·.1)).getD 0 0 - 1) % rowEvery c.greatest rs)).length_eq
            have q := List.length_filterMap_le (fun r => joinF f (r, c.greatest)) (gapsC c)
            rw [List.length_map] at p
            show (upI _).length ≤ 500
            omega
          · obtain ⟨p, _, rfl⟩ := List.mem_map.mp (upI_mem.mp h)
            exact Int.emod_nonneg _ (by omega)
end M
namespace L
open PySem PySem.Spec PyProof.Rows L2 G M P SrtT
open Rp (rp)
section
variable {P : Program} {w : World} {K : PySem.W.Frag} {mg : Str → Option Value} {base : Heap}
def r_lrow : DE → List Str → DE → Prop := fun Γ x Γ' => ∃ (ad : Addr) (s : Src) (R : Stg) (f : Int) (j : Nat), Good R ∧ Settled R ∧ R ≠ [] ∧ Γ = [.own ad s.l, .is (⟨cellsOf R f⟩ : Dk Str (Int × Int)), .is (f + j)] ∧ x = (rowG s (it j R) (ord ((cellsOf R f).map (·.1)))).1 ∧ Γ' = [.own ad (rowG s (it j R) (ord ((cellsOf R f).map (·.1)))).2.l, .is (⟨cellsOf R f⟩ : Dk Str (Int × Int)), .is (f + j)]
theorem row_rows {R : Stg} {f : Int} (h : Good R) (j : Nat) : ∀ r ∈ it j R, FewOf ((cellsOf R f).map (·.1)) r := fun r hr => ⟨(h.it j).full r hr, by
    have sub : List.Sublist r (folk (it j R)) := by
      unfold folk
      rw [List.flatMap_id]
      exact List.sublist_flatten_of_mem hr
    exact (h.it j).once.sublist sub, fun n hn => by
    rw [cells_names]
    exact (folk_it h.full' j).mem_iff.mp (folk_mem.mpr ⟨r, hr, hn⟩)⟩
theorem can_lrow (T : Txt K mg) : Can P w K mg base CX0 4 "_law_row" ps__law_row [] (spM K (sh (List Str)) 3 r_lrow) := by
  refine canD T.d__law_row sc__law_row b__law_row fun cdv A outer s0 H E Γ x Γ' hr hR => ?_
  obtain ⟨ad, s, R, f, j, hG, hS, hne, rfl, rfl, rfl⟩ := hR
  have nd := sc__law_row.nd
  have hu : A.units + 3 + 64 < cLine := hr.units
  have rows := row_rows (f := f) hG j
  have gj := hG.it j
  have jl := gj.len
  have once : ((cellsOf R f).map (·.1)).Nodup := by rw [cells_names]; exact hG.once
  have kfew : ((cellsOf R f).map (·.1)).length ≤ 450 := by rw [cells_names]; exact hG.few
  have hkn : ∀ n ∈ (cellsOf R f).map (·.1), isName n = true := fun n hn => by
    rw [cells_names] at hn
    obtain ⟨c, h1, h2⟩ := folk_mem.mp hn
    exact hG.names c h1 n h2
  have fne : folk R ≠ [] := fun z => by
    cases R with
    | nil => exact hne rfl
    | cons c R =>
      have hc := hG.full c List.mem_cons_self
      obtain ⟨n, hn⟩ := List.exists_mem_of_ne_nil _ hc
      have : n ∈ folk (c :: R) := folk_mem.mpr ⟨c, List.mem_cons_self, hn⟩
      rw [z] at this
      cases this
  have nsF : FewOf ((cellsOf R f).map (·.1)) (ord ((cellsOf R f).map (·.1))) := ⟨fun z => fne (by
    have p := (ord_perm ((cellsOf R f).map (·.1))).symm
    rw [z, cells_names] at p
    exact p.eq_nil), ord_nodup once, fun n hn => mem_ord.mp hn⟩
  have jne : 0 < (it j R).length := List.length_pos_iff.mpr fun z => fne (by
    have p := folk_it hG.full' j
    rw [z] at p
    exact p.symm.eq_nil)
  have nsl : (ord ((cellsOf R f).map (·.1))).length ≤ 450 := by rw [ord_len]; exact kfew
  have d0 := draw_nn (s := s) (m := (it j R).length) (by omega)
  have d1 := draw_lt (s := s) (m := (it j R).length) (by omega)
  refine sd_set 3 (px_c ((can_lfar T).mono (by decide)) hr (ax_cons (px_var (x := (⟨cellsOf R f⟩ : Dk Str (Int × Int))) 1) (ax_cons (px_var (x := f + (j : Int)) 2) ax_nil)) ⟨R, f, j, hG, hS, rfl, rfl, rfl⟩ defOk_nil) ?_ nd
  obtain ⟨q, hq⟩ : ∃ q : Nat, s.draw (it j R).length = (q : Int) := ⟨(s.draw (it j R).length).toNat, by omega⟩
  have ew : (it j R)[q]? = some ((it j R).getD q []) := by
    rw [List.getD_eq_getElem?_getD, List.getElem?_eq_getElem (by omega)]; rfl
  have rowsq := rows _ (List.mem_of_getElem? ew)
  refine sd_setO 4 (px_list T.n_list (px_ix (y := (it j R).getD q []) (px_var (x := it j R) 3) (px_cO 0 ((can_next T).mono (by decide)) hr (ax_own 0 (ax_cons (px_len T.n_len (px_var (x := it j R) 3).br) ax_nil)) rfl ⟨ad, s, ((it j R).length : Int), by omega, by omega, rfl, rfl, rfl⟩ defOk_nil) (by rw [hq]; exact ll_nat ew)).br) (fun a4 => ?_) nd
  refine sd_set 5 (px_frz (px_ordD T.n_sorted (px_var (x := (⟨cellsOf R f⟩ : Dk Str (Int × Int))) 1))) ?_ nd
  unfold rowG
  rw [show (s.draw (it j R).length).toNat = q by omega]
  generalize s.next (it j R).length = s1
  obtain ⟨row0, hrow0⟩ : ∃ r, (it j R).getD q [] = r := ⟨_, rfl⟩
  rw [hrow0] at rowsq ⊢
  obtain ⟨ns, hns⟩ : ∃ ns, ord ((cellsOf R f).map (·.1)) = ns := ⟨_, rfl⟩
  rw [hns] at nsF nsl ⊢
  have nl := List.length_pos_iff.mpr nsF.ne
  have e0 := draw_nn (s := s1) (m := ns.length) (by omega)
  obtain ⟨oi, oo⟩ := strI_is (s := s1) nl
  generalize (cellsOf R f).map (·.1) = ks at *
  show SD (cxN P w K mg base ns__law_row "_law_row" st__law_row (He.ga K "_law_row") cdv A outer s0 H E) (sh (List Str)) ([.own ad s1.l, .is (⟨cellsOf R f⟩ : Dk Str (Int × Int)), .is (f + (j : Int)), .is (it j R), .own a4 row0, .is ns, .no, .no] : DE) _ _
  refine sd_set 6 (px_ix (y := strI ns (s1.draw ns.length)) (px_var (x := ns) 5) (px_cO 0 ((can_next T).mono (by decide)) hr (ax_own 0 (ax_cons (px_len T.n_len (px_var (x := ns) 5).br) ax_nil)) rfl ⟨ad, s1, (ns.length : Int), by omega, by omega, rfl, rfl, rfl⟩ defOk_nil) (by
    have := ll_nat oi
    rwa [show (((s1.draw ns.length).toNat : Nat) : Int) = s1.draw ns.length by omega] at this)) ?_ nd
  generalize strI ns (s1.draw ns.length) = o at *
  generalize s1.next ns.length = s2
  have hos := nsF.sub o oo
  refine sd_set 7 (px_cO 0 ((can_next T).mono (by decide)) hr (ax_own 0 (ax_cons px_int ax_nil)) rfl ⟨ad, s2, 8, by decide, by decide, rfl, rfl, rfl⟩ defOk_nil) ?_ nd
  generalize s2.draw 8 = b
  generalize s2.next 8 = s3
  have short : ∀ {l : List Str}, FewOf ks l → l.length ≤ 450 ∧ 0 < l.length := fun f => ⟨Nat.le_trans f.len kfew, List.length_pos_iff.mpr f.ne⟩
  have t1 := rowA1_few (b := b) (t := (row0, s3)) rowsq
  obtain ⟨r1, hr1⟩ : ∃ r, rowA1 b (row0, s3) = r := ⟨_, rfl⟩
  refine sd_ifJ ([.own ad (rowA1 b (row0, s3)).2.l, .is (⟨cellsOf R f⟩ : Dk Str (Int × Int)), .is (f + (j : Int)), .is (it j R), .own a4 (rowA1 b (row0, s3)).1, .is ns, .is o, .is b] : DE) (WX.tx (wx_and (tx_cmp cr_eq (px_var (x := b) 7) px_int) fun _ => wx_and1 (tx_cmp cr_gt (px_len T.n_len (px_ownB 4)) px_int))) (fun z => ?_) (fun z => sd_nil ?_) ?_
  · simp only [Bool.and_eq_true, decide_eq_true_eq] at z
    have e : rowA1 b (row0, s3) = (row0.eraseIdx (s3.draw row0.length).toNat, s3.next row0.length) := if_pos ⟨z.1, (by show 1 < row0.length; omega)⟩
    rw [e]
    have q0 : (0 : Int) < row0.length := by omega
    have g0 := draw_nn (s := s3) q0
    have g1 := draw_lt (s := s3) q0
    obtain ⟨k, hk⟩ : ∃ k : Nat, s3.draw row0.length = (k : Int) := ⟨(s3.draw row0.length).toNat, by omega⟩
    have sl := short rowsq
    refine sd_expr (px_popAt (n := k) (y := row0.getD k Str.empty) 4 (by
      rw [← hk]
      exact px_cO 0 ((can_next T).mono (by decide)) hr (ax_own 0 (ax_cons (px_len T.n_len (px_ownB 4)) ax_nil)) rfl ⟨ad, s3, _, q0, by omega, rfl, rfl, rfl⟩ defOk_nil) rfl (at_of (by omega)) (by rw [sizeLine_eq]; omega)) (sd_nil ?_)
    rw [hk, Int.toNat_natCast]
    exact Wk.refl
  · have e : rowA1 b (row0, s3) = (row0, s3) := if_neg fun c => by
      have c2 : 1 < row0.length := c.2
      rw [decide_eq_true c.1, decide_eq_true (show (1 : Int) < (row0.length : Int) by omega)] at z
      cases z
    rw [e]
    exact Wk.refl
  rw [hr1] at t1 ⊢
  clear hr1 rowsq hrow0 ew
  have t2 := rowA2_few (b := b) (t := r1) hos t1
  obtain ⟨r2, hr2⟩ : ∃ r, rowA2 b o r1 = r := ⟨_, rfl⟩
  obtain ⟨row, sr⟩ := r1
  refine sd_ifJ ([.own ad (rowA2 b o (row, sr)).2.l, .is (⟨cellsOf R f⟩ : Dk Str (Int × Int)), .is (f + (j : Int)), .is (it j R), .own a4 (rowA2 b o (row, sr)).1, .is ns, .is o, .is b] : DE) (WX.tx (wx_and (tx_cmp cr_eq (px_var (x := b) 7) px_int) fun _ => wx_and1 (tx_cmp cr_notInL (px_var (x := o) 6) (px_ownB 4)))) (fun z => ?_) (fun z => sd_nil ?_) ?_
  · simp only [Bool.and_eq_true, decide_eq_true_eq, Bool.not_eq_true', decide_eq_false_iff_not] at z
    have e : rowA2 b o (row, sr) = (row.set (sr.draw row.length).toNat o, sr.next row.length) := if_pos z
    rw [e]
    have sl : row.length ≤ 450 ∧ 0 < row.length := short t1
    have q0 : (0 : Int) < row.length := by omega
    have g0 := draw_nn (s := sr) q0
    have g1 := draw_lt (s := sr) q0
    obtain ⟨k, hk⟩ : ∃ k : Nat, sr.draw row.length = (k : Int) := ⟨(sr.draw row.length).toNat, by omega⟩
    have kl : k < row.length := by omega
    refine sd_setixE (j := k) (i1 := (k : Int)) 4 (px_var (x := o) 6) (by
      rw [← hk]
      exact px_cO 0 ((can_next T).mono (by decide)) hr (ax_own 0 (ax_cons (px_len T.n_len (px_ownB 4)) ax_nil)) rfl ⟨ad, sr, _, q0, by omega, rfl, rfl, rfl⟩ defOk_nil) rfl (by show ixN row.length (k : Int) = some k; unfold ixN; rw [if_pos (by omega), if_pos (by omega), Int.toNat_natCast]) (sd_nil ?_)
    rw [hk, Int.toNat_natCast]
    exact Wk.refl
  · have e : rowA2 b o (row, sr) = (row, sr) := if_neg fun c => by
      simp [c.1, c.2] at z
    rw [e]
    exact Wk.refl
  rw [hr2] at t2 ⊢
  clear hr2 t1
  have t3 := rowA3_few (b := b) (t := r2) hos t2
  obtain ⟨r3, hr3⟩ : ∃ r, rowA3 b o r2 = r := ⟨_, rfl⟩
  obtain ⟨row, sr⟩ := r2
  refine sd_ifJ ([.own ad (rowA3 b o (row, sr)).2.l, .is (⟨cellsOf R f⟩ : Dk Str (Int × Int)), .is (f + (j : Int)), .is (it j R), .own a4 (rowA3 b o (row, sr)).1, .is ns, .is o, .is b] : DE) (WX.tx (wx_and (tx_cmp cr_eq (px_var (x := b) 7) px_int) fun _ => wx_and1 (tx_cmp cr_notInL (px_var (x := o) 6) (px_ownB 4)))) (fun z => ?_) (fun z => sd_nil ?_) ?_
  · simp only [Bool.and_eq_true, decide_eq_true_eq, Bool.not_eq_true', decide_eq_false_iff_not] at z
    have e : rowA3 b o (row, sr) = (row.take (sr.draw (row.length + 1)).toNat ++ [o] ++ row.drop (sr.draw (row.length + 1)).toNat, sr.next (row.length + 1)) := if_pos z
    rw [e]
    have sl : row.length ≤ 450 ∧ 0 < row.length := short t2
    have q0 : (0 : Int) < (row.length : Int) + 1 := by omega
    have g0 := draw_nn (s := sr) q0
    have g1 := draw_lt (s := sr) q0
    obtain ⟨k, hk⟩ : ∃ k : Nat, sr.draw ((row.length : Int) + 1) = (k : Int) := ⟨(sr.draw ((row.length : Int) + 1)).toNat, by omega⟩
    refine sd_insert (n := k) 4 (by
      rw [← hk]
      exact px_cO 0 ((can_next T).mono (by decide)) hr (ax_own 0 (ax_cons (px_add (px_len T.n_len (px_ownB 4)) px_int) ax_nil)) rfl ⟨ad, sr, _, q0, by omega, rfl, rfl, rfl⟩ defOk_nil) (px_var (x := o) 6) rfl (by show row.length < sizeLine; rw [sizeLine_eq]; omega) (by omega) (sd_nil ?_)
    rw [hk, Int.toNat_natCast]
    exact Wk.refl
  · have e : rowA3 b o (row, sr) = (row, sr) := if_neg fun c => by
      simp [c.1, c.2] at z
    rw [e]
    exact Wk.refl
  rw [hr3] at t3 ⊢
  clear hr3 t2
  obtain ⟨row, sr⟩ := r3
  refine sd_give 4 ?_
  refine sd_ifJ ([.own ad (rowA4 b ns (row, sr)).2.l, .is (⟨cellsOf R f⟩ : Dk Str (Int × Int)), .is (f + (j : Int)), .is (it j R), .is (rowA4 b ns (row, sr)).1, .is ns, .is o, .is b] : DE) (tx_cmp cr_eq (px_var (x := b) 7) px_int) (fun z => ?_) (fun z => sd_nil ?_) ?_
  · have e : rowA4 b ns (row, sr) = (sF sr ns 4, sS sr ns 4) := if_pos (of_decide_eq_true z)
    rw [e]
    exact sd_set 4 (px_cO 0 ((can_lsome T).mono (by decide)) hr (ax_own 0 (ax_cons (px_var (x := ns) 5) (ax_cons px_int ax_nil))) rfl ⟨ad, sr, ns, 4, nsF.ne, nsl, by decide, rfl, rfl, rfl⟩ defOk_nil) (sd_nil Wk.refl) nd
  · have e : rowA4 b ns (row, sr) = (row, sr) := if_neg (of_decide_eq_false z)
    rw [e]
    exact Wk.refl
  exact sd_ret (px_var 4) ⟨rfl, .own (.is (.is .nil))⟩
def r_law : DE → Bool → DE → Prop := fun Γ x Γ' => ∃ xs : Scr Int, xs.l.length ≤ 63 ∧ Γ = [.is xs] ∧ x = true ∧ Γ' = Γ
theorem can_law (T : Txt K mg) : Can P w K mg base CX0 10 "law" ps_law [] (spM K (sh Bool) 1 r_law) := by
  refine canD T.d_law sc_law b_law fun cdv A outer s H E Γ x Γ' hr hR => ?_
  obtain ⟨xs, hx, rfl, rfl, rfl⟩ := hR
  have nd := sc_law.nd
  have hu : A.units + 3 + 64 < cLine := hr.units
  have hu5 : A.units + 3 + 65 < cLine := by
    have q : A.units + 3 + 16 * 9 + 200 < cLine := hr.un
    omega
  have hr8 : Room 8 (cxN P w K mg base ns_law "law" st_law (He.ga K "law") cdv A outer s H E).A := hr.mono (by decide)
  have e1 : bootBuiltins "list" = some (.type "list") := by decide +kernel
  refine sd_fold (ts := [1]) (it_range1 T.n_range (px_max2 T.n_max px_int (px_min2 T.n_min px_int (px_lenS T.n_len (px_var 0)))) (by omega) (by omega)) (fun _ : Unit => [.is xs, .no, .no, .no, .no, .no, .no, .no, .no, .no, .no, .no, .no, .no, .no, .no, .no, .no]) (fun _ _ => ()) () Wk.refl (fun _ k hk => ⟨_, gx_name 1 nd, ?_⟩) ?_
  · have hk := rng_mem hk
    refine sd_setO 2 (px_c ((can_source T).mono (by decide)) hr (ax_cons (px_var 0) (ax_cons (px_var 1) ax_nil)) ⟨xs, k, by omega, rfl, rfl, rfl⟩ defOk_nil) (fun ad => ?_) nd
    generalize srcOf xs.l k = s0
    have c0 := draw_nn (s := s0) (m := 3) (by decide)
    have c1 := draw_lt (s := s0) (m := 3) (by decide)
    obtain ⟨m, hm, m0, m1⟩ : ∃ m, atI ([40, 9, 399] : List Int) (s0.draw 3) = some m ∧ 0 < m ∧ m ≤ 399 := by
      have : s0.draw 3 = 0 ∨ s0.draw 3 = 1 ∨ s0.draw 3 = 2 := by omega
      rcases this with e | e | e <;> rw [e]
      · exact ⟨_, rfl, by decide, by decide⟩
      · exact ⟨_, rfl, by decide, by decide⟩
      · exact ⟨_, rfl, by decide, by decide⟩
    have d0 := draw_nn (s := s0.next 3) m0
    have d1 := draw_lt (s := s0.next 3) m0
    obtain ⟨many, hmany⟩ : ∃ many, 1 + (s0.next 3).draw m = many := ⟨_, rfl⟩
    have hn := names_ok ((s0.next 3).next m) (show 0 ≤ many by omega) (show many ≤ 700 by omega)
    have hS := stand_good (((((s0.next 3).next m).next 4).next 4)) hn (by omega)
    have hfolk := stand_folk ((((s0.next 3).next m).next 4).next 4) (namesOf ((s0.next 3).next m) many)
    have hSne : standOf ((((s0.next 3).next m).next 4).next 4) (namesOf ((s0.next 3).next m) many) ≠ [] := fun z => by
      rw [z] at hfolk
      have := hn.len
      rw [← hfolk] at this
      have : ((0 : Nat) : Int) = many := this
      omega
    refine sd_set 3 (px_eq (m1 := sh Int) hmany (px_add px_int (px_cO 2 ((can_next T).mono (by decide)) hr (ax_own 2 (ax_cons (px_ix (px_frz (px_lst (xs := ([40, 9, 399] : List Int)) (lx_cons px_int (lx_cons px_int (lx_cons px_int lx_nil))))) (px_cO 2 ((can_next T).mono (by decide)) hr (ax_own 2 (ax_cons px_int ax_nil)) rfl ⟨ad, s0, 3, by decide, by decide, rfl, rfl, rfl⟩ defOk_nil) hm) ax_nil)) rfl ⟨ad, s0.next 3, m, m0, by omega, rfl, rfl, rfl⟩ defOk_nil))) ?_ nd
    refine sd_set 4 (px_cO 2 ((can_lstanding T).mono (by decide)) hr (ax_own 2 (ax_cons (px_frz (px_cO 2 ((can_lnames T).mono (by decide)) hr (ax_own 2 (ax_cons (px_var (x := many) 3) ax_nil)) rfl ⟨ad, (s0.next 3).next m, many, by omega, by omega, rfl, rfl, rfl⟩ defOk_nil)) ax_nil)) rfl ⟨ad, _, _, many, hn, by omega, rfl, rfl, rfl⟩ defOk_nil) ?_ nd
    generalize standOf ((((s0.next 3).next m).next 4).next 4) (namesOf ((s0.next 3).next m) many) = S at *
    generalize standSrc ((((s0.next 3).next m).next 4).next 4) (namesOf ((s0.next 3).next m) many) = s2
    show SD (cxN P w K mg base ns_law "law" st_law (He.ga K "law") cdv A outer s H E) (sh Bool) ([.is xs, .is k, .own ad s2.l, .is many, .is S, .no, .no, .no, .no, .no, .no, .no, .no, .no, .no, .no, .no, .no] : DE) _ _
    refine sd_set 5 (px_c ((can_lsettled_walk T).mono (by decide)) hr (ax_cons (px_var (x := S) 4) ax_nil) ⟨S, hS, rfl, rfl, rfl⟩ defOk_nil) ?_ nd
    have ef : ((rowsN S (firstDay S + 1)).length : Int) - 1 = (firstDay S : Int) := by rw [rowsN_len]; omega
    refine sd_set 6 (px_eq (m1 := sh Int) ef (px_sub (px_len T.n_len (px_var (x := rowsN S (firstDay S + 1)) 5).br) px_int)) ?_ nd
    refine sd_set 7 (px_c ((can_lrings T).mono (by decide)) hr (ax_cons (px_ix (px_var (x := rowsN S (firstDay S + 1)) 5) (px_neg px_int) rowsN_end) (ax_cons (px_var (x := (firstDay S : Int)) 6) ax_nil)) ⟨it (firstDay S) S, (firstDay S : Int), hS.it _, rfl, rfl, rfl⟩ defOk_nil) ?_ nd
    refine sd_set 8 (px_course T hr8 (px_var (x := S) 4) hS) ?_ nd
    have mk := made hS
    have fl := firstDay_le hS
    have hne : it (firstDay S) S ≠ [] := fun z => by
      have p := folk_it hS.full' (firstDay S)
      rw [z] at p
      have := p.symm.eq_nil
      cases hSS : S with
      | nil => exact hSne hSS
      | cons c S' =>
        have hc := hS.full c (by rw [hSS]; exact List.mem_cons_self)
        obtain ⟨n, hn⟩ := List.exists_mem_of_ne_nil _ hc
        have : n ∈ folk S := folk_mem.mpr ⟨c, by rw [hSS]; exact List.mem_cons_self, hn⟩
        rw [‹folk S = []›] at this
        cases this
    have hd := dict_okD mk hne
    have hcr := mk.rings
    have gR := hS.it (firstDay S)
    have sR := (firstDay_is hS).1
    have hdl : (cellsOf (it (firstDay S) S) (firstDay S : Int)).length ≤ 450 := by
      have := congrArg List.length (cells_names (it (firstDay S) S) (firstDay S : Int))
      rw [List.length_map] at this
      rw [this]; exact gR.few
    show SD (cxN P w K mg base ns_law "law" st_law (He.ga K "law") cdv A outer s H E) (sh Bool) ([.is xs, .is k, .own ad s2.l, .is many, .is S, .is (rowsN S (firstDay S + 1)), .is (firstDay S : Int), .is (⟨cellsOf (it (firstDay S) S) (firstDay S : Int)⟩ : Dk Str (Int × Int)), .is (mkCrs S (firstDay S)), .no, .no, .no, .no, .no, .no, .no, .no, .no] : DE) _ _
    generalize rowsN S (firstDay S + 1) = W
    generalize mkCrs S (firstDay S) = c at *
    generalize hRR : it (firstDay S) S = R at *
    generalize firstDay S = f at *
    have cok := mk.ok.ok
    have g0 : 0 < c.greatest := by
      obtain ⟨p, hp, e⟩ := hd.one
      obtain ⟨x, kk⟩ := p
      simp only at e
      subst e
      rw [hcr] at hp
      obtain ⟨n, q, hc, e⟩ := mem_cells.mp hp
      have := greatest_up (f := (f : Int)) (show (cell R n q).isSome by rw [hc]; rfl)
      rw [mk.great]
      omega
    rw [hcr] at hd
    have p9 : (10 : Int) ^ (9 : Int).toNat = 1000000000 := by decide
    have big : (1000000000 : Int) < 2 ^ 300 := by decide
    refine sd_for (ts := [9]) (N := fun Γ' => Wk Γ' ([.is xs, .no, .no, .no, .no, .no, .no, .no, .no, .no, .no, .no, .no, .no, .no, .no, .no, .no] : DE)) (it_range1 T.n_range px_int (by decide) (by decide))
      (fun i Γ' => ∃ (q : Src) (e9 e10 e11 e12 e13 e14 e15 e16 : Ent), Γ' = ([.is xs, .is k, .own ad q.l, .is many, .is S, .is W, .is (f : Int), .is (⟨cellsOf R (f : Int)⟩ : Dk Str (Int × Int)), .is c, e9, e10, e11, e12, e13, e14, e15, e16, .no] : DE)) ⟨s2, _, _, _, _, _, _, _, _, rfl⟩ (fun i y Γ' hy hi => ?_) (fun Γ' hi => ?_) (fun Γ' w => sd_nil w)
    · obtain ⟨q, e9, e10, e11, e12, e13, e14, e15, e16, rfl⟩ := hi
      refine ⟨_, gx_name 9 nd, ?_⟩
      have w0 := draw_nn (s := q) (m := 1000000000) (by decide)
      obtain ⟨j, hj⟩ : ∃ j : Nat, q.draw 1000000000 = (j : Int) := ⟨(q.draw 1000000000).toNat, by omega⟩
      refine sd_set 10 (px_eq (m1 := sh Int) (show (f : Int) + q.draw (10 ^ (9 : Int).toNat) = (f : Int) + (j : Int) by rw [p9, hj]) (px_add (px_var (x := (f : Int)) 6) (px_cO 2 ((can_next T).mono (by decide)) hr (ax_own 2 (ax_cons (px_pow px_int px_int ⟨by decide, by decide, by decide⟩) ax_nil)) rfl ⟨ad, q, 10 ^ (9 : Int).toNat, by decide, by decide, rfl, rfl, rfl⟩ defOk_nil))) ?_ nd
      rw [p9]
      generalize q.next 1000000000 = q1
      refine sd_set 11 (px_cO 2 ((can_lrow T).mono (by decide)) hr (ax_own 2 (ax_cons (px_var (x := (⟨cellsOf R (f : Int)⟩ : Dk Str (Int × Int))) 7) (ax_cons (px_var (x := (f : Int) + (j : Int)) 10) ax_nil))) rfl ⟨ad, q1, R, (f : Int), j, gR, sR, hne, rfl, rfl, rfl⟩ defOk_nil) ?_ nd
      have once : ((cellsOf R (f : Int)).map (·.1)).Nodup := by rw [cells_names]; exact gR.once
      have jne : 0 < (it j R).length := by
        refine List.length_pos_iff.mpr fun z => hd.ne ?_
        have p := folk_it gR.full' j
        rw [z] at p
        rw [cells_names]
        exact p.symm.eq_nil
      have few := rowG_few (s := q1) (W := it j R) (ns := ord ((cellsOf R (f : Int)).map (·.1))) ⟨fun z => hd.ne (by
        have p := (ord_perm ((cellsOf R (f : Int)).map (·.1))).symm
        rw [z] at p
        exact p.eq_nil), ord_nodup once, fun n hn => mem_ord.mp hn⟩ jne (row_rows (f := (f : Int)) gR j)
      generalize rowG q1 (it j R) (ord ((cellsOf R (f : Int)).map (·.1))) = rq at *
      obtain ⟨fl, q2⟩ := rq
      have few : FewOf ((cellsOf R (f : Int)).map (·.1)) fl := few
      show SD (cxN P w K mg base ns_law "law" st_law (He.ga K "law") cdv A outer s H E) (sh Bool) ([.is xs, .is k, .own ad q2.l, .is many, .is S, .is W, .is (f : Int), .is (⟨cellsOf R (f : Int)⟩ : Dk Str (Int × Int)), .is c, .is y, .is ((f : Int) + (j : Int)), .is fl, e12, e13, e14, e15, e16, .no] : DE) _ _
      have fo : FolkOk (cellsOf R (f : Int)) fl := hd.folk few
      have fo1 : FolkOk c.ringBy.l fl := by rw [hcr]; exact fo
      have rfew : FewOf ((cellsOf R (f : Int)).map (·.1)) fl.reverse := ⟨by simpa using few.ne, (List.reverse_perm fl).nodup_iff.mpr few.once, fun n hn => few.sub n (List.mem_reverse.mp hn)⟩
      have ro : FolkOk (cellsOf R (f : Int)) fl.reverse := hd.folk rfew
      have ro1 : FolkOk c.ringBy.l fl.reverse := by rw [hcr]; exact ro
      have fin : De.good fl := fun z hz => (isName_ok (fo.names z hz)).2
      have mean := fun j => cdays_mean mk fo1 g0 j
      refine sd_set 12 (px_frz (px_list T.n_list (px_var (x := fl) 11).br)) ?_ nd
      refine sd_asgTL (xs := (cdaysF c.greatest (gapsC c) (fl.map (ringIn c.ringBy.l))).1) (y := (cdaysF c.greatest (gapsC c) (fl.map (ringIn c.ringBy.l))).2) 13 14 (px_m ((can_company_daysT T).mono (by decide)) hr (px_var (x := c) 8) (ax_cons (px_var (x := fl) 11) ax_nil) ⟨c, fl, cok, fo1, g0, rfl, rfl, rfl⟩) (fun a13 => ?_) nd
      have snd_e : (cdaysF c.greatest (gapsC c) (fl.map (ringIn c.ringBy.l))).2 = rowEvery c.greatest (fl.map (ringIn c.ringBy.l)) := by
        unfold cdaysF
        split
        · rfl
        · split
          · rfl
          · split
            · rfl
            · split <;> rfl
      have evp : 0 < rowEvery c.greatest (fl.map (ringIn c.ringBy.l)) := by
        rw [← every_eq g0 (fun p hp => by
          obtain ⟨n, hn, rfl⟩ := List.mem_map.mp hp
          exact (fo1.look hn).2)]
        exact lcmL_pos (fun n hn => by
          obtain ⟨p, hp, rfl⟩ := List.mem_map.mp hn
          obtain ⟨x, hx, rfl⟩ := List.mem_map.mp hp
          exact (fo1.look hx).2.pos) _ g0
      rw [hcr] at mean snd_e evp ⊢
      have rl : (cdaysF c.greatest (gapsC c) (fl.map (ringIn (cellsOf R (f : Int))))).1.length ≤ 500 ∧ ∀ r ∈ (cdaysF c.greatest (gapsC c) (fl.map (ringIn (cellsOf R (f : Int))))).1, 0 ≤ r := cdays_small cok evp
      obtain ⟨rests, hrests⟩ : ∃ z, (cdaysF c.greatest (gapsC c) (fl.map (ringIn (cellsOf R (f : Int))))).1 = z := ⟨_, rfl⟩
      obtain ⟨ev, hev⟩ : ∃ z, rowEvery c.greatest (fl.map (ringIn (cellsOf R (f : Int)))) = z := ⟨_, rfl⟩
      have hcd : cdaysF c.greatest (gapsC c) (fl.map (ringIn (cellsOf R (f : Int)))) = (rests, ev) := Prod.ext hrests (snd_e.trans hev)
      rw [hev] at evp
      rw [hrests] at rl
      show SD (cxN P w K mg base ns_law "law" st_law (He.ga K "law") cdv A outer s H E) (sh Bool) ([.is xs, .is k, .own ad q2.l, .is many, .is S, .is W, .is (f : Int), .is (⟨cellsOf R (f : Int)⟩ : Dk Str (Int × Int)), .is c, .is y, .is ((f : Int) + (j : Int)), .is fl, .is fl, .own a13 (cdaysF c.greatest (gapsC c) (fl.map (ringIn (cellsOf R (f : Int))))).1, .is (cdaysF c.greatest (gapsC c) (fl.map (ringIn (cellsOf R (f : Int))))).2, e15, e16, .no] : DE) _ _
      have mean2 : ∀ j : Nat, fl ∈ it j R ↔ ((f : Int) + j) % ev ∈ rests := fun j => by
        have := mean j
        rw [hcd, hev] at this
        exact this
      rw [hcd]
      show SD (cxN P w K mg base ns_law "law" st_law (He.ga K "law") cdv A outer s H E) (sh Bool) ([.is xs, .is k, .own ad q2.l, .is many, .is S, .is W, .is (f : Int), .is (⟨cellsOf R (f : Int)⟩ : Dk Str (Int × Int)), .is c, .is y, .is ((f : Int) + (j : Int)), .is fl, .is fl, .own a13 rests, .is ev, e15, e16, .no] : DE) _ _
      have gdP : ∀ t : List Int × Int, De.good t := fun t => ⟨fun _ _ => trivial, trivial⟩
      refine sd_if (WX.tx (wx_or (tx_lent (Γw := ([.no, .no, .no, .no, .no, .no, .no, .is (⟨cellsOf R (f : Int)⟩ : Dk Str (Int × Int)), .no, .no, .no, .no, .is fl, .is rests, .is ev, .no, .no, .no] : DE)) 13 (tx_cmp (cr_neD (α := List Int × Int) hu (gdP _) (gdP _)) (px_t2 (px_var (x := rests) 13) (px_var (x := ev) 14)) (px_lockK 7 mdLk_sh trivial fun ad2 od => px_c ((can_ldueC T).mono (by decide)) hr (ax_cons (px_var (x := fl) 12) (ax_res 7 ax_nil)) ⟨c, R, (f : Int), fl, cellsOf R (f : Int), ad2, od, mk, cok, g0, hcr, hdl, fo, rfl, rfl, rfl⟩ defOk_nil)) rfl (by exact (.no (.no (.no (.no (.no (.no (.no (.same (.no (.no (.no (.no (.same (.same (.same (.no (.no (.no .nil)))))))))))))))))))) fun _ => wx_or (tx_lent (Γw := ([.no, .no, .no, .no, .no, .no, .no, .no, .no, .no, .no, .no, .no, .is rests, .no, .no, .no, .no] : DE)) 13 (tx_not (tx_val (px_isiV (z := true) (t := "list") T.n_isinstance (px_var (x := rests) 13) (px_ty T.n_list e1) (by decide +kernel) fun _ _ _ _ r le => ty_lst r le))) rfl (by exact (.no (.no (.no (.no (.no (.no (.no (.no (.no (.no (.no (.no (.no (.same (.no (.no (.no (.no .nil)))))))))))))))))))) fun _ => wx_or1 (tx_cmp (cr_neD hu fin fin) (px_var (x := fl) 11) (px_var (x := fl) 12)))) (fun v => ?_) (fun _ => sd_nil ?_)
      · rw [hcd] at v
        simp at v
      have v0 := draw_nn (s := q2) (m := 1000000000) (by decide)
      refine sd_set 15 (px_frz (px_lst (xs := [(f : Int) + (j : Int), (f : Int), (f : Int) + q2.draw (10 ^ (9 : Int).toNat)]) (lx_cons (px_var (x := (f : Int) + (j : Int)) 10) (lx_cons (px_var (x := (f : Int)) 6) (lx_cons (px_add (px_var (x := (f : Int)) 6) (px_cO 2 ((can_next T).mono (by decide)) hr (ax_own 2 (ax_cons (px_pow px_int px_int ⟨by decide, by decide, by decide⟩) ax_nil)) rfl ⟨ad, q2, 10 ^ (9 : Int).toNat, by decide, by decide, rfl, rfl, rfl⟩ defOk_nil)) lx_nil))))) ?_ nd
      rw [p9]
      obtain ⟨days, hdays, hdp⟩ : ∃ days : List Int, [(f : Int) + (j : Int), (f : Int), (f : Int) + q2.draw 1000000000] = days ∧ ∀ x ∈ days ++ rests.map (fun r => ev * ((f : Int) + 1) + r), (f : Int) ≤ x := ⟨_, rfl, fun x hx => by
        have e0 : 1 * ((f : Int) + 1) ≤ ev * ((f : Int) + 1) := Int.mul_le_mul_of_nonneg_right (by omega) (by omega)
        rcases List.mem_append.mp hx with z | z
        · simp only [List.mem_cons, List.not_mem_nil, or_false] at z
          omega
        · obtain ⟨r, hr2, rfl⟩ := List.mem_map.mp z
          have := rl.2 r hr2
          omega⟩
      have dl : days.length = 3 := by rw [← hdays]; rfl
      rw [hdays]
      generalize q2.next 1000000000 = q3
      show SD (cxN P w K mg base ns_law "law" st_law (He.ga K "law") cdv A outer s H E) (sh Bool) ([.is xs, .is k, .own ad q3.l, .is many, .is S, .is W, .is (f : Int), .is (⟨cellsOf R (f : Int)⟩ : Dk Str (Int × Int)), .is c, .is y, .is ((f : Int) + (j : Int)), .is fl, .is fl, .own a13 rests, .is ev, .is days, e16, .no] : DE) _ _
      refine sd_for (ts := [16]) (N := fun Γ' => ∃ e16, Γ' = ([.is xs, .is k, .own ad q3.l, .is many, .is S, .is W, .is (f : Int), .is (⟨cellsOf R (f : Int)⟩ : Dk Str (Int × Int)), .is c, .is y, .is ((f : Int) + (j : Int)), .is fl, .is fl, .own a13 rests, .is ev, .is days, e16, .no] : DE))
        (it_list (px_frz (px_cat (px_var (x := days) 15) (px_frz (px_lentN (Γw := ([.no, .no, .no, .no, .no, .no, .is (f : Int), .no, .no, .no, .no, .no, .no, .is rests, .is ev, .no, .no, .no] : DE)) 13 (px_lc (own := [("_law_rest", 17)]) [17] (it_list (px_var (x := rests) 13)) nd (by rw [sizeLine_eq]; omega) (f := fun r : Int => ev * ((f : Int) + 1) + r) (Γt := fun r => ([.no, .no, .no, .no, .no, .no, .is (f : Int), .no, .no, .no, .no, .no, .no, .is rests, .is ev, .no, .no, .is r] : DE)) (fun r hr s H0 C cl fp => gx_name 17 nd) fun r hr s H0 C cl fp => px_add (px_mulR (px_var (x := ev) 14) (px_add (px_var (x := (f : Int)) 6) px_int) ⟨by omega, by omega⟩) (px_var (x := r) 17)) rfl (by exact (.no (.no (.no (.no (.no (.no (.same (.no (.no (.no (.no (.no (.no (.same (.same (.no (.no (.no .nil))))))))))))))))))))) (by rw [List.length_map, sizeLine_eq]; omega))))
        (fun i Γ' => ∃ e16, Γ' = ([.is xs, .is k, .own ad q3.l, .is many, .is S, .is W, .is (f : Int), .is (⟨cellsOf R (f : Int)⟩ : Dk Str (Int × Int)), .is c, .is y, .is ((f : Int) + (j : Int)), .is fl, .is fl, .own a13 rests, .is ev, .is days, e16, .no] : DE)) ⟨_, rfl⟩ (fun i x Γ' hx2 hi => ?_) (fun Γ' hi => hi) (fun Γ' hi => ?_)
      · obtain ⟨e16, rfl⟩ := hi
        have x0 := hdp x (List.mem_of_getElem? hx2)
        obtain ⟨jx, hjx⟩ : ∃ jx : Nat, x = (f : Int) + (jx : Int) := ⟨(x - f).toNat, by omega⟩
        have on := mk.on jx
        rw [← hjx] at on
        refine ⟨_, gx_name 16 nd, ?_⟩
        have gj : ∀ z ∈ it jx R, De.good z := fun z hz n hn => (gR.it jx).fine hz n hn |>.2
        refine sd_if (tx_cmp cr_ne (px_cmp (cr_inD hu5 fin gj) (px_var (x := fl) 11) (px_eq (m1 := sh Stg) on (px_frz (px_m ((can_on_day T).mono (by decide)) hr (px_var (x := c) 8) (ax_cons (px_var (x := x) 16) ax_nil) ⟨c, x, cok, by omega, rfl, rfl, rfl⟩)))) (px_cmp cr_inL (px_mod (px_var (x := x) 16) (px_var (x := ev) 14) evp) (px_ownB 13))) (fun v => ?_) (fun _ => sd_nil (sd_nil ⟨_, Wk.refl, .is x, rfl⟩))
        have := mean2 jx
        rw [← hjx] at this
        exact absurd (decide_eq_decide.mpr this) (nd_true v)
      · obtain ⟨e16, rfl⟩ := hi
        refine sd_wk (.same (.same (.same (.same (.same (.same (.same (.same (.same (.same (.same (.same (.same (.same (.same (.same (.no (.same .nil)))))))))))))))))) ?_
        refine sd_append 13 px_int rfl (by rw [sizeLine_eq]; omega) ?_
        refine sd_if (tx_cmp (cr_neD (α := List Int × Int) hu (gdP _) (gdP _)) (px_m ((can_company_days T).mono (by decide)) hr (px_var (x := c) 8) (ax_cons (px_frz (px_rev (px_var (x := fl) 11))) ax_nil) ⟨c, fl.reverse, cok, ro1, g0, rfl, rfl, rfl⟩) (px_lockK 7 mdLk_sh (by exact ⟨lk_lst, lk_lst, trivial⟩) fun ad2 od => px_c ((can_ldueC T).mono (by decide)) hr (ax_cons (px_frz (px_rev (px_var (x := fl) 11))) (ax_res 7 ax_nil)) ⟨c, R, (f : Int), fl.reverse, cellsOf R (f : Int), ad2, od, mk, cok, g0, hcr, hdl, ro, rfl, rfl, rfl⟩ defOk_nil)) (fun v => ?_) (fun _ => sd_nil ?_)
        · rw [hcr] at v
          simp at v
        refine sd_if (tx_cmp (cr_neD (α := List Int × Int) hu (gdP _) (gdP _)) (px_m ((can_company_days T).mono (by decide)) hr (px_var (x := c) 8) (ax_cons (px_var (x := fl) 11) ax_nil) ⟨c, fl, cok, fo1, g0, rfl, rfl, rfl⟩) (px_lockK 7 mdLk_sh (by exact ⟨lk_lst, lk_lst, trivial⟩) fun ad2 od => px_c ((can_ldueC T).mono (by decide)) hr (ax_cons (px_var (x := fl) 11) (ax_res 7 ax_nil)) ⟨c, R, (f : Int), fl, cellsOf R (f : Int), ad2, od, mk, cok, g0, hcr, hdl, fo, rfl, rfl, rfl⟩ defOk_nil)) (fun v => ?_) (fun _ => sd_nil (sd_nil ⟨_, Wk.refl, q3, .is y, .is ((f : Int) + (j : Int)), .is fl, .is fl, .own a13 (rests ++ [(0 : Int)]), .is ev, .is days, .no, rfl⟩))
        · rw [hcr] at v
          simp at v
    · obtain ⟨q, e9, e10, e11, e12, e13, e14, e15, e16, rfl⟩ := hi
      exact (.same (.no (.no (.no (.no (.no (.no (.no (.no (.no (.no (.no (.no (.no (.no (.no (.no (.no .nil))))))))))))))))))
  · exact sd_ret px_bl ⟨rfl, .is .nil⟩
end
end L
namespace LE
open PySem PySem.Spec PyProof.Rows L2 G L
def dd__wall : He.DefD := ⟨("_wall", none), "_wall", "_wall", defArgs st__wall, defBody st__wall, defScope st__wall, [], []⟩
def dd_is_whole : He.DefD := ⟨("is_whole", none), "is_whole", "is_whole", defArgs st_is_whole, defBody st_is_whole, defScope st_is_whole, [.int (0)], []⟩
def dd_is_name : He.DefD := ⟨("is_name", none), "is_name", "is_name", defArgs st_is_name, defBody st_is_name, defScope st_is_name, [], []⟩
def dd_is_company : He.DefD := ⟨("is_company", none), "is_company", "is_company", defArgs st_is_company, defBody st_is_company, defScope st_is_company, [], []⟩
def dd_folk_of : He.DefD := ⟨("folk_of", none), "folk_of", "folk_of", defArgs st_folk_of, defBody st_folk_of, defScope st_folk_of, [], []⟩
def dd_is_standing : He.DefD := ⟨("is_standing", none), "is_standing", "is_standing", defArgs st_is_standing, defBody st_is_standing, defScope st_is_standing, [], []⟩
def dd_copied : He.DefD := ⟨("copied", none), "copied", "copied", defArgs st_copied, defBody st_copied, defScope st_copied, [], []⟩
def dd_checked_standing : He.DefD := ⟨("checked_standing", none), "checked_standing", "checked_standing", defArgs st_checked_standing, defBody st_checked_standing, defScope st_checked_standing, [], []⟩
def dd_checked_day : He.DefD := ⟨("checked_day", none), "checked_day", "checked_day", defArgs st_checked_day, defBody st_checked_day, defScope st_checked_day, [], []⟩
def dd_day_behind : He.DefD := ⟨("day_behind", none), "day_behind", "day_behind", defArgs st_day_behind, defBody st_day_behind, defScope st_day_behind, [], []⟩
def dd_least_rings : He.DefD := ⟨("least_rings", none), "least_rings", "least_rings", defArgs st_least_rings, defBody st_least_rings, defScope st_least_rings, [], []⟩
def dd_has_settled : He.DefD := ⟨("has_settled", none), "has_settled", "has_settled", defArgs st_has_settled, defBody st_has_settled, defScope st_has_settled, [], []⟩
def dd_is_deed : He.DefD := ⟨("is_deed", none), "is_deed", "is_deed", defArgs st_is_deed, defBody st_is_deed, defScope st_is_deed, [], []⟩
def dd_refuse : He.DefD := ⟨("refuse", none), "refuse", "refuse", defArgs st_refuse, defBody st_refuse, defScope st_refuse, [], []⟩
def dd_done : He.DefD := ⟨("done", none), "done", "done", defArgs st_done, defBody st_done, defScope st_done, [], []⟩
def dd_checked_deeds : He.DefD := ⟨("checked_deeds", none), "checked_deeds", "checked_deeds", defArgs st_checked_deeds, defBody st_checked_deeds, defScope st_checked_deeds, [], []⟩
def dd_common : He.DefD := ⟨("common", none), "common", "common", defArgs st_common, defBody st_common, defScope st_common, [], []⟩
def dd_least_multiple : He.DefD := ⟨("least_multiple", none), "least_multiple", "least_multiple", defArgs st_least_multiple, defBody st_least_multiple, defScope st_least_multiple, [], []⟩
def dd_turned : He.DefD := ⟨("turned", none), "turned", "turned", defArgs st_turned, defBody st_turned, defScope st_turned, [], []⟩
def dd_joined : He.DefD := ⟨("joined", none), "joined", "joined", defArgs st_joined, defBody st_joined, defScope st_joined, [], []⟩
def dd_all_joined : He.DefD := ⟨("all_joined", none), "all_joined", "all_joined", defArgs st_all_joined, defBody st_all_joined, defScope st_all_joined, [], []⟩
def dd_Course___init__ : He.DefD := ⟨("Course", some "__init__"), "__init__", "Course.__init__", defArgs st_Course___init__, defBody st_Course___init__, defScope st_Course___init__, [], [("deeds", .non)]⟩
def dd_Course_standing_on : He.DefD := ⟨("Course", some "standing_on"), "standing_on", "Course.standing_on", defArgs st_Course_standing_on, defBody st_Course_standing_on, defScope st_Course_standing_on, [], []⟩
def dd_Course_company_begun : He.DefD := ⟨("Course", some "company_begun"), "company_begun", "Course.company_begun", defArgs st_Course_company_begun, defBody st_Course_company_begun, defScope st_Course_company_begun, [], []⟩
def dd_Course_on_day : He.DefD := ⟨("Course", some "on_day"), "on_day", "Course.on_day", defArgs st_Course_on_day, defBody st_Course_on_day, defScope st_Course_on_day, [], []⟩
def dd_Course_rings : He.DefD := ⟨("Course", some "rings"), "rings", "Course.rings", defArgs st_Course_rings, defBody st_Course_rings, defScope st_Course_rings, [], []⟩
def dd_Course_ring : He.DefD := ⟨("Course", some "ring"), "ring", "Course.ring", defArgs st_Course_ring, defBody st_Course_ring, defScope st_Course_ring, [], []⟩
def dd_Course_checked_folk : He.DefD := ⟨("Course", some "checked_folk"), "checked_folk", "Course.checked_folk", defArgs st_Course_checked_folk, defBody st_Course_checked_folk, defScope st_Course_checked_folk, [], []⟩
def dd_Course_meeting : He.DefD := ⟨("Course", some "meeting"), "meeting", "Course.meeting", defArgs st_Course_meeting, defBody st_Course_meeting, defScope st_Course_meeting, [], []⟩
def dd_Course_together : He.DefD := ⟨("Course", some "together"), "together", "Course.together", defArgs st_Course_together, defBody st_Course_together, defScope st_Course_together, [], []⟩
def dd_Course_company_days : He.DefD := ⟨("Course", some "company_days"), "company_days", "Course.company_days", defArgs st_Course_company_days, defBody st_Course_company_days, defScope st_Course_company_days, [], []⟩
def dd__law_cell_at : He.DefD := ⟨("_law_cell_at", none), "_law_cell_at", "_law_cell_at", defArgs st__law_cell_at, defBody st__law_cell_at, defScope st__law_cell_at, [], []⟩
def dd__law_mixed : He.DefD := ⟨("_law_mixed", none), "_law_mixed", "_law_mixed", defArgs st__law_mixed, defBody st__law_mixed, defScope st__law_mixed, [], []⟩
def dd__law_source : He.DefD := ⟨("_law_source", none), "_law_source", "_law_source", defArgs st__law_source, defBody st__law_source, defScope st__law_source, [], []⟩
def dd__law_next : He.DefD := ⟨("_law_next", none), "_law_next", "_law_next", defArgs st__law_next, defBody st__law_next, defScope st__law_next, [], []⟩
def dd__law_name : He.DefD := ⟨("_law_name", none), "_law_name", "_law_name", defArgs st__law_name, defBody st__law_name, defScope st__law_name, [], []⟩
def dd__law_names : He.DefD := ⟨("_law_names", none), "_law_names", "_law_names", defArgs st__law_names, defBody st__law_names, defScope st__law_names, [], []⟩
def dd__law_standing : He.DefD := ⟨("_law_standing", none), "_law_standing", "_law_standing", defArgs st__law_standing, defBody st__law_standing, defScope st__law_standing, [], []⟩
def dd__law_behind : He.DefD := ⟨("_law_behind", none), "_law_behind", "_law_behind", defArgs st__law_behind, defBody st__law_behind, defScope st__law_behind, [], []⟩
def dd__law_shape : He.DefD := ⟨("_law_shape", none), "_law_shape", "_law_shape", defArgs st__law_shape, defBody st__law_shape, defScope st__law_shape, [], []⟩
def dd__law_settled_walk : He.DefD := ⟨("_law_settled_walk", none), "_law_settled_walk", "_law_settled_walk", defArgs st__law_settled_walk, defBody st__law_settled_walk, defScope st__law_settled_walk, [], []⟩
def dd__law_rings : He.DefD := ⟨("_law_rings", none), "_law_rings", "_law_rings", defArgs st__law_rings, defBody st__law_rings, defScope st__law_rings, [], []⟩
def dd__law_far : He.DefD := ⟨("_law_far", none), "_law_far", "_law_far", defArgs st__law_far, defBody st__law_far, defScope st__law_far, [], []⟩
def dd__law_common : He.DefD := ⟨("_law_common", none), "_law_common", "_law_common", defArgs st__law_common, defBody st__law_common, defScope st__law_common, [], []⟩
def dd__law_meeting : He.DefD := ⟨("_law_meeting", none), "_law_meeting", "_law_meeting", defArgs st__law_meeting, defBody st__law_meeting, defScope st__law_meeting, [], []⟩
def dd__law_some : He.DefD := ⟨("_law_some", none), "_law_some", "_law_some", defArgs st__law_some, defBody st__law_some, defScope st__law_some, [], []⟩
def dd__law_kin : He.DefD := ⟨("_law_kin", none), "_law_kin", "_law_kin", defArgs st__law_kin, defBody st__law_kin, defScope st__law_kin, [], []⟩
def dd__law_due : He.DefD := ⟨("_law_due", none), "_law_due", "_law_due", defArgs st__law_due, defBody st__law_due, defScope st__law_due, [], []⟩
def dd__law_row : He.DefD := ⟨("_law_row", none), "_law_row", "_law_row", defArgs st__law_row, defBody st__law_row, defScope st__law_row, [], []⟩
def dd_law : He.DefD := ⟨("law", none), "law", "law", defArgs st_law, defBody st_law, defScope st_law, [], []⟩
def fn : List He.DefD := ([dd__wall, dd_is_whole, dd_is_name, dd_is_company, dd_folk_of, dd_is_standing, dd_copied, dd_checked_standing, dd_checked_day, dd_day_behind, dd_least_rings, dd_has_settled, dd_is_deed, dd_refuse, dd_done, dd_checked_deeds, dd_common, dd_least_multiple, dd_turned, dd_joined, dd_all_joined, dd_Course___init__, dd_Course_standing_on, dd_Course_company_begun, dd_Course_on_day, dd_Course_rings, dd_Course_ring, dd_Course_checked_folk, dd_Course_meeting, dd_Course_together] : List He.DefD) ++ ([dd_Course_company_days, dd__law_cell_at, dd__law_mixed, dd__law_source, dd__law_next, dd__law_name, dd__law_names, dd__law_standing, dd__law_behind, dd__law_shape, dd__law_settled_walk, dd__law_rings, dd__law_far, dd__law_common, dd__law_meeting, dd__law_some, dd__law_kin, dd__law_due, dd__law_row, dd_law] : List He.DefD)
def fa : List He.Fa := ([.glo "_wall", .glo "is_whole", .glo "is_name", .glo "is_company", .glo "folk_of", .glo "is_standing", .glo "copied", .glo "checked_standing", .glo "checked_day", .glo "day_behind", .glo "least_rings", .glo "has_settled", .glo "is_deed", .glo "refuse", .glo "done", .glo "checked_deeds", .glo "common", .glo "least_multiple", .glo "turned", .glo "joined", .glo "all_joined", .glo "_law_cell_at", .glo "_law_mixed", .glo "_law_source", .glo "_law_next", .glo "_law_name", .glo "_law_names", .glo "_law_standing", .glo "_law_behind", .glo "_law_shape"] : List He.Fa) ++ ([.glo "_law_settled_walk", .glo "_law_rings", .glo "_law_far", .glo "_law_common", .glo "_law_meeting", .glo "_law_some", .glo "_law_kin", .glo "_law_due", .glo "_law_row", .glo "law", .free "all", .free "any", .free "bool", .free "dict", .free "enumerate", .free "int", .free "isinstance", .free "len", .free "list", .free "max", .free "min", .free "range", .free "set", .free "sorted", .free "str", .free "sum", .free "tuple", .str "SMALL" "abcdefghijklmnopqrstuvwxyz", .int "MOST_LETTERS" (8), .int "LAST_DAY" (1000)] : List He.Fa) ++ ([.glo "Course", .cls "Course", .mkr "Course", .noat "Course" "rows", .noat "Course" "begin", .noat "Course" "deed_days", .noat "Course" "ring_by", .noat "Course" "name_by", .noat "Course" "greatest", .meth "Course" "standing_on", .meth "Course" "company_begun", .meth "Course" "on_day", .meth "Course" "rings", .meth "Course" "ring", .meth "Course" "checked_folk", .meth "Course" "meeting", .meth "Course" "together", .meth "Course" "company_days"] : List He.Fa)
def loose : List Str := (["_wall", "GoerError", "NoStanding", "NoDay", "NoDeeds", "NoFolk", "SMALL", "MOST_LETTERS", "is_whole", "is_name", "is_company", "folk_of", "is_standing", "copied", "checked_standing", "checked_day", "day_behind", "least_rings", "has_settled", "LAST_DAY", "is_deed", "refuse", "done", "checked_deeds", "common", "least_multiple", "turned", "joined", "all_joined", "Course"] : List Str) ++ (["_law_cell_at", "_law_mixed", "_law_source", "_law_next", "_law_name", "_law_names", "_law_standing", "_law_behind", "_law_shape", "_law_settled_walk", "_law_rings", "_law_far", "_law_common", "_law_meeting", "_law_some", "_law_kin", "_law_due", "_law_row"] : List Str)
abbrev R : PySem.W.OpenRow := PySem.W.OpenLaw.row PySem.Challenge.rw_firstgoers_k23_whole_companies
abbrev hk : PySem.W.Hook := He.hookD 4 fa fn
def ob (s : PySem.W.SharedT) : He.AlD := He.obsDG 4 fa fn (HandSHeadRun.getT s)
theorem ob_eq (s : PySem.W.SharedT) : ob s = hk.obs s.abs := He.obsDG_eq (HandSHeadRun.getT_eq s)
theorem run (w : World) : HandSHeadRun.RunEq R (PySem.W.view R.prog [54]) hk ob 12000 loose w := by
  intro os
  kernel_rfl
theorem txt {K : PySem.W.Frag} {h : Heap} {mg : Str → Option Value} (X : K.In h) (G : h.Ns mainGlobals mg) (c : He.SaysD fa fn K) : Txt K mg where
  d__wall := ⟨c.def_ 0 (d := dd__wall) rfl, He.glo_ok X G (c.fact 0 (f := .glo "_wall") rfl)⟩
  d_is_whole := ⟨c.def_ 1 (d := dd_is_whole) rfl, He.glo_ok X G (c.fact 1 (f := .glo "is_whole") rfl)⟩
  d_is_name := ⟨c.def_ 2 (d := dd_is_name) rfl, He.glo_ok X G (c.fact 2 (f := .glo "is_name") rfl)⟩
  d_is_company := ⟨c.def_ 3 (d := dd_is_company) rfl, He.glo_ok X G (c.fact 3 (f := .glo "is_company") rfl)⟩
  d_folk_of := ⟨c.def_ 4 (d := dd_folk_of) rfl, He.glo_ok X G (c.fact 4 (f := .glo "folk_of") rfl)⟩
  d_is_standing := ⟨c.def_ 5 (d := dd_is_standing) rfl, He.glo_ok X G (c.fact 5 (f := .glo "is_standing") rfl)⟩
  d_copied := ⟨c.def_ 6 (d := dd_copied) rfl, He.glo_ok X G (c.fact 6 (f := .glo "copied") rfl)⟩
  d_checked_standing := ⟨c.def_ 7 (d := dd_checked_standing) rfl, He.glo_ok X G (c.fact 7 (f := .glo "checked_standing") rfl)⟩
  d_checked_day := ⟨c.def_ 8 (d := dd_checked_day) rfl, He.glo_ok X G (c.fact 8 (f := .glo "checked_day") rfl)⟩
  d_day_behind := ⟨c.def_ 9 (d := dd_day_behind) rfl, He.glo_ok X G (c.fact 9 (f := .glo "day_behind") rfl)⟩
  d_least_rings := ⟨c.def_ 10 (d := dd_least_rings) rfl, He.glo_ok X G (c.fact 10 (f := .glo "least_rings") rfl)⟩
  d_has_settled := ⟨c.def_ 11 (d := dd_has_settled) rfl, He.glo_ok X G (c.fact 11 (f := .glo "has_settled") rfl)⟩
  d_is_deed := ⟨c.def_ 12 (d := dd_is_deed) rfl, He.glo_ok X G (c.fact 12 (f := .glo "is_deed") rfl)⟩
  d_refuse := ⟨c.def_ 13 (d := dd_refuse) rfl, He.glo_ok X G (c.fact 13 (f := .glo "refuse") rfl)⟩
  d_done := ⟨c.def_ 14 (d := dd_done) rfl, He.glo_ok X G (c.fact 14 (f := .glo "done") rfl)⟩
  d_checked_deeds := ⟨c.def_ 15 (d := dd_checked_deeds) rfl, He.glo_ok X G (c.fact 15 (f := .glo "checked_deeds") rfl)⟩
  d_common := ⟨c.def_ 16 (d := dd_common) rfl, He.glo_ok X G (c.fact 16 (f := .glo "common") rfl)⟩
  d_least_multiple := ⟨c.def_ 17 (d := dd_least_multiple) rfl, He.glo_ok X G (c.fact 17 (f := .glo "least_multiple") rfl)⟩
  d_turned := ⟨c.def_ 18 (d := dd_turned) rfl, He.glo_ok X G (c.fact 18 (f := .glo "turned") rfl)⟩
  d_joined := ⟨c.def_ 19 (d := dd_joined) rfl, He.glo_ok X G (c.fact 19 (f := .glo "joined") rfl)⟩
  d_all_joined := ⟨c.def_ 20 (d := dd_all_joined) rfl, He.glo_ok X G (c.fact 20 (f := .glo "all_joined") rfl)⟩
  f_Course___init__ := c.def_ 21 (d := dd_Course___init__) rfl
  f_Course_standing_on := c.def_ 22 (d := dd_Course_standing_on) rfl
  f_Course_company_begun := c.def_ 23 (d := dd_Course_company_begun) rfl
  f_Course_on_day := c.def_ 24 (d := dd_Course_on_day) rfl
  f_Course_rings := c.def_ 25 (d := dd_Course_rings) rfl
  f_Course_ring := c.def_ 26 (d := dd_Course_ring) rfl
  f_Course_checked_folk := c.def_ 27 (d := dd_Course_checked_folk) rfl
  f_Course_meeting := c.def_ 28 (d := dd_Course_meeting) rfl
  f_Course_together := c.def_ 29 (d := dd_Course_together) rfl
  f_Course_company_days := c.def_ 30 (d := dd_Course_company_days) rfl
  d__law_cell_at := ⟨c.def_ 31 (d := dd__law_cell_at) rfl, He.glo_ok X G (c.fact 21 (f := .glo "_law_cell_at") rfl)⟩
  d__law_mixed := ⟨c.def_ 32 (d := dd__law_mixed) rfl, He.glo_ok X G (c.fact 22 (f := .glo "_law_mixed") rfl)⟩
  d__law_source := ⟨c.def_ 33 (d := dd__law_source) rfl, He.glo_ok X G (c.fact 23 (f := .glo "_law_source") rfl)⟩
  d__law_next := ⟨c.def_ 34 (d := dd__law_next) rfl, He.glo_ok X G (c.fact 24 (f := .glo "_law_next") rfl)⟩
  d__law_name := ⟨c.def_ 35 (d := dd__law_name) rfl, He.glo_ok X G (c.fact 25 (f := .glo "_law_name") rfl)⟩
  d__law_names := ⟨c.def_ 36 (d := dd__law_names) rfl, He.glo_ok X G (c.fact 26 (f := .glo "_law_names") rfl)⟩
  d__law_standing := ⟨c.def_ 37 (d := dd__law_standing) rfl, He.glo_ok X G (c.fact 27 (f := .glo "_law_standing") rfl)⟩
  d__law_behind := ⟨c.def_ 38 (d := dd__law_behind) rfl, He.glo_ok X G (c.fact 28 (f := .glo "_law_behind") rfl)⟩
  d__law_shape := ⟨c.def_ 39 (d := dd__law_shape) rfl, He.glo_ok X G (c.fact 29 (f := .glo "_law_shape") rfl)⟩
  d__law_settled_walk := ⟨c.def_ 40 (d := dd__law_settled_walk) rfl, He.glo_ok X G (c.fact 30 (f := .glo "_law_settled_walk") rfl)⟩
  d__law_rings := ⟨c.def_ 41 (d := dd__law_rings) rfl, He.glo_ok X G (c.fact 31 (f := .glo "_law_rings") rfl)⟩
  d__law_far := ⟨c.def_ 42 (d := dd__law_far) rfl, He.glo_ok X G (c.fact 32 (f := .glo "_law_far") rfl)⟩
  d__law_common := ⟨c.def_ 43 (d := dd__law_common) rfl, He.glo_ok X G (c.fact 33 (f := .glo "_law_common") rfl)⟩
  d__law_meeting := ⟨c.def_ 44 (d := dd__law_meeting) rfl, He.glo_ok X G (c.fact 34 (f := .glo "_law_meeting") rfl)⟩
  d__law_some := ⟨c.def_ 45 (d := dd__law_some) rfl, He.glo_ok X G (c.fact 35 (f := .glo "_law_some") rfl)⟩
  d__law_kin := ⟨c.def_ 46 (d := dd__law_kin) rfl, He.glo_ok X G (c.fact 36 (f := .glo "_law_kin") rfl)⟩
  d__law_due := ⟨c.def_ 47 (d := dd__law_due) rfl, He.glo_ok X G (c.fact 37 (f := .glo "_law_due") rfl)⟩
  d__law_row := ⟨c.def_ 48 (d := dd__law_row) rfl, He.glo_ok X G (c.fact 38 (f := .glo "_law_row") rfl)⟩
  d_law := ⟨c.def_ 49 (d := dd_law) rfl, He.glo_ok X G (c.fact 39 (f := .glo "law") rfl)⟩
  n_all := He.free_ok X G (c.fact 40 (f := .free "all") rfl)
  n_any := He.free_ok X G (c.fact 41 (f := .free "any") rfl)
  n_bool := He.free_ok X G (c.fact 42 (f := .free "bool") rfl)
  n_dict := He.free_ok X G (c.fact 43 (f := .free "dict") rfl)
  n_enumerate := He.free_ok X G (c.fact 44 (f := .free "enumerate") rfl)
  n_int := He.free_ok X G (c.fact 45 (f := .free "int") rfl)
  n_isinstance := He.free_ok X G (c.fact 46 (f := .free "isinstance") rfl)
  n_len := He.free_ok X G (c.fact 47 (f := .free "len") rfl)
  n_list := He.free_ok X G (c.fact 48 (f := .free "list") rfl)
  n_max := He.free_ok X G (c.fact 49 (f := .free "max") rfl)
  n_min := He.free_ok X G (c.fact 50 (f := .free "min") rfl)
  n_range := He.free_ok X G (c.fact 51 (f := .free "range") rfl)
  n_set := He.free_ok X G (c.fact 52 (f := .free "set") rfl)
  n_sorted := He.free_ok X G (c.fact 53 (f := .free "sorted") rfl)
  n_str := He.free_ok X G (c.fact 54 (f := .free "str") rfl)
  n_sum := He.free_ok X G (c.fact 55 (f := .free "sum") rfl)
  n_tuple := He.free_ok X G (c.fact 56 (f := .free "tuple") rfl)
  g_SMALL := He.str_ok X G (c.fact 57 (f := .str "SMALL" "abcdefghijklmnopqrstuvwxyz") rfl)
  g_MOST_LETTERS := He.int_ok X G (c.fact 58 (f := .int "MOST_LETTERS" (8)) rfl)
  g_LAST_DAY := He.int_ok X G (c.fact 59 (f := .int "LAST_DAY" (1000)) rfl)
  c_Course := He.glo_ok X G (c.fact 60 (f := .glo "Course") rfl)
  cls_Course := He.cls_ok (c.fact 61 (f := .cls "Course") rfl)
  mk_Course := He.mkr_ok (c.fact 62 (f := .mkr "Course") rfl)
  na_rows := He.noat_ok (c.fact 63 (f := .noat "Course" "rows") rfl)
  na_begin := He.noat_ok (c.fact 64 (f := .noat "Course" "begin") rfl)
  na_deed_days := He.noat_ok (c.fact 65 (f := .noat "Course" "deed_days") rfl)
  na_ring_by := He.noat_ok (c.fact 66 (f := .noat "Course" "ring_by") rfl)
  na_name_by := He.noat_ok (c.fact 67 (f := .noat "Course" "name_by") rfl)
  na_greatest := He.noat_ok (c.fact 68 (f := .noat "Course" "greatest") rfl)
  me_standing_on := He.meth_ok (c.fact 69 (f := .meth "Course" "standing_on") rfl)
  me_company_begun := He.meth_ok (c.fact 70 (f := .meth "Course" "company_begun") rfl)
  me_on_day := He.meth_ok (c.fact 71 (f := .meth "Course" "on_day") rfl)
  me_rings := He.meth_ok (c.fact 72 (f := .meth "Course" "rings") rfl)
  me_ring := He.meth_ok (c.fact 73 (f := .meth "Course" "ring") rfl)
  me_checked_folk := He.meth_ok (c.fact 74 (f := .meth "Course" "checked_folk") rfl)
  me_meeting := He.meth_ok (c.fact 75 (f := .meth "Course" "meeting") rfl)
  me_together := He.meth_ok (c.fact 76 (f := .meth "Course" "together") rfl)
  me_company_days := He.meth_ok (c.fact 77 (f := .meth "Course" "company_days") rfl)
end LE
open PySem PySem.W PySem.Calls PyProof.Rows
set_option maxHeartbeats 0 in
theorem PySem.Challenge.cw_firstgoers_k23_whole_companies_holds : PySem.Challenge.rw_firstgoers_k23_whole_companies.Holds := by
  w_on; o_law
  refine HandSHeadRun.head_any (r := OpenLaw.row PySem.Challenge.rw_firstgoers_k23_whole_companies) (q := view (OpenLaw.row PySem.Challenge.rw_firstgoers_k23_whole_companies).prog [54]) (H := LE.hk) (ob := LE.ob) (M := 12000) (loose := LE.loose) (d := HandSHeadRun.topDef (OpenLaw.row PySem.Challenge.rw_firstgoers_k23_whole_companies).prog 54) (kwd := []) LE.ob_eq
    (by kernel_rfl) (fun s => by kernel_rfl) LE.run (by kernel_rfl) (by kernel_rfl) (by kernel_rfl) (by rfl) (by first | assumption | decide +kernel) (by decide +kernel) ⟨rfl, rfl, rfl, rfl, rfl, by decide +kernel⟩ ?hw ?hc
  case hw => w_witness2
  case hc =>
    refine L2.walk_ofE (l := PySem.Challenge.rw_firstgoers_k23_whole_companies) (n := 63) (k := 10) (x := "_law_script") (CX := L2.CX0) rfl (by decide) (by kernel_rfl) ⟨rfl, by decide, by decide⟩ ?F (fun _ _ _ _ z => z)
    intro w mg fa h Y GG hmg0
    obtain ⟨K, KX, c⟩ := Y
    have hmg : mg ("law" : PySem.Str) = some (.ref fa) := by
      have e : (HandSHeadRun.topDef (OpenLaw.row PySem.Challenge.rw_firstgoers_k23_whole_companies).prog 54).name = ("law" : PySem.Str) := by kernel_rfl
      rw [← e]
      exact hmg0
    have T := LE.txt KX GG c
    have e := hmg.symm.trans T.d_law.gl
    cases e
    obtain ⟨fd, F⟩ := T.d_law.df
    exact ⟨K, fd, G.spM K (G.sh Bool) 1 L.r_law, KX, fun s u => F.bindsA (ps := ["_law_script"]) L.b_law s [u] rfl, fun H a ns hl _ hS => G.hsp_law (fun xs hx => ⟨xs, hx, rfl, rfl, rfl⟩) H a ns hl hS, fun base _ _ => G.fn_law T.d_law.gl F (L.can_law T)⟩
