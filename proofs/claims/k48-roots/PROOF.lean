import PyProof.Rows.All
import Wide.All
import OpenK.AllK
import Wide.FinOn
import HandS.ForMost
import HandS.Wide
import HandS.WideBits
import HandS.WideMore
import HandS.Gcd
import HandS.IsInst
import HandS.EndBits
import HandS.Flow
import HandS.Conv
import HandS.Codes
import HandS.Style
import HandS.Head0
import HandS.Head1
import HandS.Head2
import HandS.Head3
import HandS.HeadEnd
import HandS.HeadHook1
import HandS.HeadHook2
import HandS.Defaults
import Flt.RightSqrt
import KE.IntBitsLaws
import PySem.Challenge.RW_leastinbox_k48_roots_next_to_exact
set_option Elab.async false
set_option linter.all false
set_option maxRecDepth 100000
set_option maxHeartbeats 4000000
/-! Dl: a logic of data over HandS: values by what they stand for, cells for what may change. -/
namespace Dl
open PySem PySem.Spec PyProof.Rows L2

/-- objects that never change -/
def Fix : HO → Prop
  | .tup _ => True
  | .frz _ _ => True
  | _ => False
abbrev AS := Addr → Prop
def Keep (M : AS) (H H' : Hp) : Prop := ∀ a o, H a = some o → (¬ M a ∨ Fix o) → H' a = some o
theorem Keep.refl {M : AS} {H : Hp} : Keep M H H := fun _ _ h _ => h
theorem Keep.mono {M M' : AS} {H H' : Hp} (k : Keep M H H') (h : ∀ a, M a → M' a) : Keep M' H H' := fun a o e c => k a o e (c.imp (fun n z => n (h a z)) id)

/-- how a value stands for a datum -/
class Enc (α : Type) where
  R : PySem.W.Frag → AS → Hp → V → α → Prop
  mono : ∀ {K M H H' v x}, Keep M H H' → R K M H v x → R K M H' v x
  set : ∀ {K M M' H v x}, (∀ a, M' a → M a ∨ H a = none) → R K M H v x → R K M' H v x

instance : Enc Int := ⟨fun _ _ _ v x => v = .int x, fun _ h => h, fun _ h => h⟩
instance : Enc Bool := ⟨fun _ _ _ v x => v = .bl x, fun _ h => h, fun _ h => h⟩
instance : Enc Str := ⟨fun _ _ _ v x => v = .str x, fun _ h => h, fun _ h => h⟩
instance : Enc Unit := ⟨fun _ _ _ v _ => v = .non, fun _ h => h, fun _ h => h⟩
/-- a reference to a cell -/
structure Ref where
  a : Addr
instance : Enc Ref := ⟨fun _ _ _ v x => v = .ref x.a, fun _ h => h, fun _ h => h⟩
theorem sqT_keep {K : PySem.W.Frag} {M : AS} {H H' : Hp} {a : Addr} {xs : List V} (k : Keep M H H') (h : SqT K H a xs) : SqT K H' a xs := by
  rcases h with (h | ⟨o, h⟩) | h
  · exact .inl (.inl (k _ _ h (.inr trivial)))
  · exact .inl (.inr ⟨o, k _ _ h (.inr trivial)⟩)
  · exact .inr h
/-- a pair is a tuple of two -/
instance [A : Enc α] [B : Enc β] : Enc (α × β) where
  R K M H v x := ∃ a v1 v2, v = .ref a ∧ SqT K H a [v1, v2] ∧ A.R K M H v1 x.1 ∧ B.R K M H v2 x.2
  mono k h := by
    obtain ⟨a, v1, v2, e, s, r1, r2⟩ := h
    exact ⟨a, v1, v2, e, sqT_keep k s, A.mono k r1, B.mono k r2⟩
  set k h := by
    obtain ⟨a, v1, v2, e, s, r1, r2⟩ := h
    exact ⟨a, v1, v2, e, s, A.set k r1, B.set k r2⟩
theorem paired_map {α β : Type} {F G : α → β → Prop} (f : ∀ a b, F a b → G a b) : ∀ {l₁ : List α} {l₂ : List β}, Paired F l₁ l₂ → Paired G l₁ l₂ := fun h => Paired.mapP h f
/-- a list that nobody changes any more -/
instance [A : Enc α] : Enc (List α) where
  R K M H v x := ∃ a vs, v = .ref a ∧ ¬ M a ∧ Rd H a (.lst vs) ∧ Paired (A.R K M H) vs x
  mono k h := by
    obtain ⟨a, vs, e, n, s, r⟩ := h
    refine ⟨a, vs, e, n, ?_, paired_map (fun _ _ => A.mono k) r⟩
    rcases s with s | ⟨o, s⟩
    · exact .inl (k _ _ s (.inl n))
    · exact .inr ⟨o, k _ _ s (.inr trivial)⟩
  set k h := by
    obtain ⟨a, vs, e, n, s, r⟩ := h
    refine ⟨a, vs, e, fun z => ?_, s, paired_map (fun _ _ => A.set k) r⟩
    rcases k a z with z | z
    · exact n z
    · rcases s with s | ⟨o, s⟩
      · rw [z] at s; cases s
      · rw [z] at s; cases s
/-- a tuple of any length, its items of one kind -/
structure Tup (α : Type) where
  l : List α
instance [A : Enc α] : Enc (Tup α) where
  R K M H v x := ∃ a vs, v = .ref a ∧ SqT K H a vs ∧ Paired (A.R K M H) vs x.l
  mono k h := by
    obtain ⟨a, vs, e, s, r⟩ := h
    exact ⟨a, vs, e, sqT_keep k s, paired_map (fun _ _ => A.mono k) r⟩
  set k h := by
    obtain ⟨a, vs, e, s, r⟩ := h
    exact ⟨a, vs, e, s, paired_map (fun _ _ => A.set k) r⟩
/-- not None -/
class NN (α : Type) [Enc α] : Prop where
  nn : ∀ {K M H v} {x : α}, Enc.R K M H v x → v ≠ .non
instance : NN Int := ⟨fun h e => by cases h; cases e⟩
instance : NN Bool := ⟨fun h e => by cases h; cases e⟩
instance : NN Str := ⟨fun h e => by cases h; cases e⟩
instance [Enc α] [Enc β] : NN (α × β) := ⟨fun h e => by obtain ⟨a, v1, v2, rfl, _⟩ := h; cases e⟩
instance [Enc α] : NN (List α) := ⟨fun h e => by obtain ⟨a, v1, rfl, _⟩ := h; cases e⟩
instance [Enc α] : NN (Tup α) := ⟨fun h e => by obtain ⟨a, v1, rfl, _⟩ := h; cases e⟩
instance [A : Enc α] [NN α] : Enc (Option α) where
  R K M H v x := match x with | none => v = .non | some y => A.R K M H v y
  mono k h := by
    rename_i x
    cases x with
    | none => exact h
    | some y => exact A.mono k h
  set k h := by
    rename_i x
    cases x with
    | none => exact h
    | some y => exact A.set k h

/-- what a name may hold -/
inductive Slot : Type 1 where
  | any
  | val {α : Type} (e : Enc α) (x : α)
abbrev sl {α : Type} [e : Enc α] (x : α) : Slot := .val e x
def SlotV (K : PySem.W.Frag) (M : AS) (H : Hp) (v : V) : Slot → Prop
  | .any => True
  | .val e x => e.R K M H v x
def SlotO (K : PySem.W.Frag) (M : AS) (H : Hp) (v : Option V) : Slot → Prop
  | .any => True
  | .val e x => ∃ w, v = some w ∧ e.R K M H w x

/-- what may change, and how it stands now -/
structure Cell where
  foot : List Addr
  holds : PySem.W.Frag → AS → Hp → Prop
  mono : ∀ {K M H H'}, (∀ a o, H a = some o → (a ∈ foot ∨ ¬ M a ∨ Fix o) → H' a = some o) → holds K M H → holds K M H'
  set : ∀ {K M M' H}, (∀ a, M' a → M a ∨ H a = none) → holds K M H → holds K M' H
def foots (μ : List Cell) : AS := fun a => ∃ c ∈ μ, a ∈ c.foot
structure Holds (K : PySem.W.Frag) (M : AS) (μ : List Cell) (H : Hp) : Prop where
  cell : ∀ c ∈ μ, c.holds K M H
  inM : ∀ a, foots μ a → M a
  al : ∀ a, M a → H a ≠ none
  dj : μ.Pairwise fun c d => ∀ a, a ∈ c.foot → a ∉ d.foot
/-- a step: what stays -/
structure Ste (M : AS) (μ : List Cell) (H : Hp) (M' : AS) (μ' : List Cell) (H' : Hp) : Prop where
  keep : Keep (foots μ) H H'
  al : ∀ a, H a ≠ none → H' a ≠ none
  new : ∀ a, M' a → M a ∨ H a = none
  foo : ∀ a, foots μ' a → foots μ a ∨ H a = none
  up : ∀ a, M a → H a ≠ none → ¬ foots μ a → M' a
section
variable {K : PySem.W.Frag} {M M1 M2 M' : AS} {μ μ1 μ2 μ' : List Cell} {H H1 H2 H' : Hp} {v : V}
theorem Ste.refl : Ste M μ H M μ H := ⟨Keep.refl, fun _ h => h, fun _ h => .inl h, fun _ h => .inl h, fun _ h _ _ => h⟩
theorem Ste.trans (s : Ste M μ H M1 μ1 H1) (t : Ste M1 μ1 H1 M2 μ2 H2) : Ste M μ H M2 μ2 H2 where
  keep := fun a o e c => t.keep a o (s.keep a o e c) (c.imp (fun n z => by
    rcases s.foo a z with z | z
    · exact n z
    · rw [z] at e; cases e) id)
  al := fun a h => t.al a (s.al a h)
  new := fun a h => by
    rcases t.new a h with h | h
    · exact s.new a h
    · exact .inr (Classical.byContradiction fun n => s.al a n h)
  foo := fun a h => by
    rcases t.foo a h with h | h
    · exact s.foo a h
    · exact .inr (Classical.byContradiction fun n => s.al a n h)
  up := fun a h n f => t.up a (s.up a h n f) (s.al a n) fun z => by
    rcases s.foo a z with z | z
    · exact f z
    · exact n z
theorem tr {α : Type} [A : Enc α] {x : α} (s : Ste M μ H M' μ' H') (h : Holds K M μ H) (r : A.R K M H v x) : A.R K M' H' v x := by
  have r1 : A.R K (fun a => M a ∨ M' a) H v x := A.set (fun a z => z.elim .inl (s.new a)) r
  have k : Keep (fun a => M a ∨ M' a) H H' := s.keep.mono fun a z => .inl (h.inM a z)
  exact A.set (fun a z => .inl (.inr z)) (A.mono k r1)
theorem SlotV.tr {s' : Slot} (s : Ste M μ H M' μ' H') (h : Holds K M μ H) (r : SlotV K M H v s') : SlotV K M' H' v s' := by
  cases s' with
  | any => trivial
  | val e x => exact Dl.tr (A := e) s h r
theorem SlotO.tr {s' : Slot} {v : Option V} (s : Ste M μ H M' μ' H') (h : Holds K M μ H) (r : SlotO K M H v s') : SlotO K M' H' v s' := by
  cases s' with
  | any => trivial
  | val e x => obtain ⟨w, e1, r⟩ := r; exact ⟨w, e1, Dl.tr (A := e) s h r⟩
end
/-- the names, the cells, the heap -/
structure EnvOk (K : PySem.W.Frag) (M : AS) (μ : List Cell) (δ : List Slot) (σ : L2.St) (H : Hp) : Prop where
  h : Holds K M μ H
  len : σ.length = δ.length
  sl : ∀ (i : Nat) (s : Slot) (v : Option V), δ[i]? = some s → σ[i]? = some v → SlotO K M H v s
section
variable {K : PySem.W.Frag} {M M' : AS} {μ μ' : List Cell} {δ : List Slot} {σ : L2.St} {H H' : Hp} {v : V}
theorem EnvOk.step (E : EnvOk K M μ δ σ H) (s : Ste M μ H M' μ' H') (h : Holds K M' μ' H') : EnvOk K M' μ' δ σ H' :=
  ⟨h, E.len, fun i t v e1 e2 => (E.sl i t v e1 e2).tr s E.h⟩
theorem EnvOk.get {α : Type} {A : Enc α} {x : α} {i : Nat} (E : EnvOk K M μ δ σ H) (h : δ[i]? = some (.val A x)) : ∃ w, σ[i]? = some (some w) ∧ A.R K M H w x := by
  have hi : i < σ.length := by rw [E.len]; exact (List.getElem?_eq_some_iff.mp h).1
  obtain ⟨w, e, r⟩ := E.sl i _ _ h (List.getElem?_eq_getElem hi)
  exact ⟨w, by rw [List.getElem?_eq_getElem hi, e], r⟩
theorem EnvOk.put {s : Slot} {i : Nat} (E : EnvOk K M μ δ σ H) (r : SlotV K M H v s) : EnvOk K M μ (δ.set i s) (σ.set i (some v)) H := by
  refine ⟨E.h, by rw [List.length_set, List.length_set]; exact E.len, fun j t w e1 e2 => ?_⟩
  by_cases hj : i = j
  · subst hj
    have hi : i < σ.length := by
      have := (List.getElem?_eq_some_iff.mp e2).1
      rwa [List.length_set] at this
    rw [List.getElem?_set_self (by rw [← E.len]; exact hi)] at e1
    rw [List.getElem?_set_self hi] at e2
    cases e1; cases e2
    cases s with
    | any => trivial
    | val e x => exact ⟨v, rfl, r⟩
  · rw [List.getElem?_set_ne hj] at e1 e2
    exact E.sl j t w e1 e2
end

inductive SlVs (K : PySem.W.Frag) (M : AS) (H : Hp) : List V → List Slot → Prop
  | nil : SlVs K M H [] []
  | cons {v : V} {s : Slot} {vs : List V} {ss : List Slot} : SlotV K M H v s → SlVs K M H vs ss → SlVs K M H (v :: vs) (s :: ss)
theorem SlVs.length {K : PySem.W.Frag} {M : AS} {H : Hp} : ∀ {vs : List V} {ss : List Slot}, SlVs K M H vs ss → vs.length = ss.length
  | _, _, .nil => rfl
  | _, _, .cons _ t => by rw [List.length_cons, List.length_cons, t.length]
theorem SlVs.tr {K : PySem.W.Frag} {M M' : AS} {μ μ' : List Cell} {H H' : Hp} (s : Ste M μ H M' μ' H') (h : Holds K M μ H) : ∀ {vs : List V} {ss : List Slot}, SlVs K M H vs ss → SlVs K M' H' vs ss
  | _, _, .nil => .nil
  | _, _, .cons r t => .cons (r.tr s h) (t.tr s h)
theorem SlVs.at {K : PySem.W.Frag} {M : AS} {H : Hp} : ∀ {vs : List V} {ss : List Slot} {i : Nat} {v : V} {s : Slot}, SlVs K M H vs ss → vs[i]? = some v → ss[i]? = some s → SlotV K M H v s
  | _, _, 0, _, _, .cons r _, e1, e2 => by
    simp only [List.getElem?_cons_zero, Option.some.injEq] at e1 e2
    subst e1 e2
    exact r
  | _, _, i + 1, _, _, .cons _ t, e1, e2 => t.at (i := i) (by simpa using e1) (by simpa using e2)
/-! ### what an expression, a test, a list of arguments comes to -/
def WE {α : Type} [Enc α] (K : PySem.W.Frag) (te : TE) (δ : List Slot) (μ : List Cell) (P : α → List Cell → Prop) : Prop :=
  ∀ (M : AS) (σ : L2.St) (H : Hp), EnvOk K M μ δ σ H → ∀ Q : VK, (∀ x μ' M' v H', P x μ' → Ste M μ H M' μ' H' → Holds K M' μ' H' → Enc.R K M' H' v x → Q v H') → te σ H Q
def WT (K : PySem.W.Frag) (tt : TT) (δ : List Slot) (μ : List Cell) (P : Bool → List Cell → Prop) : Prop :=
  ∀ (M : AS) (σ : L2.St) (H : Hp), EnvOk K M μ δ σ H → ∀ Q : Bool → Hp → Prop, (∀ b μ' M' H', P b μ' → Ste M μ H M' μ' H' → Holds K M' μ' H' → Q b H') → tt σ H Q
def WA (K : PySem.W.Frag) (ta : TA) (δ : List Slot) (μ : List Cell) (P : List Slot → List Cell → Prop) : Prop :=
  ∀ (M : AS) (σ : L2.St) (H : Hp), EnvOk K M μ δ σ H → ∀ Q : List V → Hp → Prop, (∀ xs μ' M' vs H', P xs μ' → Ste M μ H M' μ' H' → Holds K M' μ' H' → SlVs K M' H' vs xs → Q vs H') → ta σ H Q
abbrev PN := List Slot → List Cell → Prop
def WS {ρ : Type} [Enc ρ] (K : PySem.W.Frag) (ts : TS) (δ : List Slot) (μ : List Cell) (N : PN) (R : ρ → List Cell → Prop) (B C : PN) : Prop :=
  ∀ (M : AS) (σ : L2.St) (H : Hp), EnvOk K M μ δ σ H → ∀ D : Ends,
    (∀ δ' μ' M' σ' H', N δ' μ' → Ste M μ H M' μ' H' → EnvOk K M' μ' δ' σ' H' → D.nx σ' H') →
    (∀ x μ' M' v H', R x μ' → Ste M μ H M' μ' H' → Holds K M' μ' H' → Enc.R K M' H' v x → D.rt v H') →
    (∀ δ' μ' M' σ' H', B δ' μ' → Ste M μ H M' μ' H' → EnvOk K M' μ' δ' σ' H' → D.bk σ' H') →
    (∀ δ' μ' M' σ' H', C δ' μ' → Ste M μ H M' μ' H' → EnvOk K M' μ' δ' σ' H' → D.ct σ' H') → ts D σ H
/-! ### the readings that are always right -/
section
variable (X : Cx)
def cE (e : Expr) : TE := fun σ H Q => ∀ pins s, Inv X pins σ H s → wpAny (model X.prog X.w) X.A (eval e X.env) (EP X pins σ Q) X.xe s
def cT (e : Expr) : TT := fun σ H Q => ∀ whole pins s, Inv X pins σ H s → wpAny (model X.prog X.w) X.A (isTrue e X.env whole) (TP X pins σ Q) X.xe s
def cV (e : Expr) : TT := fun σ H Q => ∀ pins s, Inv X pins σ H s → wpAny (model X.prog X.w) X.A (isTrue e X.env (eval e X.env)) (TP X pins σ Q) X.xe s
def cA (es : List Expr) : TA := fun σ H Q => ∀ pos pins s, Inv X pins σ H s → wpAny (model X.prog X.w) X.A (spliced (backTo pos (starEach es X.env))) (AP X pins σ Q) X.xe s
def cS (st : Stmt) : TS := fun D σ H => ∀ pins s, Inv X pins σ H s → wpAny (model X.prog X.w) X.A (exec st X.env) (SP X pins D) X.xe s
def cSs (st : List Stmt) : TS := fun D σ H => ∀ pins s, Inv X pins σ H s → wpAny (model X.prog X.w) X.A (execs st X.env) (SP X pins D) X.xe s
end
section
variable {X : Cx}
theorem cE_pe (e : Expr) : PE X e (cE X e) := ⟨fun pins s _ _ _ I h => h pins s I⟩
theorem cV_pt (e : Expr) : PT X e (cV X e) := ⟨fun pins s _ _ _ I h => h pins s I⟩
theorem cT_pw (e : Expr) : PW X e (cT X e) := ⟨fun wh pins s _ _ _ I h => h wh pins s I⟩
theorem cA_pa (es : List Expr) : PA X es (cA X es) := ⟨fun pos pins s _ _ _ I h => h pos pins s I⟩
theorem cS_ps (st : Stmt) : PS X st (cS X st) := ⟨fun pins s _ _ _ I h => h pins s I⟩
theorem cSs_pss (st : List Stmt) : PSs X st (cSs X st) := ⟨fun pins s _ _ _ I h => h pins s I⟩
end
section
variable (X : Cx)
def DE {α : Type} [Enc α] (e : Expr) (δ : List Slot) (μ : List Cell) (P : α → List Cell → Prop) : Prop := WE X.K (cE X e) δ μ P
def DT (e : Expr) (δ : List Slot) (μ : List Cell) (P : Bool → List Cell → Prop) : Prop := WT X.K (cV X e) δ μ P
def DW (e : Expr) (δ : List Slot) (μ : List Cell) (P : Bool → List Cell → Prop) : Prop := WT X.K (cT X e) δ μ P
def DA (es : List Expr) (δ : List Slot) (μ : List Cell) (P : List Slot → List Cell → Prop) : Prop := WA X.K (cA X es) δ μ P
def DS {ρ : Type} [Enc ρ] (st : Stmt) (δ : List Slot) (μ : List Cell) (N : PN) (R : ρ → List Cell → Prop) (B C : PN) : Prop := WS X.K (cS X st) δ μ N R B C
def DB {ρ : Type} [Enc ρ] (st : List Stmt) (δ : List Slot) (μ : List Cell) (N : PN) (R : ρ → List Cell → Prop) (B C : PN) : Prop := WS X.K (cSs X st) δ μ N R B C
end
section
variable {X : Cx} {α β γ ρ : Type} [Enc α] [Enc β] [Enc γ] [Enc ρ] {e a b : Expr} {es : List Expr} {t ta tb : TE} {tt : TT} {ts : TS} {tA : TA} {δ : List Slot} {μ : List Cell} {P : α → List Cell → Prop} {PB : Bool → List Cell → Prop} {PA' : List Slot → List Cell → Prop}
  {N B C : PN} {R : ρ → List Cell → Prop} {st : Stmt} {sts : List Stmt}
theorem of_pe (h : PE X e t) (w : WE X.K t δ μ P) : DE X e δ μ P := fun M σ H E Q q pins s I => h.run pins s σ H Q I (w M σ H E Q q)
theorem of_pt (h : PT X e tt) (w : WT X.K tt δ μ PB) : DT X e δ μ PB := fun M σ H E Q q pins s I => h.run pins s σ H Q I (w M σ H E Q q)
theorem of_pw (h : PW X e tt) (w : WT X.K tt δ μ PB) : DW X e δ μ PB := fun M σ H E Q q wh pins s I => h.run wh pins s σ H Q I (w M σ H E Q q)
theorem DW.dt (h : DW X e δ μ PB) : DT X e δ μ PB := fun M σ H E Q q pins s I => h M σ H E Q q _ pins s I
theorem of_pa (h : PA X es tA) (w : WA X.K tA δ μ PA') : DA X es δ μ PA' := fun M σ H E Q q pos pins s I => h.run pos pins s σ H Q I (w M σ H E Q q)
theorem of_ps (h : PS X st ts) (w : WS X.K ts δ μ N R B C) : DS X st δ μ N R B C := fun M σ H E D n r b c pins s I => h.run pins s σ H D I (w M σ H E D n r b c)
theorem of_pss (h : PSs X sts ts) (w : WS X.K ts δ μ N R B C) : DB X sts δ μ N R B C := fun M σ H E D n r b c pins s I => h.run pins s σ H D I (w M σ H E D n r b c)

/-! ### names, constants -/
theorem de_var {i : Nat} {x : Str} {pos : Pos} {A : Enc α} {v : α} {P : α → List Cell → Prop} (h : δ[i]? = some (.val A v)) (q : P v μ) (hN : X.N[i]? = some x := by rfl) (hv : Vis X.env.scope x := by first | exact Or.inl rfl | exact Or.inr (Or.inl rfl) | exact Or.inr (Or.inr rfl))
    (hd : (x == ("__debug__" : Str)) = false := by decide) (hcd : (x == ("__classdict__" : Str)) = false := by decide) : @DE X α A (.Name x pos) δ μ P :=
  @of_pe X α A _ _ _ _ _ (pe_var hN hv hd hcd) fun M σ H E Q k => by
    obtain ⟨w, e, r⟩ := E.get h
    exact ⟨w, e, k v μ M w H q Ste.refl E.h r⟩
theorem de_c {v : V} {x : α} (he : PE X e (tC v)) (r : ∀ K M H, Enc.R K M H v x) (q : P x μ) : DE X e δ μ P :=
  of_pe he fun M σ H E Q k => k x μ M v H q Ste.refl E.h (r _ _ _)
theorem de_int {i : Int} {j pos} {P : Int → List Cell → Prop} (q : P i μ) : DE X (.Constant (.int i) j pos) δ μ P := de_c pe_int (fun _ _ _ => rfl) q
theorem de_bl {i : Bool} {j pos} {P : Bool → List Cell → Prop} (q : P i μ) : DE X (.Constant (.bool i) j pos) δ μ P := de_c pe_bl (fun _ _ _ => rfl) q
theorem de_str {i : Str} {j pos} {P : Str → List Cell → Prop} (q : P i μ) : DE X (.Constant (.str i) j pos) δ μ P := de_c pe_str (fun _ _ _ => rfl) q
theorem de_non {j pos} {P : Unit → List Cell → Prop} (q : P () μ) : DE X (.Constant .none j pos) δ μ P := de_c pe_non (fun _ _ _ => rfl) q
theorem de_nonO [NN α] {j pos} {P : Option α → List Cell → Prop} (q : P none μ) : DE X (.Constant .none j pos) δ μ P := de_c pe_non (fun _ _ _ => rfl) q
theorem de_some [NN α] {P : Option α → List Cell → Prop} (h : DE X e δ μ (fun (x : α) μ' => P (some x) μ')) : DE X e δ μ P :=
  fun M σ H E Q k => h M σ H E Q fun x μ' M' v H' p s hh r => k (some x) μ' M' v H' p s hh r
theorem DE.mono {P P' : α → List Cell → Prop} (h : DE X e δ μ P) (k : ∀ x μ', P x μ' → P' x μ') : DE X e δ μ P' := fun M σ H E Q q => h M σ H E Q fun x μ' M' v H' p => q x μ' M' v H' (k x μ' p)

/-! ### two in a row -/
theorem we2 {r : R2} {ta tb : TE} {P1 : α → List Cell → Prop} {P2 : α → List Cell → β → List Cell → Prop} {P : γ → List Cell → Prop} (ha : WE X.K ta δ μ P1) (hb : ∀ x μ1, P1 x μ1 → WE X.K tb δ μ1 (P2 x μ1))
    (hr : ∀ x μ1 y μ2, P1 x μ1 → P2 x μ1 y μ2 → ∀ (M : AS) (H : Hp) (v w : V), Holds X.K M μ2 H → Enc.R X.K M H v x → Enc.R X.K M H w y → ∀ Q : VK, (∀ z μ' M' u H', P z μ' → Ste M μ2 H M' μ' H' → Holds X.K M' μ' H' → Enc.R X.K M' H' u z → Q u H') → r v w H Q) :
    WE X.K (tOp r ta tb) δ μ P := fun M σ H E Q k =>
  ha M σ H E _ fun x μ1 M1 v H1 p1 s1 h1 r1 => hb x μ1 p1 M1 σ H1 (E.step s1 h1) _ fun y μ2 M2 w H2 p2 s2 h2 r2 =>
    hr x μ1 y μ2 p1 p2 M2 H2 v w h2 (tr s2 h1 r1) r2 Q fun z μ' M' u H' p s3 h3 r3 => k z μ' M' u H' p ((s1.trans s2).trans s3) h3 r3
/-- an operation on two values that makes nothing -/
theorem de_op {op : Operator} {r : R2} {pos : Pos} {P : γ → List Cell → Prop} (ho : OpR X (binaryOp op) r)
    (h : DE X a δ μ fun (x : α) μ1 => DE X b δ μ1 fun (y : β) μ2 => ∃ z : γ, P z μ2 ∧ ∀ (K : PySem.W.Frag) (M : AS) (H : Hp) (v w : V), Enc.R K M H v x → Enc.R K M H w y → ∀ Q : VK, (∀ u, Enc.R K M H u z → Q u H) → r v w H Q) :
    DE X (.BinOp a op b pos) δ μ P :=
  of_pe (pe_op ho (cE_pe a) (cE_pe b)) (we2 (P2 := fun x μ1 y μ2 => ∃ z : γ, P z μ2 ∧ ∀ (K : PySem.W.Frag) (M : AS) (H : Hp) (v w : V), Enc.R K M H v x → Enc.R K M H w y → ∀ Q : VK, (∀ u, Enc.R K M H u z → Q u H) → r v w H Q) h (fun x μ1 p => p)
    fun x μ1 y μ2 _ p2 M H v w hh r1 r2 Q k => by
      obtain ⟨z, p, hz⟩ := p2
      exact hz X.K M H v w r1 r2 Q fun u ru => k z μ2 M u H p Ste.refl hh ru)
theorem de_cmp {op : CmpOp} {r : R2} {pos : Pos} {P : γ → List Cell → Prop} (ho : OpR X (compareOp op) r)
    (h : DE X a δ μ fun (x : α) μ1 => DE X b δ μ1 fun (y : β) μ2 => ∃ z : γ, P z μ2 ∧ ∀ (K : PySem.W.Frag) (M : AS) (H : Hp) (v w : V), Enc.R K M H v x → Enc.R K M H w y → ∀ Q : VK, (∀ u, Enc.R K M H u z → Q u H) → r v w H Q) (hm : behindInMarks op b = false) :
    DE X (.Compare a [op] [b] pos) δ μ P :=
  of_pe (pe_cmpR ho (cE_pe a) (cE_pe b) hm) (we2 (P2 := fun x μ1 y μ2 => ∃ z : γ, P z μ2 ∧ ∀ (K : PySem.W.Frag) (M : AS) (H : Hp) (v w : V), Enc.R K M H v x → Enc.R K M H w y → ∀ Q : VK, (∀ u, Enc.R K M H u z → Q u H) → r v w H Q) h (fun x μ1 p => p)
    fun x μ1 y μ2 _ p2 M H v w hh r1 r2 Q k => by
      obtain ⟨z, p, hz⟩ := p2
      exact hz X.K M H v w r1 r2 Q fun u ru => k z μ2 M u H p Ste.refl hh ru)
theorem iiI {g : Int → Int → Int} {x y : Int} : ∀ (K : PySem.W.Frag) (M : AS) (H : Hp) (v w : V), Enc.R K M H v x → Enc.R K M H w y → ∀ Q : VK, (∀ u, Enc.R K M H u (g x y) → Q u H) → rI0 (fun i j => .int (g i j)) v w H Q := fun K M H v w r1 r2 Q k => ⟨x, y, r1, r2, k _ rfl⟩
theorem iiC {C : Int → Int → Prop} {g : Int → Int → Int} {x y : Int} (c : C x y) : ∀ (K : PySem.W.Frag) (M : AS) (H : Hp) (v w : V), Enc.R K M H v x → Enc.R K M H w y → ∀ Q : VK, (∀ u, Enc.R K M H u (g x y) → Q u H) → rI C (fun i j => .int (g i j)) v w H Q := fun K M H v w r1 r2 Q k => ⟨x, y, r1, r2, c, k _ rfl⟩
theorem iiB {g : Int → Int → Bool} {x y : Int} : ∀ (K : PySem.W.Frag) (M : AS) (H : Hp) (v w : V), Enc.R K M H v x → Enc.R K M H w y → ∀ Q : VK, (∀ u, Enc.R K M H u (g x y) → Q u H) → rI0 (fun i j => .bl (g i j)) v w H Q := fun K M H v w r1 r2 Q k => ⟨x, y, r1, r2, k _ rfl⟩
section
variable {pos : Pos} {P : Int → List Cell → Prop} {PB : Bool → List Cell → Prop}
theorem de_add (h : DE X a δ μ fun (x : Int) μ1 => DE X b δ μ1 fun (y : Int) μ2 => P (x + y) μ2) : DE X (.BinOp a .Add b pos) δ μ P :=
  de_op op_add (h.mono fun x μ1 h => h.mono fun y μ2 p => ⟨_, p, iiI (g := fun i j => i + j)⟩)
theorem de_sub (h : DE X a δ μ fun (x : Int) μ1 => DE X b δ μ1 fun (y : Int) μ2 => P (x - y) μ2) : DE X (.BinOp a .Sub b pos) δ μ P :=
  de_op op_sub (h.mono fun x μ1 h => h.mono fun y μ2 p => ⟨_, p, iiI (g := fun i j => i - j)⟩)
theorem de_mul (h : DE X a δ μ fun (x : Int) μ1 => DE X b δ μ1 fun (y : Int) μ2 => CMulX x y ∧ P (x * y) μ2) : DE X (.BinOp a .Mult b pos) δ μ P :=
  de_op op_mulX (h.mono fun x μ1 h => h.mono fun y μ2 p => ⟨_, p.2, iiC (g := fun i j => i * j) p.1⟩)
/-- one side small -/
theorem de_mulS (h : DE X a δ μ fun (x : Int) μ1 => DE X b δ μ1 fun (y : Int) μ2 => CMul x y ∧ P (x * y) μ2) : DE X (.BinOp a .Mult b pos) δ μ P :=
  de_op op_mul (h.mono fun x μ1 h => h.mono fun y μ2 p => ⟨_, p.2, iiC (g := fun i j => i * j) p.1⟩)
theorem de_div (h : DE X a δ μ fun (x : Int) μ1 => DE X b δ μ1 fun (y : Int) μ2 => CDivW x y ∧ P (x / y) μ2) : DE X (.BinOp a .FloorDiv b pos) δ μ P :=
  de_op op_fdivW (h.mono fun x μ1 h => h.mono fun y μ2 p => ⟨_, p.2, iiC (g := fun i j => i / j) p.1⟩)
theorem de_mod (h : DE X a δ μ fun (x : Int) μ1 => DE X b δ μ1 fun (y : Int) μ2 => 0 < y ∧ P (x % y) μ2) : DE X (.BinOp a .Mod b pos) δ μ P :=
  de_op op_mod (h.mono fun x μ1 h => h.mono fun y μ2 p => ⟨_, p.2, iiC (C := fun _ j => 0 < j) (g := fun i j => i % j) p.1⟩)
theorem de_lt (h : DE X a δ μ fun (x : Int) μ1 => DE X b δ μ1 fun (y : Int) μ2 => PB (decide (x < y)) μ2) : DE X (.Compare a [.Lt] [b] pos) δ μ PB :=
  de_cmp op_lt (h.mono fun x μ1 h => h.mono fun y μ2 p => ⟨_, p, iiB (g := fun i j => decide (i < j))⟩) (nomark b)
theorem de_le (h : DE X a δ μ fun (x : Int) μ1 => DE X b δ μ1 fun (y : Int) μ2 => PB (decide (x ≤ y)) μ2) : DE X (.Compare a [.LtE] [b] pos) δ μ PB :=
  de_cmp op_le (h.mono fun x μ1 h => h.mono fun y μ2 p => ⟨_, p, iiB (g := fun i j => decide (i ≤ j))⟩) (nomark b)
theorem de_gt (h : DE X a δ μ fun (x : Int) μ1 => DE X b δ μ1 fun (y : Int) μ2 => PB (decide (y < x)) μ2) : DE X (.Compare a [.Gt] [b] pos) δ μ PB :=
  de_cmp op_gt (h.mono fun x μ1 h => h.mono fun y μ2 p => ⟨_, p, iiB (g := fun i j => decide (j < i))⟩) (nomark b)
theorem de_ge (h : DE X a δ μ fun (x : Int) μ1 => DE X b δ μ1 fun (y : Int) μ2 => PB (decide (y ≤ x)) μ2) : DE X (.Compare a [.GtE] [b] pos) δ μ PB :=
  de_cmp op_ge (h.mono fun x μ1 h => h.mono fun y μ2 p => ⟨_, p, iiB (g := fun i j => decide (j ≤ i))⟩) (nomark b)
theorem de_eqI (h : DE X a δ μ fun (x : Int) μ1 => DE X b δ μ1 fun (y : Int) μ2 => PB (decide (x = y)) μ2) : DE X (.Compare a [.Eq] [b] pos) δ μ PB :=
  de_cmp op_eq (h.mono fun x μ1 h => h.mono fun y μ2 p => ⟨_, p, fun K M H v w r1 r2 Q k => by
    cases r1; cases r2
    refine ⟨rfl, k _ ?_⟩
    show V.bl _ = V.bl _
    simp only [V.int.injEq]⟩) (nomark b)
theorem de_neI (h : DE X a δ μ fun (x : Int) μ1 => DE X b δ μ1 fun (y : Int) μ2 => PB (!decide (x = y)) μ2) : DE X (.Compare a [.NotEq] [b] pos) δ μ PB :=
  de_cmp op_ne (h.mono fun x μ1 h => h.mono fun y μ2 p => ⟨_, p, fun K M H v w r1 r2 Q k => by
    cases r1; cases r2
    refine ⟨rfl, k _ ?_⟩
    show V.bl _ = V.bl _
    simp only [V.int.injEq]⟩) (nomark b)
theorem we1 {r : V → Hp → VK → Prop} {ta : TE} {P1 : α → List Cell → Prop} {P : γ → List Cell → Prop} (ha : WE X.K ta δ μ P1)
    (hr : ∀ x μ1, P1 x μ1 → ∀ (M : AS) (H : Hp) (v : V), Holds X.K M μ1 H → Enc.R X.K M H v x → ∀ Q : VK, (∀ z μ' M' u H', P z μ' → Ste M μ1 H M' μ' H' → Holds X.K M' μ' H' → Enc.R X.K M' H' u z → Q u H') → r v H Q) :
    WE X.K (tUn r ta) δ μ P := fun M σ H E Q k =>
  ha M σ H E _ fun x μ1 M1 v H1 p1 s1 h1 r1 => hr x μ1 p1 M1 H1 v h1 r1 Q fun z μ' M' u H' p s3 h3 r3 => k z μ' M' u H' p (s1.trans s3) h3 r3
theorem de_neg (h : DE X a δ μ fun (x : Int) μ1 => P (-x) μ1) : DE X (.UnaryOp .USub a pos) δ μ P :=
  of_pe (pe_un un_neg (cE_pe a)) (we1 h fun x μ1 p M H v hh r1 Q k => by
    cases r1
    exact ⟨x, rfl, k _ μ1 M _ H p Ste.refl hh rfl⟩)
/-- is None, is not None -/
theorem de_isN [NN α] {j pos'} (h : DE X a δ μ fun (x : Option α) μ1 => PB x.isNone μ1) : DE X (.Compare a [.Is] [.Constant .none j pos'] pos) δ μ PB :=
  of_pe (pe_cmp (pc_isN (cE_pe a))) fun M σ H E Q k => h M σ H E _ fun x μ1 M1 v H1 p1 s1 h1 r1 => k x.isNone μ1 M1 _ H1 p1 s1 h1 (by
    cases x with
    | none => cases r1; rfl
    | some y =>
      have := NN.nn (x := y) r1
      show V.bl (decide (v = V.non)) = V.bl false
      rw [decide_eq_false this])
theorem de_isNot [NN α] {j pos'} (h : DE X a δ μ fun (x : Option α) μ1 => PB x.isSome μ1) : DE X (.Compare a [.IsNot] [.Constant .none j pos'] pos) δ μ PB :=
  of_pe (pe_cmp (pc_notN (cE_pe a))) fun M σ H E Q k => h M σ H E _ fun x μ1 M1 v H1 p1 s1 h1 r1 => k x.isSome μ1 M1 _ H1 p1 s1 h1 (by
    cases x with
    | none => cases r1; rfl
    | some y =>
      have := NN.nn (x := y) r1
      show V.bl (!decide (v = V.non)) = V.bl true
      rw [decide_eq_false this]
      rfl)
/-! ### tests -/
/-- a bool as a test -/
theorem dt_val (h : DE X a δ μ PB) (he : ∀ whole, isTrue a X.env whole = (do let v ← whole; standAt a.pos; holding [v] (truthy v)) := by intro _; rfl) : DT X a δ μ PB :=
  of_pt (pt_val (cE_pe a) he) fun M σ H E Q k => h M σ H E _ fun x μ1 M1 v H1 p1 s1 h1 r1 => ⟨x, r1, k x μ1 M1 H1 p1 s1 h1⟩
/-- a comparison as a test -/
theorem wt2 {r : R2} {ta tb : TE} {P1 : α → List Cell → Prop} {P2 : α → List Cell → β → List Cell → Prop} (ha : WE X.K ta δ μ P1) (hb : ∀ x μ1, P1 x μ1 → WE X.K tb δ μ1 (P2 x μ1))
    (hr : ∀ x μ1 y μ2, P1 x μ1 → P2 x μ1 y μ2 → ∀ (M : AS) (H : Hp) (v w : V), Holds X.K M μ2 H → Enc.R X.K M H v x → Enc.R X.K M H w y → ∀ Q : VK, (∀ z μ' M' H', PB z μ' → Ste M μ2 H M' μ' H' → Holds X.K M' μ' H' → Q (.bl z) H') → r v w H Q) :
    WT X.K (tTest (tOp r ta tb)) δ μ PB := fun M σ H E Q k =>
  ha M σ H E _ fun x μ1 M1 v H1 p1 s1 h1 r1 => hb x μ1 p1 M1 σ H1 (E.step s1 h1) _ fun y μ2 M2 w H2 p2 s2 h2 r2 =>
    hr x μ1 y μ2 p1 p2 M2 H2 v w h2 (tr s2 h1 r1) r2 _ fun z μ' M' H' p s3 h3 => ⟨z, rfl, k z μ' M' H' p ((s1.trans s2).trans s3) h3⟩
/-- any comparison whose value is known, as a test -/
theorem dt_cmp {op : CmpOp} {r : R2} (ho : OpR X (compareOp op) r)
    (h : DE X a δ μ fun (x : α) μ1 => DE X b δ μ1 fun (y : β) μ2 => ∃ z : Bool, PB z μ2 ∧ ∀ (K : PySem.W.Frag) (M : AS) (H : Hp) (v w : V), Enc.R K M H v x → Enc.R K M H w y → ∀ Q : VK, (∀ u, Enc.R K M H u z → Q u H) → r v w H Q) (hm : behindInMarks op b = false) :
    DT X (.Compare a [op] [b] pos) δ μ PB :=
  of_pt (pt_cmpR ho (cE_pe a) (cE_pe b) hm) (wt2 (P2 := fun x μ1 y μ2 => ∃ z : Bool, PB z μ2 ∧ ∀ (K : PySem.W.Frag) (M : AS) (H : Hp) (v w : V), Enc.R K M H v x → Enc.R K M H w y → ∀ Q : VK, (∀ u, Enc.R K M H u z → Q u H) → r v w H Q) h (fun x μ1 p => p)
    fun x μ1 y μ2 _ p2 M H v w hh r1 r2 Q k => by
      obtain ⟨z, p, hz⟩ := p2
      exact hz X.K M H v w r1 r2 Q fun u ru => by
        cases ru
        exact k z μ2 M H p Ste.refl hh)
theorem dt_lt (h : DE X a δ μ fun (x : Int) μ1 => DE X b δ μ1 fun (y : Int) μ2 => PB (decide (x < y)) μ2) : DT X (.Compare a [.Lt] [b] pos) δ μ PB :=
  dt_cmp op_lt (h.mono fun x μ1 h => h.mono fun y μ2 p => ⟨_, p, iiB (g := fun i j => decide (i < j))⟩) (nomark b)
theorem dt_le (h : DE X a δ μ fun (x : Int) μ1 => DE X b δ μ1 fun (y : Int) μ2 => PB (decide (x ≤ y)) μ2) : DT X (.Compare a [.LtE] [b] pos) δ μ PB :=
  dt_cmp op_le (h.mono fun x μ1 h => h.mono fun y μ2 p => ⟨_, p, iiB (g := fun i j => decide (i ≤ j))⟩) (nomark b)
theorem dt_gt (h : DE X a δ μ fun (x : Int) μ1 => DE X b δ μ1 fun (y : Int) μ2 => PB (decide (y < x)) μ2) : DT X (.Compare a [.Gt] [b] pos) δ μ PB :=
  dt_cmp op_gt (h.mono fun x μ1 h => h.mono fun y μ2 p => ⟨_, p, iiB (g := fun i j => decide (j < i))⟩) (nomark b)
theorem dt_ge (h : DE X a δ μ fun (x : Int) μ1 => DE X b δ μ1 fun (y : Int) μ2 => PB (decide (y ≤ x)) μ2) : DT X (.Compare a [.GtE] [b] pos) δ μ PB :=
  dt_cmp op_ge (h.mono fun x μ1 h => h.mono fun y μ2 p => ⟨_, p, iiB (g := fun i j => decide (j ≤ i))⟩) (nomark b)
theorem dt_eqI (h : DE X a δ μ fun (x : Int) μ1 => DE X b δ μ1 fun (y : Int) μ2 => PB (decide (x = y)) μ2) : DT X (.Compare a [.Eq] [b] pos) δ μ PB :=
  dt_cmp op_eq (h.mono fun x μ1 h => h.mono fun y μ2 p => ⟨_, p, fun K M H v w r1 r2 Q k => by
    cases r1; cases r2
    refine ⟨rfl, k _ ?_⟩
    show V.bl _ = V.bl _
    simp only [V.int.injEq]⟩) (nomark b)
theorem dt_neI (h : DE X a δ μ fun (x : Int) μ1 => DE X b δ μ1 fun (y : Int) μ2 => PB (!decide (x = y)) μ2) : DT X (.Compare a [.NotEq] [b] pos) δ μ PB :=
  dt_cmp op_ne (h.mono fun x μ1 h => h.mono fun y μ2 p => ⟨_, p, fun K M H v w r1 r2 Q k => by
    cases r1; cases r2
    refine ⟨rfl, k _ ?_⟩
    show V.bl _ = V.bl _
    simp only [V.int.injEq]⟩) (nomark b)
theorem dt_isN [NN α] {j pos'} (h : DE X a δ μ fun (x : Option α) μ1 => PB x.isNone μ1) : DT X (.Compare a [.Is] [.Constant .none j pos'] pos) δ μ PB :=
  of_pt (pt_cmp (pc_isN (cE_pe a))) fun M σ H E Q k => h M σ H E _ fun x μ1 M1 v H1 p1 s1 h1 r1 => ⟨x.isNone, by
    cases x with
    | none => cases r1; rfl
    | some y =>
      have := NN.nn (x := y) r1
      show V.bl (decide (v = V.non)) = V.bl false
      rw [decide_eq_false this], k x.isNone μ1 M1 H1 p1 s1 h1⟩
theorem dt_isNot [NN α] {j pos'} (h : DE X a δ μ fun (x : Option α) μ1 => PB x.isSome μ1) : DT X (.Compare a [.IsNot] [.Constant .none j pos'] pos) δ μ PB :=
  of_pt (pt_cmp (pc_notN (cE_pe a))) fun M σ H E Q k => h M σ H E _ fun x μ1 M1 v H1 p1 s1 h1 r1 => ⟨x.isSome, by
    cases x with
    | none => cases r1; rfl
    | some y =>
      have := NN.nn (x := y) r1
      show V.bl (!decide (v = V.non)) = V.bl true
      rw [decide_eq_false this]
      rfl, k x.isSome μ1 M1 H1 p1 s1 h1⟩
theorem dt_not (h : DT X a δ μ fun x μ1 => PB (!x) μ1) : DT X (.UnaryOp .Not a pos) δ μ PB :=
  of_pt (pt_not (cV_pt a)) fun M σ H E Q k => h M σ H E _ fun x μ1 M1 H1 p1 s1 h1 => k (!x) μ1 M1 H1 p1 s1 h1
theorem dw_and1 (h : DT X a δ μ PB) : DW X (.BoolOp .And [a] pos) δ μ PB := of_pw (pw_and1 (cV_pt a)) h
theorem dw_or1 (h : DT X a δ μ PB) : DW X (.BoolOp .Or [a] pos) δ μ PB := of_pw (pw_or1 (cV_pt a)) h
theorem dw_and {rest : List Expr} (h : DT X a δ μ fun x μ1 => (x = true → DW X (.BoolOp .And (b :: rest) pos) δ μ1 PB) ∧ (x = false → PB false μ1)) : DW X (.BoolOp .And (a :: b :: rest) pos) δ μ PB :=
  of_pw (pw_and (cV_pt a) (cT_pw _)) fun M σ H E Q k => h M σ H E _ fun x μ1 M1 H1 p1 s1 h1 => by
    cases x with
    | true => exact iteT (p1.1 rfl M1 σ H1 (E.step s1 h1) Q fun z μ' M' H' p s2 h2 => k z μ' M' H' p (s1.trans s2) h2)
    | false => exact iteF (k false μ1 M1 H1 (p1.2 rfl) s1 h1)
theorem dw_or {rest : List Expr} (h : DT X a δ μ fun x μ1 => (x = true → PB true μ1) ∧ (x = false → DW X (.BoolOp .Or (b :: rest) pos) δ μ1 PB)) : DW X (.BoolOp .Or (a :: b :: rest) pos) δ μ PB :=
  of_pw (pw_or (cV_pt a) (cT_pw _)) fun M σ H E Q k => h M σ H E _ fun x μ1 M1 H1 p1 s1 h1 => by
    cases x with
    | true => exact iteT (k true μ1 M1 H1 (p1.1 rfl) s1 h1)
    | false => exact iteF (p1.2 rfl M1 σ H1 (E.step s1 h1) Q fun z μ' M' H' p s2 h2 => k z μ' M' H' p (s1.trans s2) h2)
/-- and, or, not as values -/
theorem de_one {op} {P : α → List Cell → Prop} (h : DE X a δ μ P) : DE X (.BoolOp op [a] pos) δ μ P := of_pe (pe_one (cE_pe a)) h
theorem de_and {rest : List Expr} (h : DE X a δ μ fun (x : Bool) μ1 => (x = true → DE X (.BoolOp .And (b :: rest) pos) δ μ1 PB) ∧ (x = false → PB false μ1)) : DE X (.BoolOp .And (a :: b :: rest) pos) δ μ PB :=
  of_pe (pe_and (cE_pe a) (cE_pe _)) fun M σ H E Q k => h M σ H E _ fun x μ1 M1 v H1 p1 s1 h1 r1 => ⟨x, r1, by
    cases x with
    | true => exact iteT (p1.1 rfl M1 σ H1 (E.step s1 h1) Q fun z μ' M' u H' p s2 h2 => k z μ' M' u H' p (s1.trans s2) h2)
    | false => exact iteF (k false μ1 M1 _ H1 (p1.2 rfl) s1 h1 rfl)⟩
theorem de_or {rest : List Expr} (h : DE X a δ μ fun (x : Bool) μ1 => (x = true → PB true μ1) ∧ (x = false → DE X (.BoolOp .Or (b :: rest) pos) δ μ1 PB)) : DE X (.BoolOp .Or (a :: b :: rest) pos) δ μ PB :=
  of_pe (pe_or (cE_pe a) (cE_pe _)) fun M σ H E Q k => h M σ H E _ fun x μ1 M1 v H1 p1 s1 h1 r1 => ⟨x, r1, by
    cases x with
    | true => exact iteT (k true μ1 M1 _ H1 (p1.1 rfl) s1 h1 rfl)
    | false => exact iteF (p1.2 rfl M1 σ H1 (E.step s1 h1) Q fun z μ' M' u H' p s2 h2 => k z μ' M' u H' p (s1.trans s2) h2)⟩
theorem de_not (h : DE X a δ μ fun (x : Bool) μ1 => PB (!x) μ1) : DE X (.UnaryOp .Not a pos) δ μ PB :=
  of_pe (pe_not (cE_pe a)) fun M σ H E Q k => h M σ H E _ fun x μ1 M1 v H1 p1 s1 h1 r1 => ⟨x, r1, k (!x) μ1 M1 _ H1 p1 s1 h1 rfl⟩
theorem de_if {c : Expr} {P : α → List Cell → Prop} (h : DT X c δ μ fun x μ1 => (x = true → DE X a δ μ1 P) ∧ (x = false → DE X b δ μ1 P)) : DE X (.IfExp c a b pos) δ μ P :=
  of_pe (pe_ifExp (cV_pt c) (cE_pe a) (cE_pe b)) fun M σ H E Q k => h M σ H E _ fun x μ1 M1 H1 p1 s1 h1 => by
    cases x with
    | true => exact iteT (p1.1 rfl M1 σ H1 (E.step s1 h1) Q fun z μ' M' u H' p s2 h2 => k z μ' M' u H' p (s1.trans s2) h2)
    | false => exact iteF (p1.2 rfl M1 σ H1 (E.step s1 h1) Q fun z μ' M' u H' p s2 h2 => k z μ' M' u H' p (s1.trans s2) h2)
end
/-! ### arguments -/
theorem da_nil {P : List Slot → List Cell → Prop} (q : P [] μ) : DA X [] δ μ P := of_pa pa_nil fun M σ H E Q k => k [] μ M [] H q Ste.refl E.h .nil
theorem da_cons {P : List Slot → List Cell → Prop} {A : Enc α} (h : @DE X α A a δ μ fun x μ1 => DA X es δ μ1 fun xs μ2 => P (.val A x :: xs) μ2) (hs : starEach (a :: es) X.env = (false, eval a X.env) :: starEach es X.env := by rfl) : DA X (a :: es) δ μ P :=
  of_pa (pa_cons (cE_pe a) (cA_pa es) hs) fun M σ H E Q k => h M σ H E _ fun x μ1 M1 v H1 p1 s1 h1 r1 => p1 M1 σ H1 (E.step s1 h1) _ fun xs μ2 M2 vs H2 p2 s2 h2 r2 =>
    k _ μ2 M2 _ H2 p2 (s1.trans s2) h2 (.cons (Dl.tr (A := A) s2 h1 r1) r2)
end
end Dl
namespace Dl
open PySem PySem.Spec PyProof.Rows L2
theorem SlVs.ex : ∀ {K : PySem.W.Frag} {M : AS} {H : Hp} {α : Type} [A : Enc α] {vs : List V} {xs : List α}, SlVs K M H vs (xs.map fun x => Slot.val A x) → Paired (A.R K M H) vs xs
  | _, _, _, _, _, _, [], h => by cases h; exact .nil
  | _, _, _, _, _, _, x :: xs, h => by
    cases h with
    | cons r t => exact .cons r (SlVs.ex t)
section
variable {X : Cx} {α β γ ρ : Type} [Enc α] [Enc β] [Enc γ] [Enc ρ] {e a b : Expr} {es : List Expr} {δ : List Slot} {μ : List Cell} {P : α → List Cell → Prop} {PB : Bool → List Cell → Prop}
  {N B C : PN} {R : ρ → List Cell → Prop} {st : Stmt} {sts s1 s2 : List Stmt} {pos : Pos}
/-! ### statements -/
theorem db_nil (q : N δ μ) : DB X [] δ μ N R B C := of_pss pss_nil fun M σ H E D n r b c => n δ μ M σ H q Ste.refl E
theorem DS.mono {N' B' C' : PN} {R' : ρ → List Cell → Prop} (h : DS X st δ μ N R B C) (n : ∀ δ μ, N δ μ → N' δ μ) (r : ∀ x μ, R x μ → R' x μ) (b : ∀ δ μ, B δ μ → B' δ μ) (c : ∀ δ μ, C δ μ → C' δ μ) : DS X st δ μ N' R' B' C' :=
  fun M σ H E D n' r' b' c' => h M σ H E D (fun δ' μ' M' σ' H' p => n' δ' μ' M' σ' H' (n _ _ p)) (fun x μ' M' v H' p => r' x μ' M' v H' (r _ _ p)) (fun δ' μ' M' σ' H' p => b' δ' μ' M' σ' H' (b _ _ p)) (fun δ' μ' M' σ' H' p => c' δ' μ' M' σ' H' (c _ _ p))
theorem DB.mono {N' B' C' : PN} {R' : ρ → List Cell → Prop} (h : DB X sts δ μ N R B C) (n : ∀ δ μ, N δ μ → N' δ μ) (r : ∀ x μ, R x μ → R' x μ) (b : ∀ δ μ, B δ μ → B' δ μ) (c : ∀ δ μ, C δ μ → C' δ μ) : DB X sts δ μ N' R' B' C' :=
  fun M σ H E D n' r' b' c' => h M σ H E D (fun δ' μ' M' σ' H' p => n' δ' μ' M' σ' H' (n _ _ p)) (fun x μ' M' v H' p => r' x μ' M' v H' (r _ _ p)) (fun δ' μ' M' σ' H' p => b' δ' μ' M' σ' H' (b _ _ p)) (fun δ' μ' M' σ' H' p => c' δ' μ' M' σ' H' (c _ _ p))
theorem db_cons (h : DS X st δ μ (fun δ' μ' => DB X sts δ' μ' N R B C) R B C) : DB X (st :: sts) δ μ N R B C :=
  of_pss (pss_cons (cS_ps st) (cSs_pss sts)) fun M σ H E D n r b c => h M σ H E { D with nx := cSs X sts D }
    (fun δ' μ' M' σ' H' p s E' => p M' σ' H' E' D (fun _ _ _ _ _ p2 s2 E2 => n _ _ _ _ _ p2 (s.trans s2) E2) (fun _ _ _ _ _ p2 s2 h2 r2 => r _ _ _ _ _ p2 (s.trans s2) h2 r2)
      (fun _ _ _ _ _ p2 s2 E2 => b _ _ _ _ _ p2 (s.trans s2) E2) (fun _ _ _ _ _ p2 s2 E2 => c _ _ _ _ _ p2 (s.trans s2) E2)) r b c
theorem db_one (h : DS X st δ μ N R B C) : DB X [st] δ μ N R B C := of_pss (pss_one (cS_ps st)) h
theorem ds_pass (q : N δ μ) : DS X (.Pass pos) δ μ N R B C := of_ps ps_pass fun M σ H E D n r b c => n δ μ M σ H q Ste.refl E
theorem ds_break (q : B δ μ) : DS X (.Break pos) δ μ N R B C := of_ps ps_break fun M σ H E D n r b c => b δ μ M σ H q Ste.refl E
theorem ds_continue (q : C δ μ) : DS X (.Continue pos) δ μ N R B C := of_ps ps_continue fun M σ H E D n r b c => c δ μ M σ H q Ste.refl E
theorem ds_expr (h : DE X e δ μ fun (x : α) μ' => N δ μ') (hs : swapsWith e none pos.line X.env = pure false := by rfl) : DS X (.Expr e pos) δ μ N R B C :=
  of_ps (ps_expr (cE_pe e) hs) fun M σ H E D n r b c => h M σ H E _ fun x μ' M' v H' p s hh rr => n δ μ' M' σ H' p s (E.step s hh)
theorem ds_ret {R : α → List Cell → Prop} (h : DE X e δ μ R) : DS X (.Return (some e) pos) δ μ N R B C :=
  of_ps (ps_ret (cE_pe e)) fun M σ H E D n r b c => h M σ H E _ fun x μ' M' v H' p s hh rr => r x μ' M' v H' p s hh rr
theorem ds_retN {R : Unit → List Cell → Prop} (q : R () μ) : DS X (.Return none pos) δ μ N R B C :=
  of_ps ps_retN fun M σ H E D n r b c => r () μ M .non H q Ste.refl E.h rfl
theorem ds_if {c : Expr} (h : DT X c δ μ fun x μ1 => (x = true → DB X s1 δ μ1 N R B C) ∧ (x = false → DB X s2 δ μ1 N R B C)) : DS X (.If c s1 s2 pos) δ μ N R B C :=
  of_ps (ps_if (cV_pt c) (cSs_pss s1) (cSs_pss s2)) fun M σ H E D n r b c => h M σ H E _ fun x μ1 M1 H1 p s hh => by
    have go : ∀ {sts : List Stmt}, DB X sts δ μ1 N R B C → cSs X sts D σ H1 := fun p => p M1 σ H1 (E.step s hh) D (fun _ _ _ _ _ p2 s2 E2 => n _ _ _ _ _ p2 (s.trans s2) E2) (fun _ _ _ _ _ p2 s2 h2 r2 => r _ _ _ _ _ p2 (s.trans s2) h2 r2)
      (fun _ _ _ _ _ p2 s2 E2 => b _ _ _ _ _ p2 (s.trans s2) E2) (fun _ _ _ _ _ p2 s2 E2 => c _ _ _ _ _ p2 (s.trans s2) E2)
    cases x with
    | true => exact iteT (go (p.1 rfl))
    | false => exact iteF (go (p.2 rfl))
theorem ds_set {A : Enc α} {i : Nat} {x : Str} {pos' : Pos} (hN : X.N.Nodup) (h : @DE X α A e δ μ fun v μ' => N (δ.set i (.val A v)) μ') (hi : X.N[i]? = some x := by rfl) (hx : Loc X.env.scope x := by first | exact Or.inl rfl | exact Or.inr rfl) (hs : swapsWith e (some (.Name x pos')) pos.line X.env = pure false := by rfl)
    (hf : X.fn x = true ∨ X.env.scope.names.lookup x = some .local := by first | exact .inl rfl | exact .inr rfl) : DS X (.Assign [.Name x pos'] e pos) δ μ N R B C :=
  of_ps (ps_set hN hi hx (cE_pe e) hs hf) fun M σ H E D n r b c => h M σ H E _ fun x μ' M' v H' p s hh rr => n _ μ' M' _ H' p s ((E.step s hh).put rr)
theorem ds_par {A : Enc α} {B' : Enc β} {i j : Nat} {x y : Str} {px py pt : Pos} {kt k2 pt2} (hc : X.calm = true) (hN : X.N.Nodup) (hij : i ≠ j)
    (h : @DE X α A a δ μ fun v μ1 => @DE X β B' b δ μ1 fun w μ2 => N ((δ.set i (.val A v)).set j (.val B' w)) μ2)
    (hw : swappedStores [.Tuple [.Name x px, .Name y py] kt pt] (.Tuple [a, b] k2 pt2) X.env = pure (some [x, y])) (hi : X.N[i]? = some x := by rfl) (hj : X.N[j]? = some y := by rfl)
    (hx : X.env.scope.names.lookup x = some .local := by rfl) (hy : X.env.scope.names.lookup y = some .local := by rfl)
    (hs : swapsWithSole [.Tuple [.Name x px, .Name y py] kt pt] (.Tuple [a, b] k2 pt2) pos.line X.env = pure false := by rfl)
    (h1 : starEach [a, b] X.env = (false, eval a X.env) :: starEach [b] X.env := by rfl) (h2 : starEach [b] X.env = (false, eval b X.env) :: starEach [] X.env := by rfl) :
    DS X (.Assign [.Tuple [.Name x px, .Name y py] kt pt] (.Tuple [a, b] k2 pt2) pos) δ μ N R B C :=
  of_ps (ps_par hc hN hi hj hij hx hy (pa_cons (cE_pe a) (pa_cons (cE_pe b) pa_nil h2) h1) hw hs) fun M σ H E D n r b' c => h M σ H E _ fun v μ1 M1 v1 H1 p1 s1 hh1 r1 =>
    p1 M1 σ H1 (E.step s1 hh1) _ fun w μ2 M2 w1 H2 p2 s2 hh2 r2 => ⟨v1, w1, rfl, n _ μ2 M2 _ H2 p2 (s1.trans s2)
      (((E.step (s1.trans s2) hh2).put (s := .val A v) (Dl.tr (A := A) s2 hh1 r1)).put (s := .val B' w) r2)⟩
/-! ### tuples, lists -/
theorem foot_alloc {K : PySem.W.Frag} {M : AS} {H : Hp} (h : Holds K M μ H) {p : Addr} (hp : H p = none) (o : HO) : Ste M μ H M μ (upd H p o) where
  keep := fun a u e _ => by rw [upd_ne (ne_of_none e hp)]; exact e
  al := fun a n => by
    by_cases e : a = p
    · subst e; exact absurd hp n
    · rw [upd_ne e]; exact n
  new := fun a z => .inl z
  foo := fun a z => .inl z
  up := fun a z _ _ => z
theorem Holds.alloc {K : PySem.W.Frag} {M : AS} {H : Hp} (h : Holds K M μ H) {p : Addr} (hp : H p = none) (o : HO) : Holds K M μ (upd H p o) where
  cell := fun c hc => c.mono (fun a u e _ => by rw [upd_ne (ne_of_none e hp)]; exact e) (h.cell c hc)
  inM := h.inM
  al := fun a z => (foot_alloc h hp o).al a (h.al a z)
  dj := h.dj
/-- a tuple of two -/
theorem de_tup2 {k : Nat} {P : α × β → List Cell → Prop} (h : DE X a δ μ fun (x : α) μ1 => DE X b δ μ1 fun (y : β) μ2 => P (x, y) μ2)
    (h1 : starEach [a, b] X.env = (false, eval a X.env) :: starEach [b] X.env := by rfl) (h2 : starEach [b] X.env = (false, eval b X.env) :: starEach [] X.env := by rfl) : DE X (.Tuple [a, b] k pos) δ μ P :=
  of_pe (pe_tup (pa_cons (cE_pe a) (pa_cons (cE_pe b) pa_nil h2) h1)) fun M σ H E Q q => h M σ H E _ fun x μ1 M1 v1 H1 p1 s1 hh1 r1 =>
    p1 M1 σ H1 (E.step s1 hh1) _ fun y μ2 M2 v2 H2 p2 s2 hh2 r2 => ⟨by show 2 ≤ sizeLine; decide, fun p hp => by
      have s3 := foot_alloc hh2 hp (.tup [v1, v2])
      refine q (x, y) μ2 M2 _ _ p2 ((s1.trans s2).trans s3) (hh2.alloc hp _) ⟨p, v1, v2, rfl, SqT.of upd_same, ?_, ?_⟩
      · exact tr (s2.trans s3) hh1 r1
      · exact tr s3 hh2 r2⟩
/-- a list or tuple display: its items -/
theorem de_tupN {k : Nat} {P : Tup α → List Cell → Prop} (h : DA X es δ μ fun ss μ1 => ∃ xs : List α, ss = xs.map (fun x => sl x) ∧ xs.length ≤ 1000 ∧ P ⟨xs⟩ μ1) : DE X (.Tuple es k pos) δ μ P :=
  of_pe (pe_tup (cA_pa es)) fun M σ H E Q q => h M σ H E _ fun ss μ1 M1 vs H1 p1 s1 hh1 r1 => by
    obtain ⟨xs, rfl, hl, p⟩ := p1
    have r := SlVs.ex r1
    refine ⟨by rw [r.length]; exact Nat.le_trans hl (by decide), fun p' hp => ?_⟩
    have s3 := foot_alloc hh1 hp (.tup vs)
    exact q ⟨xs⟩ μ1 M1 _ _ p (s1.trans s3) (hh1.alloc hp _) ⟨p', vs, rfl, SqT.of upd_same, paired_map (fun _ _ r => tr s3 hh1 r) r⟩
/-- a list display that stays as it is -/
theorem de_lstF {P : List α → List Cell → Prop} (h : DA X es δ μ fun ss μ1 => ∃ xs : List α, ss = xs.map (fun x => sl x) ∧ xs.length ≤ 1000 ∧ P xs μ1) : DE X (.List es pos) δ μ P :=
  of_pe (pe_lst (cA_pa es)) fun M σ H E Q q => h M σ H E _ fun ss μ1 M1 vs H1 p1 s1 hh1 r1 => by
    obtain ⟨xs, rfl, hl, p⟩ := p1
    have r := SlVs.ex r1
    refine ⟨by rw [r.length]; exact Nat.le_trans hl (by decide), fun p' hp => ?_⟩
    have s3 := foot_alloc hh1 hp (.lst vs)
    exact q xs μ1 M1 _ _ p (s1.trans s3) (hh1.alloc hp _) ⟨p', vs, rfl, fun z => hh1.al _ z hp, .inl upd_same, paired_map (fun _ _ r => tr s3 hh1 r) r⟩
/-! ### items -/
theorem plainIx_int {i : Int} {j pos} : PlainIx (.Constant (.int i) j pos) := fun _ _ => rfl
theorem paired_get {α β : Type} {F : α → β → Prop} {y : β} : ∀ {xs : List α} {ys : List β} {j : Nat}, Paired F xs ys → ys[j]? = some y → ∃ x, xs[j]? = some x ∧ F x y := by
  intro xs ys j r
  induction r generalizing j with
  | nil => intro h; simp at h
  | cons r t ih =>
    intro h
    cases j with
    | zero => simp only [List.getElem?_cons_zero, Option.some.injEq] at h; subst h; exact ⟨_, by simp, r⟩
    | succ j => obtain ⟨x, e, f⟩ := ih (j := j) (by simpa using h); exact ⟨x, by simpa using e, f⟩
theorem paired_atI {α β : Type} {F : α → β → Prop} {xs : List α} {ys : List β} (r : Paired F xs ys) {i : Int} {y : β} (h : atI ys i = some y) : ∃ x, atI xs i = some x ∧ F x y := by
  unfold atI at h ⊢
  rw [r.length]
  cases q : ixN ys.length i with
  | none => rw [q] at h; cases h
  | some k =>
    rw [q] at h
    obtain ⟨x, e, f⟩ := paired_get (j := k) r h
    exact ⟨x, e, f⟩
theorem de_ix0 {j : _} {pos' : Pos} {P : α → List Cell → Prop} (h : DE X a δ μ fun (x : α × β) μ1 => P x.1 μ1) : DE X (.Subscript a (.Constant (.int 0) j pos') pos) δ μ P :=
  of_pe (pe_ix ix_tup (cE_pe a) pe_int plainIx_int) fun M σ H E Q q => h M σ H E _ fun x μ1 M1 v1 H1 p1 s1 hh1 r1 => by
    obtain ⟨p, v1', v2, rfl, hs, r1, r2⟩ := r1
    exact ⟨p, _, 0, v1', rfl, rfl, hs, rfl, q x.1 μ1 M1 _ H1 p1 s1 hh1 r1⟩
theorem de_ix1 {j : _} {pos' : Pos} {P : β → List Cell → Prop} (h : DE X a δ μ fun (x : α × β) μ1 => P x.2 μ1) : DE X (.Subscript a (.Constant (.int 1) j pos') pos) δ μ P :=
  of_pe (pe_ix ix_tup (cE_pe a) pe_int plainIx_int) fun M σ H E Q q => h M σ H E _ fun x μ1 M1 v1 H1 p1 s1 hh1 r1 => by
    obtain ⟨p, v1', v2, rfl, hs, r1, r2⟩ := r1
    exact ⟨p, _, 1, v2, rfl, rfl, hs, rfl, q x.2 μ1 M1 _ H1 p1 s1 hh1 r2⟩
theorem de_ixL {P : α → List Cell → Prop} (h : DE X a δ μ fun (xs : List α) μ1 => DE X b δ μ1 fun (i : Int) μ2 => ∃ y, atI xs i = some y ∧ P y μ2) (hs : PlainIx b := by exact fun _ _ => rfl) : DE X (.Subscript a b pos) δ μ P :=
  of_pe (pe_ix ix_list (cE_pe a) (cE_pe b) hs) fun M σ H E Q q => h M σ H E _ fun xs μ1 M1 v1 H1 p1 s1 hh1 r1 => p1 M1 σ H1 (E.step s1 hh1) _ fun i μ2 M2 w H2 p2 s2 hh2 r2 => by
    obtain ⟨y, hy, p⟩ := p2
    obtain ⟨ad, vs, rfl, nm, rd, r⟩ := tr s2 hh1 r1
    cases r2
    obtain ⟨v, hv, rv⟩ := paired_atI r hy
    exact ⟨ad, vs, i, v, rfl, rfl, .inl rd, hv, q y μ2 M2 v H2 p (s1.trans s2) hh2 rv⟩
theorem de_ixT {P : α → List Cell → Prop} (h : DE X a δ μ fun (xs : Tup α) μ1 => DE X b δ μ1 fun (i : Int) μ2 => ∃ y, atI xs.l i = some y ∧ P y μ2) (hs : PlainIx b := by exact fun _ _ => rfl) : DE X (.Subscript a b pos) δ μ P :=
  of_pe (pe_ix ix_tup (cE_pe a) (cE_pe b) hs) fun M σ H E Q q => h M σ H E _ fun xs μ1 M1 v1 H1 p1 s1 hh1 r1 => p1 M1 σ H1 (E.step s1 hh1) _ fun i μ2 M2 w H2 p2 s2 hh2 r2 => by
    obtain ⟨y, hy, p⟩ := p2
    obtain ⟨ad, vs, rfl, rd, r⟩ := tr s2 hh1 r1
    cases r2
    obtain ⟨v, hv, rv⟩ := paired_atI r hy
    exact ⟨ad, vs, i, v, rfl, rfl, rd, hv, q y μ2 M2 v H2 p (s1.trans s2) hh2 rv⟩
end
end Dl
namespace Dl
open PySem PySem.Spec PyProof.Rows L2
section
variable {X : Cx} {α β γ ρ : Type} [Enc α] [Enc β] [Enc γ] [Enc ρ] {e a b tg : Expr} {es : List Expr} {δ : List Slot} {μ : List Cell} {P : α → List Cell → Prop} {PB : Bool → List Cell → Prop}
  {N B C : PN} {R : ρ → List Cell → Prop} {st : Stmt} {sts s1 s2 body : List Stmt} {pos p : Pos}
/-! ### loops -/
/-- a target of a for -/
structure WG (K : PySem.W.Frag) (g : TG) (s : Slot) (δ : List Slot) (δ' : List Slot) : Prop where
  run : ∀ (M : AS) (μ : List Cell) (σ : L2.St) (H : Hp) (v : V), EnvOk K M μ δ σ H → SlotV K M H v s → ∀ Q : L2.St → Hp → Prop, (∀ σ', EnvOk K M μ δ' σ' H → Q σ' H) → g v σ H Q
theorem wg_name {K : PySem.W.Frag} {i : Nat} {s : Slot} : WG K (gName i) s δ (δ.set i s) := ⟨fun M μ σ H v E r Q k => k _ (E.put r)⟩
theorem wg_pair {K : PySem.W.Frag} {i j : Nat} {A : Enc α} {B : Enc β} {x : α × β} : WG K (gTup K 2 (gCons (gName i) (gCons (gName j) gNil))) (.val (@instEncProd α β A B) x) δ ((δ.set i (.val A x.1)).set j (.val B x.2)) :=
  ⟨fun M μ σ H v E r Q k => by
    obtain ⟨a, v1, v2, rfl, hs, r1, r2⟩ := r
    exact ⟨a, [v1, v2], rfl, hs, rfl, v1, [v2], rfl, v2, [], rfl, rfl, k _ ((E.put (s := .val A x.1) r1).put (s := .val B x.2) r2)⟩⟩
/-- the body of a loop, for any end behind it -/
theorem run_body {D : Ends} {N' : L2.St → Hp → Prop} {M0 M : AS} {μ0 μ' : List Cell} {H0 H : Hp} {σ : L2.St} {δ' : List Slot} {I : PN} (h : DB X body δ' μ' I R N I) (s : Ste M0 μ0 H0 M μ' H) (E : EnvOk X.K M μ' δ' σ H)
    (n : ∀ δ' μ' M' σ' H', N δ' μ' → Ste M0 μ0 H0 M' μ' H' → EnvOk X.K M' μ' δ' σ' H' → D.nx σ' H') (r : ∀ x μ' M' v H', R x μ' → Ste M0 μ0 H0 M' μ' H' → Holds X.K M' μ' H' → Enc.R X.K M' H' v x → D.rt v H')
    (nn : ∀ δ' μ' M' σ' H', I δ' μ' → Ste M0 μ0 H0 M' μ' H' → EnvOk X.K M' μ' δ' σ' H' → N' σ' H') : cSs X body { D with nx := N', ct := N', bk := D.nx } σ H :=
  h M σ H E { D with nx := N', ct := N', bk := D.nx } (fun _ _ _ _ _ p2 s2 E2 => nn _ _ _ _ _ p2 (s.trans s2) E2) (fun _ _ _ _ _ p2 s2 h2 r2 => r _ _ _ _ _ p2 (s.trans s2) h2 r2)
    (fun _ _ _ _ _ p2 s2 E2 => n _ _ _ _ _ p2 (s.trans s2) E2) (fun _ _ _ _ _ p2 s2 E2 => nn _ _ _ _ _ p2 (s.trans s2) E2)
/-- for over a range: n turns from lo; Inv by the turn -/
theorem ws_range {g : TG} {lo : Int} {n : Nat} {D : Ends} {M0 M : AS} {μ0 μ1 : List Cell} {H0 H : Hp} {σ : L2.St} (Inv : Nat → PN) (h0 : Inv 0 δ μ1) (dg : Nat → List Slot → List Slot) (hg : ∀ (i : Nat) δ', WG X.K g (sl (lo + (i : Int))) δ' (dg i δ'))
    (hs : ∀ i δ' μ', i < n → Inv i δ' μ' → DB X body (dg i δ') μ' (Inv (i + 1)) R N (Inv (i + 1))) (hd : ∀ δ' μ', Inv n δ' μ' → N δ' μ')
    (s : Ste M0 μ0 H0 M μ1 H) (E : EnvOk X.K M μ1 δ σ H)
    (nk : ∀ δ' μ' M' σ' H', N δ' μ' → Ste M0 μ0 H0 M' μ' H' → EnvOk X.K M' μ' δ' σ' H' → D.nx σ' H') (rk : ∀ x μ' M' v H', R x μ' → Ste M0 μ0 H0 M' μ' H' → Holds X.K M' μ' H' → Enc.R X.K M' H' v x → D.rt v H') :
    ∃ W : Nat → Nat → L2.St → Hp → Prop, (∃ m, W 0 m σ H) ∧ ∀ i m σ H, W i m σ H →
      ((Itr lo n).stop i H ∧ D.nx σ H) ∨ ((Itr lo n).go i H ∧ ∃ N : L2.St → Hp → Prop, (∀ σ' H', N σ' H' → ∃ m', m' < m ∧ W (i + 1) m' σ' H') ∧ ∀ x H', (Itr lo n).yld i H x H' → g x σ H' fun σ2 H2 => cSs X body { D with nx := N, ct := N, bk := D.nx } σ2 H2) := by
  refine for_range (fun i σ H => ∃ M μ' δ', Inv i δ' μ' ∧ Ste M0 μ0 H0 M μ' H ∧ EnvOk X.K M μ' δ' σ H) ⟨M, μ1, δ, h0, s, E⟩ ?_ ?_
  · rintro i σ H hi ⟨M, μ', δ', hI, s, E⟩
    refine (hg i δ').run M μ' σ H _ E rfl _ fun σ' E' => ?_
    exact run_body (hs i δ' μ' hi hI) s E' nk rk fun _ μ2 M2 _ _ p s2 E2 => ⟨M2, μ2, _, p, s2, E2⟩
  · rintro σ H ⟨M, μ', δ', hI, s, E⟩
    exact nk _ _ _ _ _ (hd _ _ hI) s E
theorem ds_range1 {i : Nat} {x : Str} {px pos' : Pos} (hp : PassesOwn (model X.prog X.w) X.A X.env X.xe) (hc : X.calm = true) (hN : X.N.Nodup) (hm : X.mg "range" = none)
    (h : DE X a δ μ fun (n : Int) μ1 => n < 2 ^ 62 ∧ -(2 ^ 62) ≤ n ∧ ∃ Inv : Nat → PN, Inv 0 δ μ1 ∧ (∀ (k : Nat) δ' μ', (k : Int) < n → Inv k δ' μ' → DB X body (δ'.set i (sl (k : Int))) μ' (Inv (k + 1)) R N (Inv (k + 1))) ∧ (∀ δ' μ', Inv n.toNat δ' μ' → N δ' μ'))
    (hi : X.N[i]? = some x := by rfl) (hx : Loc X.env.scope x := by first | exact Or.inl rfl | exact Or.inr rfl) (hf : X.fn x = true ∨ X.env.scope.names.lookup x = some .local := by first | exact .inl rfl | exact .inr rfl)
    (hg : Gl X "range" := by rfl) (hs : starEach [a] X.env = [(false, eval a X.env)] := by rfl) (hs2 : starEach [a] X.env = (false, eval a X.env) :: starEach [] X.env := by rfl)
    (hs3 : ∀ x, foldedSetIterable (.Call (.Name "range" p) [a] [] pos') X.env x = pure x := by intro _; rfl) :
    DS X (.For (.Name x px) (.Call (.Name "range" p) [a] [] pos') body [] pos) δ μ N R B C :=
  of_ps (ps_for hp hc (pi_range1 hg hm (pa_cons (cE_pe a) pa_nil hs2) hs) (pg_name (i := i) hN hi hx hf) (cSs_pss body) hs3) fun M σ H E D nk rk bk ck => h M σ H E _ fun n μ1 M1 v H1 p1 s1 h1 r1 => by
    obtain ⟨n1, n2, Inv, i0, ih, ie⟩ := p1
    cases r1
    refine ⟨n, rfl, n2, n1, ?_⟩
    refine ws_range (M0 := M) (μ0 := μ) (H0 := H) Inv i0 (fun (k : Nat) δ' => δ'.set i (sl (k : Int))) (fun k δ' => ?_) (fun k δ' μ' hk hI => ih k δ' μ' (by omega) hI) ie s1 (E.step s1 h1) nk rk
    rw [show (0 : Int) + (k : Int) = (k : Int) by omega]
    exact wg_name
theorem ds_range2 {i : Nat} {x : Str} {px pos' : Pos} (hp : PassesOwn (model X.prog X.w) X.A X.env X.xe) (hc : X.calm = true) (hN : X.N.Nodup) (hm : X.mg "range" = none)
    (h : DE X a δ μ fun (lo : Int) μ0 => DE X b δ μ0 fun (n : Int) μ1 => (n < 2 ^ 62 ∧ -(2 ^ 62) ≤ n ∧ lo < 2 ^ 62 ∧ -(2 ^ 62) ≤ lo) ∧ ∃ Inv : Nat → PN, Inv 0 δ μ1 ∧ (∀ (k : Nat) δ' μ', lo + (k : Int) < n → Inv k δ' μ' → DB X body (δ'.set i (sl (lo + (k : Int)))) μ' (Inv (k + 1)) R N (Inv (k + 1))) ∧ (∀ δ' μ', Inv (n - lo).toNat δ' μ' → N δ' μ'))
    (hi : X.N[i]? = some x := by rfl) (hx : Loc X.env.scope x := by first | exact Or.inl rfl | exact Or.inr rfl) (hf : X.fn x = true ∨ X.env.scope.names.lookup x = some .local := by first | exact .inl rfl | exact .inr rfl)
    (hg : Gl X "range" := by rfl) (hs : starEach [a, b] X.env = [(false, eval a X.env), (false, eval b X.env)] := by rfl) (hs2 : starEach [a, b] X.env = (false, eval a X.env) :: starEach [b] X.env := by rfl)
    (hs4 : starEach [b] X.env = [(false, eval b X.env)] := by rfl) (hs5 : starEach [b] X.env = (false, eval b X.env) :: starEach [] X.env := by rfl)
    (hs3 : ∀ x, foldedSetIterable (.Call (.Name "range" p) [a, b] [] pos') X.env x = pure x := by intro _; rfl) :
    DS X (.For (.Name x px) (.Call (.Name "range" p) [a, b] [] pos') body [] pos) δ μ N R B C :=
  of_ps (ps_for hp hc (pi_range2 hg hm (pa_cons (cE_pe a) (pa_cons (cE_pe b) pa_nil hs5) hs2) hs hs4) (pg_name (i := i) hN hi hx hf) (cSs_pss body) hs3) fun M σ H E D nk rk bk ck => h M σ H E _ fun lo μ0 M0 v0 H0 p0 s0 h0 r0 => p0 M0 σ H0 (E.step s0 h0) _ fun n μ1 M1 v H1 p1 s1 h1 r1 => by
    obtain ⟨⟨n1, n2, n3, n4⟩, Inv, i0, ih, ie⟩ := p1
    cases r1; cases r0
    refine ⟨lo, n, rfl, ⟨n4, n3, n2, n1⟩, ?_⟩
    exact ws_range (M0 := M) (μ0 := μ) (H0 := H) Inv i0 (fun (k : Nat) δ' => δ'.set i (sl (lo + (k : Int)))) (fun k δ' => wg_name) (fun k δ' μ' hk hI => ih k δ' μ' (by omega) hI) ie (s0.trans s1) (E.step (s0.trans s1) h1) nk rk
/-- for over a list that stays -/
theorem ds_forL {A : Enc α} {g : TG} (hp : PassesOwn (model X.prog X.w) X.A X.env X.xe) (hc : X.calm = true) (hgt : PG X tg g) (dg : α → List Slot → List Slot) (hg : ∀ x δ', WG X.K g (.val A x) δ' (dg x δ'))
    (h : DE X e δ μ fun (xs : List α) μ1 => ∃ Inv : Nat → PN, Inv 0 δ μ1 ∧ (∀ k x δ' μ', xs[k]? = some x → Inv k δ' μ' → DB X body (dg x δ') μ' (Inv (k + 1)) R N (Inv (k + 1))) ∧ (∀ δ' μ', Inv xs.length δ' μ' → N δ' μ'))
    (hs3 : ∀ x, foldedSetIterable e X.env x = pure x := by intro _; rfl) :
    DS X (.For tg e body [] pos) δ μ N R B C :=
  of_ps (ps_for hp hc (pi_list (cE_pe e)) hgt (cSs_pss body) hs3) fun M σ H E D nk rk bk ck => h M σ H E _ fun xs μ1 M1 v H1 p1 s1 h1 r1 => by
    obtain ⟨Inv, i0, ih, ie⟩ := p1
    have r0 := r1
    obtain ⟨ad, vs, rfl, nm, rd, r⟩ := r1
    refine ⟨ad, rfl, ⟨vs, .inl rd⟩, ?_⟩
    refine for_list (xs := vs) (fun i σ' H' => ∃ M' μ' δ', Inv i δ' μ' ∧ Ste M1 μ1 H1 M' μ' H' ∧ EnvOk X.K M' μ' δ' σ' H') ⟨M1, μ1, δ, i0, Ste.refl, E.step s1 h1⟩ ?_ ?_ ?_
    · rintro i σ' H' hi ⟨M', μ', δ', hI, s, E'⟩
      rcases rd with rd | ⟨o, rd⟩
      · exact .inl (.inl (s.keep _ _ rd (.inl fun z => nm (h1.inM _ z))))
      · exact .inl (.inr ⟨o, s.keep _ _ rd (.inr trivial)⟩)
    · rintro i y σ' H' hi ⟨M', μ', δ', hI, s, E'⟩
      have hl := r.length
      have hi' : i < xs.length := by rw [← hl]; exact (List.getElem?_eq_some_iff.mp hi).1
      obtain ⟨y', e1, ry⟩ := paired_get r (List.getElem?_eq_getElem hi')
      rw [hi] at e1; cases e1
      refine (hg xs[i] δ').run M' μ' σ' H' y E' (Dl.tr (A := A) s h1 ry) _ fun σ2 E2 => ?_
      exact run_body (M0 := M1) (μ0 := μ1) (H0 := H1) (ih i _ δ' μ' (List.getElem?_eq_getElem hi') hI) s E2 (fun δ' μ' M' σ' H' p s E => nk δ' μ' M' σ' H' p (s1.trans s) E) (fun x μ' M' v H' p s h r => rk x μ' M' v H' p (s1.trans s) h r) fun _ μ2 M2 _ _ p s2 E2 => ⟨M2, μ2, _, p, s2, E2⟩
    · rintro σ' H' ⟨M', μ', δ', hI, s, E'⟩
      rw [r.length] at hI
      exact nk _ _ _ _ _ (ie _ _ hI) (s1.trans s) E'
theorem ds_forT {A : Enc α} {g : TG} (hp : PassesOwn (model X.prog X.w) X.A X.env X.xe) (hc : X.calm = true) (hgt : PG X tg g) (dg : α → List Slot → List Slot) (hg : ∀ x δ', WG X.K g (.val A x) δ' (dg x δ'))
    (h : DE X e δ μ fun (xs : Tup α) μ1 => ∃ Inv : Nat → PN, Inv 0 δ μ1 ∧ (∀ k x δ' μ', xs.l[k]? = some x → Inv k δ' μ' → DB X body (dg x δ') μ' (Inv (k + 1)) R N (Inv (k + 1))) ∧ (∀ δ' μ', Inv xs.l.length δ' μ' → N δ' μ'))
    (hs3 : ∀ x, foldedSetIterable e X.env x = pure x := by intro _; rfl) :
    DS X (.For tg e body [] pos) δ μ N R B C :=
  of_ps (ps_for hp hc (pi_tup (cE_pe e)) hgt (cSs_pss body) hs3) fun M σ H E D nk rk bk ck => h M σ H E _ fun xs μ1 M1 v H1 p1 s1 h1 r1 => by
    obtain ⟨Inv, i0, ih, ie⟩ := p1
    obtain ⟨ad, vs, rfl, rd, r⟩ := r1
    refine ⟨ad, rfl, ⟨vs, rd⟩, ?_⟩
    refine for_tup (xs := vs) (fun i σ' H' => ∃ M' μ' δ', Inv i δ' μ' ∧ Ste M1 μ1 H1 M' μ' H' ∧ EnvOk X.K M' μ' δ' σ' H') ⟨M1, μ1, δ, i0, Ste.refl, E.step s1 h1⟩ ?_ ?_ ?_
    · rintro i σ' H' hi ⟨M', μ', δ', hI, s, E'⟩
      exact sqT_keep s.keep rd
    · rintro i y σ' H' hi ⟨M', μ', δ', hI, s, E'⟩
      have hl := r.length
      have hi' : i < xs.l.length := by rw [← hl]; exact (List.getElem?_eq_some_iff.mp hi).1
      obtain ⟨y', e1, ry⟩ := paired_get r (List.getElem?_eq_getElem hi')
      rw [hi] at e1; cases e1
      refine (hg xs.l[i] δ').run M' μ' σ' H' y E' (Dl.tr (A := A) s h1 ry) _ fun σ2 E2 => ?_
      exact run_body (M0 := M1) (μ0 := μ1) (H0 := H1) (ih i _ δ' μ' (List.getElem?_eq_getElem hi') hI) s E2 (fun δ' μ' M' σ' H' p s E => nk δ' μ' M' σ' H' p (s1.trans s) E) (fun x μ' M' v H' p s h r => rk x μ' M' v H' p (s1.trans s) h r) fun _ μ2 M2 _ _ p s2 E2 => ⟨M2, μ2, _, p, s2, E2⟩
    · rintro σ' H' ⟨M', μ', δ', hI, s, E'⟩
      rw [r.length] at hI
      exact nk _ _ _ _ _ (ie _ _ hI) (s1.trans s) E'
/-- while, by an invariant over a measure -/
theorem ds_while {c : Expr} (hp : PassesOwn (model X.prog X.w) X.A X.env X.xe) (Inv : Nat → PN) (n : Nat) (h0 : Inv n δ μ)
    (hs : ∀ k δ' μ', Inv k δ' μ' → DT X c δ' μ' fun x μ1 => (x = true → ∃ J : PN, (∀ δ' μ', J δ' μ' → ∃ j, j < k ∧ Inv j δ' μ') ∧ DB X body δ' μ1 J R N J) ∧ (x = false → N δ' μ1)) : DS X (.While c body [] pos) δ μ N R B C :=
  of_ps (ps_while hp (cV_pt c) (cSs_pss body)) fun M σ H E D nk rk bk ck => by
    refine ⟨fun m σ' H' => ∃ M' μ' δ', Inv m δ' μ' ∧ Ste M μ H M' μ' H' ∧ EnvOk X.K M' μ' δ' σ' H', ⟨n, M, μ, δ, h0, Ste.refl, E⟩, ?_⟩
    rintro m σ' H' ⟨M', μ', δ', hI, s, E'⟩
    refine hs m δ' μ' hI M' σ' H' E' _ fun x μ1 M1 H1 p1 s1 h1 => ?_
    cases x with
    | true =>
      obtain ⟨J, hJ, hb⟩ := p1.1 rfl
      refine iteT ⟨fun σ' H' => ∃ M' μ' δ', J δ' μ' ∧ Ste M μ H M' μ' H' ∧ EnvOk X.K M' μ' δ' σ' H', ?_, ?_⟩
      · rintro σ2 H2 ⟨M2, μ2, δ2, j, s2, E2⟩
        obtain ⟨k, hk, hI2⟩ := hJ _ _ j
        exact ⟨k, hk, M2, μ2, δ2, hI2, s2, E2⟩
      · exact run_body (M0 := M) (μ0 := μ) (H0 := H) hb (s.trans s1) (E'.step s1 h1) nk rk fun δ2 μ2 M2 _ _ p s2 E2 => ⟨M2, μ2, δ2, p, s2, E2⟩
    | false => exact iteF (nk _ _ _ _ _ (p1.2 rfl) (s.trans s1) (E'.step s1 h1))
end
/-! ### defs -/
/-- a promise: of the arguments, the cells -/
abbrev Pm (ρ : Type) := List Slot → List Cell → (ρ → List Cell → Prop) → Prop
def spO {ρ : Type} [Enc ρ] (K : PySem.W.Frag) (Φ : Pm ρ) : Sp := fun vs H Q _ => ∃ (M : AS) (μ : List Cell) (as : List Slot) (P : ρ → List Cell → Prop), Holds K M μ H ∧ SlVs K M H vs as ∧ Φ as μ P ∧
  ∀ x μ' M' v H', P x μ' → Ste M μ H M' μ' H' → Holds K M' μ' H' → Enc.R K M' H' v x → Q v H'
section
variable {P : Program} {w : World} {K : PySem.W.Frag} {mg : Str → Option Value} {base : Heap} {ρ : Type} [Enc ρ]
abbrev cx (P : Program) (w : World) (K : PySem.W.Frag) (mg : Str → Option Value) (base : Heap) (N : List Str) (qual : Str) (st : Stmt) (f : Addr) (cdv : Value) (A : Around) (outer : List Env) (s : Shared) (H : Hp) (E : XK) : Cx := (cxOf CX0 P w K mg base N qual (defScope st) f cdv A outer s H E).nox
theorem start_ok {M : AS} {μ : List Cell} {H : Hp} {N : List Str} {vs : List V} {as : List Slot} (h : Holds K M μ H) (r : SlVs K M H vs as) : EnvOk K M μ (as ++ List.replicate (N.length - as.length) .any) (L2.start N vs) H := by
  have hl := r.length
  refine ⟨h, by unfold L2.start; simp only [List.length_append, List.length_map, List.length_replicate]; omega, fun i s v e1 e2 => ?_⟩
  unfold L2.start at e2
  by_cases hi : i < vs.length
  · rw [List.getElem?_append_left (by simpa using hi), List.getElem?_map] at e2
    rw [List.getElem?_append_left (by rw [← hl]; exact hi)] at e1
    rw [List.getElem?_eq_getElem hi] at e2
    cases e2
    have := r.at (List.getElem?_eq_getElem hi) e1
    cases s with
    | any => trivial
    | val e x => exact ⟨_, rfl, this⟩
  · rw [List.getElem?_append_right (by rw [← hl]; omega)] at e1
    rw [List.getElem?_replicate] at e1
    split at e1
    · cases e1; trivial
    · cases e1
theorem fn_ok {x qual : Str} {st : Stmt} {f : Addr} {fd : FuncData} {N ps : List Str} {k : Nat} {Φ : Pm ρ} (F : Fun K x qual st f fd) (S : FnScope N ps (defScope st)) (len : ∀ as μ P, Φ as μ P → as.length = ps.length)
    (hN : N.length = N.length := rfl)
    (h : ∀ (cdv : Value) (A : Around) (outer : List Env) (s : Shared) (H : Hp) (E : XK), Room k (A.deeper (envOfC qual (defScope st) s.heap.objs.size f cdv)) → ∀ as μ Pd, Φ as μ Pd →
      DB (cx P w K mg base N qual st f cdv A outer s H E) (defBody st) (as ++ List.replicate (N.length - as.length) .any) μ (fun _ μ' => ∃ x : ρ, (∀ K M H, Enc.R K M H .non x) ∧ Pd x μ') Pd (fun _ _ => False) (fun _ _ => False)) :
    FnOk P w K mg base CX0 (k + 1) f fd ps (spO K Φ) := by
  refine F.ok S (fun vs H Q E h => ?_) (fun cdv A outer s H vs Q E hr hsp => ?_)
  · obtain ⟨M, μ, as, Pd, _, r, hp, _⟩ := h
    rw [r.length]; exact len _ _ _ hp
  · obtain ⟨M, μ, as, Pd, hh, r, hp, q⟩ := hsp
    refine ⟨_, cSs_pss _, h cdv A outer s H E hr as μ Pd hp M _ H (start_ok hh r) _ (fun δ' μ' M' σ' H' n s' E' => ?_) q (fun _ _ _ _ _ z => z.elim) (fun _ _ _ _ _ z => z.elim)⟩
    obtain ⟨x, hx, p⟩ := n
    exact q x μ' M' .non H' p s' E'.h (hx _ _ _)
end
section
variable {X : Cx} {ρ : Type} [Enc ρ] {e : Expr} {es : List Expr} {δ : List Slot} {μ : List Cell} {P : ρ → List Cell → Prop} {k : Nat} {f : Addr} {fd : FuncData} {ps : List Str} {Φ : Pm ρ} {x : Str} {p pos : Pos}
/-- the cells in two parts -/
structure Parts (μ μc μr : List Cell) : Prop where
  perm : μ.Perm (μc ++ μr)
theorem parts_none : Parts μ [] μ := ⟨List.Perm.refl _⟩
theorem parts_all : Parts μ μ [] := ⟨by rw [List.append_nil]⟩
theorem parts_hd {c : Cell} {r : List Cell} : Parts (c :: r) [c] r := ⟨List.Perm.refl _⟩
theorem foots_perm {μ ν : List Cell} (h : μ.Perm ν) (a : Addr) : foots μ a ↔ foots ν a := ⟨fun ⟨c, hc, ha⟩ => ⟨c, h.mem_iff.mp hc, ha⟩, fun ⟨c, hc, ha⟩ => ⟨c, h.mem_iff.mpr hc, ha⟩⟩
theorem foots_app {μ ν : List Cell} {a : Addr} : foots (μ ++ ν) a ↔ foots μ a ∨ foots ν a := by
  constructor
  · rintro ⟨c, hc, ha⟩
    rcases List.mem_append.mp hc with h | h
    · exact .inl ⟨c, h, ha⟩
    · exact .inr ⟨c, h, ha⟩
  · rintro (⟨c, hc, ha⟩ | ⟨c, hc, ha⟩)
    · exact ⟨c, List.mem_append_left _ hc, ha⟩
    · exact ⟨c, List.mem_append_right _ hc, ha⟩
theorem Holds.part {K : PySem.W.Frag} {M : AS} {H : Hp} {μc μr : List Cell} (h : Holds K M μ H) (s : Parts μ μc μr) : Holds K M μc H where
  cell := fun c hc => h.cell c (s.perm.mem_iff.mpr (List.mem_append_left _ hc))
  inM := fun a z => h.inM a ((foots_perm s.perm a).mpr (foots_app.mpr (.inl z)))
  al := h.al
  dj := by
    have : (μc ++ μr).Pairwise fun c d => ∀ a, a ∈ c.foot → a ∉ d.foot := h.dj.perm s.perm (fun {c d} q a h1 h2 => q a h2 h1)
    exact (List.pairwise_append.mp this).1
/-- a call that uses a part of the cells -/
theorem frame {K : PySem.W.Frag} {M M' : AS} {H H' : Hp} {μc μr μ' : List Cell} (h : Holds K M μ H) (sp : Parts μ μc μr) (s : Ste M μc H M' μ' H') (h' : Holds K M' μ' H') : Ste M μ H M' (μ' ++ μr) H' ∧ Holds K M' (μ' ++ μr) H' := by
  have dj : (μc ++ μr).Pairwise fun c d => ∀ a, a ∈ c.foot → a ∉ d.foot := h.dj.perm sp.perm (fun {c d} q a h1 h2 => q a h2 h1)
  have dj2 := List.pairwise_append.mp dj
  have apart : ∀ a, foots μr a → ¬ foots μc a := fun a ⟨c, hc, ha⟩ ⟨d, hd, hb⟩ => dj2.2.2 d hd c hc a hb ha
  have inm : ∀ a, foots μr a → M a := fun a z => h.inM a ((foots_perm sp.perm a).mpr (foots_app.mpr (.inr z)))
  have inc : ∀ a, foots μc a → foots μ a := fun a z => (foots_perm sp.perm a).mpr (foots_app.mpr (.inl z))
  refine ⟨⟨fun a o e c => s.keep a o e (c.imp (fun n z => n (inc a z)) id), s.al, s.new, fun a z => ?_, fun a z n f => s.up a z n fun q => f (inc a q)⟩, ⟨fun c hc => ?_, fun a z => ?_, h'.al, ?_⟩⟩
  · rcases foots_app.mp z with z | z
    · exact (s.foo a z).imp (inc a) id
    · exact .inl ((foots_perm sp.perm a).mpr (foots_app.mpr (.inr z)))
  · rcases List.mem_append.mp hc with hc | hc
    · exact h'.cell c hc
    · have q := h.cell c (sp.perm.mem_iff.mpr (List.mem_append_right _ hc))
      have q1 : c.holds K (fun a => M a ∨ M' a) H := c.set (fun a z => z.elim .inl (s.new a)) q
      have q2 : c.holds K (fun a => M a ∨ M' a) H' := c.mono (fun a o e cc => s.keep a o e (by
        rcases cc with cc | cc | cc
        · exact .inl (apart a ⟨c, hc, cc⟩)
        · exact .inl fun z => cc (.inl (h.inM a (inc a z)))
        · exact .inr cc)) q1
      exact c.set (fun a z => .inl (.inr z)) q2
  · rcases foots_app.mp z with z | z
    · exact h'.inM a z
    · exact s.up a (inm a z) (h.al a (inm a z)) (apart a z)
  · refine List.pairwise_append.mpr ⟨h'.dj, dj2.2.1, fun c hc d hd a ha hb => ?_⟩
    rcases s.foo a ⟨c, hc, ha⟩ with z | z
    · exact apart a ⟨d, hd, hb⟩ z
    · exact h.al a (inm a ⟨d, hd, hb⟩) z
theorem de_call (F : FnOk X.prog X.w X.K X.mg X.base CX0 k f fd ps (spO X.K Φ)) (hr : Room k X.A) (hm : X.mg x = some (.ref f)) (hk : PySem.W.keepIn X.K (.ref f) = true) (hb : Binds X.K fd ps [])
    (h : DA X (e :: es) δ μ fun as μ1 => ∃ μc μr, Parts μ1 μc μr ∧ Φ as μc fun y μ' => P y (μ' ++ μr)) (hg : Gl X x := by rfl) (hdb : (x == ("__debug__" : Str)) = false := by decide)
    (he : starEach (e :: es) X.env = (false, eval e X.env) :: starEach es X.env := by rfl) (hpl : (backTo pos (starEach es X.env)).any (·.1) = false := by rfl) : DE X (.Call (.Name x p) (e :: es) [] pos) δ μ P :=
  of_pe (pe_call F hr hg hm hk hb .nil pass0 (cA_pa _) hdb he hpl) fun M σ H E Q q => h M σ H E _ fun as μ1 M1 vs H1 p1 s1 h1 r1 => by
    obtain ⟨μc, μr, sp, ph⟩ := p1
    refine ⟨M1, μc, as, _, h1.part sp, by rw [List.append_nil]; exact r1, ph, fun y μ' M' v H' py s2 h2 r2 => ?_⟩
    obtain ⟨s3, h3⟩ := frame h1 sp s2 h2
    exact q y _ M' v H' py (s1.trans s3) h3 r2
/-- with a default for the last argument -/
theorem de_callD (F : FnOk X.prog X.w X.K X.mg X.base CX0 k f fd ps (spO X.K Φ)) (hr : Room k X.A) (hm : X.mg x = some (.ref f)) (hk : PySem.W.keepIn X.K (.ref f) = true) {dvs : List V} {ds : List Value} (hb : Binds X.K fd ps ds) (hd : Vals dvs ds) (das : List Slot) (hda : ∀ M H, SlVs X.K M H dvs das)
    (h : DA X (e :: es) δ μ fun as μ1 => ∃ μc μr, Parts μ1 μc μr ∧ Φ (as ++ das) μc fun y μ' => P y (μ' ++ μr)) (hg : Gl X x := by rfl) (hdb : (x == ("__debug__" : Str)) = false := by decide)
    (he : starEach (e :: es) X.env = (false, eval e X.env) :: starEach es X.env := by rfl) (hpl : (backTo pos (starEach es X.env)).any (·.1) = false := by rfl) : DE X (.Call (.Name x p) (e :: es) [] pos) δ μ P :=
  of_pe (pe_call F hr hg hm hk hb hd pass0 (cA_pa _) hdb he hpl) fun M σ H E Q q => h M σ H E _ fun as μ1 M1 vs H1 p1 s1 h1 r1 => by
    obtain ⟨μc, μr, sp, ph⟩ := p1
    refine ⟨M1, μc, as ++ das, _, h1.part sp, ?_, ph, fun y μ' M' v H' py s2 h2 r2 => ?_⟩
    · have : ∀ {vs : List V} {as : List Slot}, SlVs X.K M1 H1 vs as → SlVs X.K M1 H1 (vs ++ dvs) (as ++ das) := by
        intro vs as r
        induction r with
        | nil => exact hda M1 H1
        | cons r t ih => exact .cons r ih
      exact this r1
    · obtain ⟨s3, h3⟩ := frame h1 sp s2 h2
      exact q y _ M' v H' py (s1.trans s3) h3 r2
/-! ### built-in functions -/
theorem we_cb {α : Type} [Enc α] {r : List V → Hp → VK → Prop} {tA : TA} {P1 : List Slot → List Cell → Prop} {P : α → List Cell → Prop} (ha : WA X.K tA δ μ P1)
    (hr : ∀ as μ1, P1 as μ1 → ∀ (M : AS) (H : Hp) (vs : List V), Holds X.K M μ1 H → SlVs X.K M H vs as → ∀ Q : VK, (∀ z μ' M' u H', P z μ' → Ste M μ1 H M' μ' H' → Holds X.K M' μ' H' → Enc.R X.K M' H' u z → Q u H') → r vs H Q) :
    WE X.K (tCB r tA) δ μ P := fun M σ H E Q k =>
  ha M σ H E _ fun as μ1 M1 vs H1 p1 s1 h1 r1 => hr as μ1 p1 M1 H1 vs h1 r1 Q fun z μ' M' u H' p s3 h3 r3 => k z μ' M' u H' p (s1.trans s3) h3 r3
/-- a built-in function of pure values -/
theorem de_cb {α : Type} [Enc α] {id : String} {r : List V → Hp → VK → Prop} {P : α → List Cell → Prop} (hc : CallR X (.builtin id) r) (hm : X.mg x = none) (hv : bootBuiltins x = some (.builtin id))
    (h : DA X (e :: es) δ μ fun as μ1 => ∃ z : α, P z μ1 ∧ ∀ (M : AS) (H : Hp) (vs : List V), SlVs X.K M H vs as → ∀ Q : VK, (∀ u, Enc.R X.K M H u z → Q u H) → r vs H Q) (hg : Gl X x := by rfl) (hn : x ≠ "__name__" := by decide) (hdb : (x == ("__debug__" : Str)) = false := by decide)
    (he : starEach (e :: es) X.env = (false, eval e X.env) :: starEach es X.env := by rfl) (hpl : (backTo pos (starEach es X.env)).any (·.1) = false := by rfl) : DE X (.Call (.Name x p) (e :: es) [] pos) δ μ P :=
  of_pe (pe_callB hc hg hm hv (cA_pa _) hn hdb he hpl) (we_cb h fun as μ1 p1 M H vs hh r1 Q k => by
    obtain ⟨z, p, hz⟩ := p1
    exact hz M H vs r1 Q fun u ru => k z μ1 M u H p Ste.refl hh ru)
theorem de_ct {α : Type} [Enc α] {T : String} {r : List V → Hp → VK → Prop} {P : α → List Cell → Prop} (hc : CallR X (.type T) r) (hm : X.mg x = none) (hv : bootBuiltins x = some (.type T))
    (h : DA X (e :: es) δ μ fun as μ1 => ∃ z : α, P z μ1 ∧ ∀ (M : AS) (H : Hp) (vs : List V), SlVs X.K M H vs as → ∀ Q : VK, (∀ u, Enc.R X.K M H u z → Q u H) → r vs H Q) (hg : Gl X x := by rfl) (hn : x ≠ "__name__" := by decide) (hdb : (x == ("__debug__" : Str)) = false := by decide)
    (he : starEach (e :: es) X.env = (false, eval e X.env) :: starEach es X.env := by rfl) (hpl : (backTo pos (starEach es X.env)).any (·.1) = false := by rfl) : DE X (.Call (.Name x p) (e :: es) [] pos) δ μ P :=
  of_pe (pe_callTy hc hg hm hv (cA_pa _) hn hdb he hpl) (we_cb h fun as μ1 p1 M H vs hh r1 Q k => by
    obtain ⟨z, p, hz⟩ := p1
    exact hz M H vs r1 Q fun u ru => k z μ1 M u H p Ste.refl hh ru)
theorem de_cbf {α : Type} [Enc α] {id : String} {r : List V → Hp → VK → Prop} {P : α → List Cell → Prop} (hc : CallR X (.builtin id) r) (hm : X.mg x = some (.builtin id))
    (h : DA X (e :: es) δ μ fun as μ1 => ∃ z : α, P z μ1 ∧ ∀ (M : AS) (H : Hp) (vs : List V), SlVs X.K M H vs as → ∀ Q : VK, (∀ u, Enc.R X.K M H u z → Q u H) → r vs H Q) (hg : Gl X x := by rfl) (hdb : (x == ("__debug__" : Str)) = false := by decide)
    (he : starEach (e :: es) X.env = (false, eval e X.env) :: starEach es X.env := by rfl) (hpl : (backTo pos (starEach es X.env)).any (·.1) = false := by rfl) : DE X (.Call (.Name x p) (e :: es) [] pos) δ μ P :=
  of_pe (pe_callBfun hc hg hm (cA_pa _) hdb he hpl) (we_cb h fun as μ1 p1 M H vs hh r1 Q k => by
    obtain ⟨z, p, hz⟩ := p1
    exact hz M H vs r1 Q fun u ru => k z μ1 M u H p Ste.refl hh ru)
end
section
variable {X : Cx} {a b : Expr} {δ : List Slot} {μ : List Cell} {P : Int → List Cell → Prop} {x : Str} {p pos : Pos}
theorem de_gcd (hm : X.mg x = some (.builtin "math.gcd")) (h : DE X a δ μ fun (i : Int) μ1 => DE X b δ μ1 fun (j : Int) μ2 => P ((Nat.gcd i.natAbs j.natAbs : Nat) : Int) μ2) (hg : Gl X x := by rfl) (hdb : (x == ("__debug__" : Str)) = false := by decide)
    (he : starEach [a, b] X.env = (false, eval a X.env) :: starEach [b] X.env := by rfl) (he2 : starEach [b] X.env = (false, eval b X.env) :: starEach [] X.env := by rfl) (hpl : (backTo pos (starEach [b] X.env)).any (·.1) = false := by rfl) : DE X (.Call (.Name x p) [a, b] [] pos) δ μ P :=
  de_cbf cr_gcd hm (da_cons (h.mono fun i μ1 h => da_cons (h.mono fun j μ2 q => da_nil ⟨_, q, fun M H vs r Q k => by
    cases r with
    | cons r1 r =>
      cases r with
      | cons r2 r =>
        cases r
        cases r1; cases r2
        exact ⟨i, j, rfl, k _ rfl⟩⟩) he2) he) hg hdb he hpl
theorem de_abs (hm : X.mg "abs" = none) (h : DE X a δ μ fun (i : Int) μ1 => P ((i.natAbs : Nat) : Int) μ1) (hg : Gl X "abs" := by rfl)
    (he : starEach [a] X.env = (false, eval a X.env) :: starEach [] X.env := by rfl) (hpl : (backTo pos (starEach [] X.env)).any (·.1) = false := by rfl) : DE X (.Call (.Name "abs" p) [a] [] pos) δ μ P :=
  de_cb call_abs hm (by decide +kernel) (da_cons (h.mono fun i μ1 q => da_nil ⟨_, q, fun M H vs r Q k => by
    cases r with
    | cons r1 r =>
      cases r
      cases r1
      refine ⟨i, rfl, k _ ?_⟩
      show V.int _ = V.int _
      congr 1
      split <;> omega⟩) he) hg (by decide) (by decide) he hpl
theorem de_intI (hm : X.mg "int" = none) (h : DE X a δ μ P) (hg : Gl X "int" := by rfl)
    (he : starEach [a] X.env = (false, eval a X.env) :: starEach [] X.env := by rfl) (hpl : (backTo pos (starEach [] X.env)).any (·.1) = false := by rfl) : DE X (.Call (.Name "int" p) [a] [] pos) δ μ P :=
  de_ct call_int1 hm (by decide +kernel) (da_cons (h.mono fun i μ1 q => da_nil ⟨_, q, fun M H vs r Q k => by
    cases r with
    | cons r1 r =>
      cases r
      cases r1
      exact .inl ⟨i, rfl, k _ rfl⟩⟩) he) hg (by decide) (by decide) he hpl
theorem de_intB (hm : X.mg "int" = none) (h : DE X a δ μ fun (i : Bool) μ1 => P (if i then 1 else 0) μ1) (hg : Gl X "int" := by rfl)
    (he : starEach [a] X.env = (false, eval a X.env) :: starEach [] X.env := by rfl) (hpl : (backTo pos (starEach [] X.env)).any (·.1) = false := by rfl) : DE X (.Call (.Name "int" p) [a] [] pos) δ μ P :=
  de_ct call_int1 hm (by decide +kernel) (da_cons (h.mono fun i μ1 q => da_nil ⟨_, q, fun M H vs r Q k => by
    cases r with
    | cons r1 r =>
      cases r
      cases r1
      exact .inr ⟨i, rfl, k _ rfl⟩⟩) he) hg (by decide) (by decide) he hpl
end
end Dl
namespace Dl
open PySem PySem.Spec PyProof.Rows L2
/-! ### lists that change -/
/-- the list at a, as it stands now -/
def LstC (a : Addr) {α : Type} (A : Enc α) (xs : List α) : Cell where
  foot := [a]
  holds := fun K M H => ∃ vs, H a = some (.lst vs) ∧ Paired (A.R K M H) vs xs
  mono := fun k h => by
    obtain ⟨vs, e, r⟩ := h
    exact ⟨vs, k _ _ e (.inl (by simp)), paired_map (fun _ _ => A.mono fun a o e c => k a o e (.inr c)) r⟩
  set := fun k h => by
    obtain ⟨vs, e, r⟩ := h
    exact ⟨vs, e, paired_map (fun _ _ => A.set k) r⟩
abbrev lst (a : Addr) {α : Type} [A : Enc α] (xs : List α) : Cell := LstC a A xs
section
variable {K : PySem.W.Frag} {M M' : AS} {μ μ' : List Cell} {H H' : Hp} {a : Addr} {α : Type} [A : Enc α] {xs : List α} {vs : List V}
theorem foots_one {c : Cell} {a : Addr} : foots [c] a ↔ a ∈ c.foot := ⟨fun ⟨d, hd, ha⟩ => by rw [List.mem_singleton.mp hd] at ha; exact ha, fun h => ⟨c, List.mem_singleton.mpr rfl, h⟩⟩
theorem foots_snoc {c : Cell} {a : Addr} : foots (μ ++ [c]) a ↔ foots μ a ∨ a ∈ c.foot := by rw [foots_app, foots_one]
/-- a new list is laid as a cell -/
theorem new_cell (h : Holds K M μ H) {p : Addr} (hp : H p = none) (r : Paired (A.R K M H) vs xs) :
    Ste M μ H (fun a => M a ∨ a = p) (μ ++ [lst p xs]) (upd H p (.lst vs)) ∧ Holds K (fun a => M a ∨ a = p) (μ ++ [lst p xs]) (upd H p (.lst vs)) := by
  have s := foot_alloc h hp (.lst vs)
  have hh := h.alloc hp (.lst vs)
  have nm : ¬ M p := fun z => h.al p z hp
  have e1 : ∀ b, (M b ∨ b = p) → M b ∨ H b = none := fun b z => z.imp id fun e => by rw [e]; exact hp
  have k : Keep M H (upd H p (.lst vs)) := fun b o e _ => by rw [upd_ne (ne_of_none e hp)]; exact e
  refine ⟨⟨s.keep, s.al, e1, fun b z => ?_, fun b z _ _ => .inl z⟩, ⟨fun c hc => ?_, fun b z => ?_, fun b z => ?_, ?_⟩⟩
  · rcases foots_snoc.mp z with z | z
    · exact .inl z
    · rw [List.mem_singleton.mp z]; exact .inr hp
  · rcases List.mem_append.mp hc with hc | hc
    · exact (c.mono (M := fun a => M a ∨ a = p) (fun b o e _ => by rw [upd_ne (ne_of_none e hp)]; exact e) (c.set e1 (h.cell c hc)))
    · rw [List.mem_singleton.mp hc]
      exact ⟨vs, upd_same, paired_map (fun _ _ r => A.mono (M := fun a => M a ∨ a = p) (fun b o e _ => by rw [upd_ne (ne_of_none e hp)]; exact e) (A.set e1 r)) r⟩
  · rcases foots_snoc.mp z with z | z
    · exact .inl (h.inM b z)
    · exact .inr (List.mem_singleton.mp z)
  · rcases z with z | z
    · exact s.al b (h.al b z)
    · rw [z, upd_same]; exact fun q => nomatch q
  · refine List.pairwise_append.mpr ⟨h.dj, List.pairwise_singleton _ _, fun c hc d hd b hb hb2 => ?_⟩
    rw [List.mem_singleton.mp hd] at hb2
    rw [List.mem_singleton.mp hb2] at hb
    exact nm (h.inM p ⟨c, hc, hb⟩)
theorem foots_mid {c : Cell} {a : Addr} : foots (μ ++ c :: μ') a ↔ foots μ a ∨ a ∈ c.foot ∨ foots μ' a := by
  rw [show μ ++ c :: μ' = μ ++ ([c] ++ μ') from rfl, foots_app, foots_app, foots_one]
/-- a cell's list is changed -/
theorem put_cell {ys : List α} (h : Holds K M (μ ++ lst a xs :: μ') H) (r : Paired (A.R K M H) vs ys) : Ste M (μ ++ lst a xs :: μ') H M (μ ++ lst a ys :: μ') (upd H a (.lst vs)) ∧ Holds K M (μ ++ lst a ys :: μ') (upd H a (.lst vs)) := by
  obtain ⟨ws, ea, ra⟩ := h.cell (lst a xs) (by simp)
  have fa : foots (μ ++ lst a xs :: μ') a := foots_mid.mpr (.inr (.inl (by show a ∈ [a]; simp)))
  have ha : M a := h.inM a fa
  have k : ∀ b o, H b = some o → (b ≠ a ∨ Fix o) → upd H a (.lst vs) b = some o := fun b o e c => by
    by_cases hb : b = a
    · rcases c with c | c
      · exact absurd hb c
      · rw [hb] at e; rw [ea] at e; cases e; exact c.elim
    · rw [upd_ne hb]; exact e
  have al : ∀ b, H b ≠ none → upd H a (.lst vs) b ≠ none := fun b n => by
    by_cases hb : b = a
    · rw [hb, upd_same]; exact fun z => nomatch z
    · rw [upd_ne hb]; exact n
  have ff : ∀ b, foots (μ ++ lst a ys :: μ') b ↔ foots (μ ++ lst a xs :: μ') b := fun b => by rw [foots_mid, foots_mid]; rfl
  have dj := List.pairwise_append.mp h.dj
  have dj2 := List.pairwise_cons.mp dj.2.1
  have kM : Keep M H (upd H a (.lst vs)) := fun b o e c => k b o e (c.imp (fun n z => n (by rw [z]; exact ha)) id)
  refine ⟨⟨fun b o e c => k b o e (c.imp (fun n z => n (by rw [z]; exact fa)) id), al, fun b z => .inl z, fun b z => .inl ((ff b).mp z), fun b z _ _ => z⟩, ⟨fun c hc => ?_, fun b z => h.inM b ((ff b).mp z), fun b z => al b (h.al b z), ?_⟩⟩
  · have other : ∀ c, c ∈ μ ++ lst a xs :: μ' → a ∉ c.foot → c.holds K M (upd H a (.lst vs)) := fun c hc na => c.mono (fun b o e cc => k b o e (by
      rcases cc with cc | cc | cc
      · exact .inl fun z => na (by rw [← z]; exact cc)
      · exact .inl fun z => cc (by rw [z]; exact ha)
      · exact .inr cc)) (h.cell c hc)
    rcases List.mem_append.mp hc with hc | hc
    · exact other c (List.mem_append_left _ hc) fun z => dj.2.2 c hc (lst a xs) (by simp) a z (by show a ∈ [a]; simp)
    · rcases List.mem_cons.mp hc with hc | hc
      · rw [hc]
        exact ⟨vs, upd_same, paired_map (fun _ _ r => A.mono kM r) r⟩
      · exact other c (List.mem_append_right _ (List.mem_cons_of_mem _ hc)) fun z => dj2.1 c hc a (by show a ∈ [a]; simp) z
  · refine List.pairwise_append.mpr ⟨dj.1, List.pairwise_cons.mpr ⟨dj2.1, dj2.2⟩, fun c hc d hd => ?_⟩
    rcases List.mem_cons.mp hd with hd | hd
    · rw [hd]; exact dj.2.2 c hc (lst a xs) (by simp)
    · exact dj.2.2 c hc d (List.mem_cons_of_mem _ hd)
/-- a cell is read: its list -/
theorem get_cell {c : Cell} (h : Holds K M μ H) (hc : c ∈ μ) : c.holds K M H := h.cell c hc
/-- a list that nobody changes any more -/
theorem freeze (h : Holds K M (μ ++ lst a xs :: μ') H) : Ste M (μ ++ lst a xs :: μ') H (fun b => M b ∧ b ≠ a) (μ ++ μ') H ∧ Holds K (fun b => M b ∧ b ≠ a) (μ ++ μ') H ∧ Enc.R K (fun b => M b ∧ b ≠ a) H (.ref a) xs := by
  obtain ⟨ws, ea, ra⟩ := h.cell (lst a xs) (by simp)
  have dj := List.pairwise_append.mp h.dj
  have dj2 := List.pairwise_cons.mp dj.2.1
  have ff : ∀ b, foots (μ ++ μ') b → foots (μ ++ lst a xs :: μ') b := fun b z => by
    rw [foots_mid]
    exact (foots_app.mp z).imp id .inr
  have na : ¬ foots (μ ++ μ') a := fun z => by
    rcases foots_app.mp z with ⟨c, hc, ha⟩ | ⟨c, hc, ha⟩
    · exact dj.2.2 c hc (lst a xs) (by simp) a ha (by show a ∈ [a]; simp)
    · exact dj2.1 c hc a (by show a ∈ [a]; simp) ha
  have st : ∀ b, (M b ∧ b ≠ a) → M b ∨ H b = none := fun b z => .inl z.1
  refine ⟨⟨Keep.refl, fun _ n => n, st, fun b z => .inl (ff b z), fun b z _ n => ⟨z, fun e => n (foots_mid.mpr (.inr (.inl (by rw [e]; show a ∈ [a]; simp))))⟩⟩, ⟨fun c hc => c.set st (h.cell c ?_), fun b z => ⟨h.inM b (ff b z), fun e => na (by rw [← e]; exact z)⟩, fun b z => h.al b z.1, ?_⟩, ⟨a, ws, rfl, fun z => z.2 rfl, .inl ea, paired_map (fun _ _ r => A.set st r) ra⟩⟩
  · rcases List.mem_append.mp hc with hc | hc
    · exact List.mem_append_left _ hc
    · exact List.mem_append_right _ (List.mem_cons_of_mem _ hc)
  · exact List.pairwise_append.mpr ⟨dj.1, dj2.2, fun c hc d hd => dj.2.2 c hc d (List.mem_cons_of_mem _ hd)⟩
end
theorem split_at {μ : List Cell} {i : Nat} {c : Cell} (h : μ[i]? = some c) : μ = μ.take i ++ c :: μ.drop (i + 1) ∧ (∀ c', μ.set i c' = μ.take i ++ c' :: μ.drop (i + 1)) ∧ μ.eraseIdx i = μ.take i ++ μ.drop (i + 1) := by
  obtain ⟨hi, e⟩ := List.getElem?_eq_some_iff.mp h
  refine ⟨?_, fun c' => ?_, ?_⟩
  · rw [← e, List.getElem_cons_drop, List.take_append_drop]
  · rw [List.set_eq_take_append_cons_drop, if_pos hi]
  · rw [List.eraseIdx_eq_take_drop_succ]
section
variable {X : Cx} {α β γ ρ : Type} [Enc α] [Enc β] [Enc γ] [Enc ρ] {e a b tg : Expr} {es : List Expr} {δ : List Slot} {μ : List Cell} {P : α → List Cell → Prop} {PB : Bool → List Cell → Prop}
  {N B C : PN} {R : ρ → List Cell → Prop} {st : Stmt} {sts s1 s2 body : List Stmt} {pos p : Pos}
/-- a list display that is to change -/
theorem de_lstN {P : Ref → List Cell → Prop} (h : DA X es δ μ fun ss μ1 => ∃ xs : List α, ss = xs.map (fun x => sl x) ∧ xs.length ≤ 1000 ∧ ∀ l, P ⟨l⟩ (μ1 ++ [lst l xs])) : DE X (.List es pos) δ μ P :=
  of_pe (pe_lst (cA_pa es)) fun M σ H E Q q => h M σ H E _ fun ss μ1 M1 vs H1 p1 s1 hh1 r1 => by
    obtain ⟨xs, rfl, hl, p⟩ := p1
    have r := SlVs.ex r1
    refine ⟨by rw [r.length]; exact Nat.le_trans hl (by decide), fun p' hp => ?_⟩
    obtain ⟨s3, h3⟩ := new_cell hh1 hp r
    exact q ⟨p'⟩ _ _ _ _ (p p') (s1.trans s3) h3 rfl
/-- a changing list is left as it is, for good: i is its cell's place -/
theorem de_frz {P : List α → List Cell → Prop} (i : Nat) (h : DE X e δ μ fun (x : Ref) μ1 => ∃ xs : List α, μ1[i]? = some (lst x.a xs) ∧ P xs (μ1.eraseIdx i)) : DE X e δ μ P :=
  fun M σ H E Q q => h M σ H E _ fun x μ1 M1 v H1 p1 s1 hh1 r1 => by
    obtain ⟨xs, hi, p⟩ := p1
    obtain ⟨e1, e2, e3⟩ := split_at hi
    rw [e1] at hh1 s1
    obtain ⟨s2, h2, r2⟩ := freeze hh1
    cases r1
    rw [e3] at p
    exact q xs _ _ _ _ p (s1.trans s2) h2 r2
/-- xs.append(y) -/
theorem de_append {apos : Pos} {P : Unit → List Cell → Prop} (i : Nat)
    (h : DE X a δ μ fun (x : Ref) μ1 => (∃ zs : List α, μ1[i]? = some (lst x.a zs)) ∧ DE X b δ μ1 fun (y : α) μ2 => ∃ xs : List α, μ2[i]? = some (lst x.a xs) ∧ xs.length < 10000 ∧ P () (μ2.set i (lst x.a (xs ++ [y]))))
    (hbase : attributeBase a "append" X.env (eval a X.env) = eval a X.env := by rfl)
    (hfew : ((backTo pos (starEach (b :: []) X.env)).all (fun x => !x.1) && (backToKw pos (keywordEach [] X.env)).all (fun x => x.1.isSome)
      && decide ((b :: []).length + ([] : List Keyword).length + (if ([] : List Keyword).isEmpty then 0 else 1) < 30)) = true := by rfl)
    (hline : (apos.endLine == pos.line) = true := by rfl) (hst : starEach [b] X.env = (false, eval b X.env) :: starEach [] X.env := by rfl) (hplain : (backTo pos (starEach [] X.env)).any (·.1) = false := by rfl) :
    DE X (.Call (.Attribute a "append" apos) [b] [] pos) δ μ P :=
  of_pe (pe_bm PySem.F.plainAttrs_list PySem.F.slot_list_append PySem.F.type_list_append mt_append (cE_pe a) (pa_cons (cE_pe b) pa_nil hst) hbase hfew hline hst hplain) fun M σ H E Q q => h M σ H E _ fun x μ1 M1 v H1 p1 s1 hh1 r1 => by
    obtain ⟨⟨zs, hz⟩, p1⟩ := p1
    cases r1
    obtain ⟨ws, ew, _⟩ := hh1.cell _ (List.mem_of_getElem? hz)
    refine ⟨.inl ⟨rfl, ws, .inl (.inl ew)⟩, ?_⟩
    refine p1 M1 σ H1 (E.step s1 hh1) _ fun y μ2 M2 w H2 p2 s2 hh2 r2 => ?_
    obtain ⟨xs, hx, hl, p⟩ := p2
    obtain ⟨e1, e2, e3⟩ := split_at hx
    obtain ⟨vs, ev, rv⟩ := hh2.cell _ (List.mem_of_getElem? hx)
    have hh2' := hh2
    rw [e1] at hh2'
    have r3 : Paired (Enc.R X.K M2 H2) (vs ++ [w]) (xs ++ [y]) := by
      have : ∀ {vs : List V} {xs : List α}, Paired (Enc.R X.K M2 H2) vs xs → Paired (Enc.R X.K M2 H2) (vs ++ [w]) (xs ++ [y]) := by
        intro vs xs r
        induction r with
        | nil => exact .cons r2 .nil
        | cons r t ih => exact .cons r ih
      exact this rv
    obtain ⟨s3, h3⟩ := put_cell hh2' r3
    rw [← e1, ← e2] at s3
    rw [← e2] at h3
    exact ⟨x.a, vs, w, rfl, rfl, ev, by rw [rv.length]; exact Nat.lt_of_lt_of_le hl (by decide), q () _ _ .non _ p ((s1.trans s2).trans s3) h3 rfl⟩
/-- xs[i] of a changing list -/
theorem de_ixC {P : α → List Cell → Prop} (c : Nat) (h : DE X a δ μ fun (x : Ref) μ1 => DE X b δ μ1 fun (i : Int) μ2 => ∃ xs : List α, μ2[c]? = some (lst x.a xs) ∧ ∃ y, atI xs i = some y ∧ P y μ2) (hs : PlainIx b := by exact fun _ _ => rfl) : DE X (.Subscript a b pos) δ μ P :=
  of_pe (pe_ix ix_list (cE_pe a) (cE_pe b) hs) fun M σ H E Q q => h M σ H E _ fun x μ1 M1 v1 H1 p1 s1 hh1 r1 => p1 M1 σ H1 (E.step s1 hh1) _ fun i μ2 M2 w H2 p2 s2 hh2 r2 => by
    obtain ⟨xs, hx, y, hy, p⟩ := p2
    cases r1; cases r2
    obtain ⟨vs, ev, rv⟩ := hh2.cell _ (List.mem_of_getElem? hx)
    obtain ⟨v, hv, r⟩ := paired_atI rv hy
    exact ⟨x.a, vs, i, v, rfl, rfl, .inl (.inl ev), hv, q y μ2 M2 v H2 p (s1.trans s2) hh2 r⟩
/-- xs[i] = e -/
theorem ds_setItem {e : Expr} {tpos : Pos} (c : Nat) (h : DE X e δ μ fun (y : α) μ0 => DE X a δ μ0 fun (x : Ref) μ1 => DE X b δ μ1 fun (i : Int) μ2 => ∃ xs : List α, μ2[c]? = some (lst x.a xs) ∧ ∃ j, ixN xs.length i = some j ∧ N δ (μ2.set c (lst x.a (xs.set j y))))
    (ha : ∀ v, assign (.Subscript a b tpos) X.env v = (do
      let ov ← holding [v] (eval a X.env)
      let iv ← holding [v, ov] (eval b X.env)
      standAt tpos
      holding [v, ov, iv] (setItem ov iv v)
      release [v, ov, iv] []) := by intro _; rfl)
    (hs : swapsWithSole [.Subscript a b tpos] e pos.line X.env = pure false := by rfl) (hw : swappedStores [.Subscript a b tpos] e X.env = pure none := by rfl)
    (h1 : (assignEach [.Subscript a b tpos] X.env).map (·.2) = [assign (.Subscript a b tpos) X.env] := by rfl) :
    DS X (.Assign [.Subscript a b tpos] e pos) δ μ N R B C :=
  of_ps (ps_asg (cE_pe e) (pg_sub (cE_pe a) (cE_pe b) set_list ha) hs hw h1) fun M σ H E D nk rk bk ck => h M σ H E _ fun y μ0 M0 v0 H0 p0 s0 hh0 r0 => p0 M0 σ H0 (E.step s0 hh0) _ fun x μ1 M1 v1 H1 p1 s1 hh1 r1 =>
    p1 M1 σ H1 (E.step (s0.trans s1) hh1) _ fun i μ2 M2 w H2 p2 s2 hh2 r2 => by
    obtain ⟨xs, hx, j, hj, p⟩ := p2
    cases r1; cases r2
    obtain ⟨vs, ev, rv⟩ := hh2.cell _ (List.mem_of_getElem? hx)
    obtain ⟨e1, e2, e3⟩ := split_at hx
    have hh2' := hh2
    rw [e1] at hh2'
    have r3 : Paired (Enc.R X.K M2 H2) (vs.set j v0) (xs.set j y) := by
      have ry := tr (s1.trans s2) hh0 r0
      have : ∀ {vs : List V} {xs : List α} {j : Nat}, Paired (Enc.R X.K M2 H2) vs xs → Paired (Enc.R X.K M2 H2) (vs.set j v0) (xs.set j y) := by
        intro vs xs j r
        induction r generalizing j with
        | nil => exact .nil
        | cons r t ih =>
          cases j with
          | zero => exact .cons ry t
          | succ j => exact .cons r ih
      exact this rv
    obtain ⟨s3, h3⟩ := put_cell hh2' r3
    rw [← e1, ← e2] at s3
    rw [← e2] at h3
    exact ⟨x.a, vs, i, j, rfl, rfl, ev, by rw [rv.length]; exact hj, nk _ _ _ _ _ p (((s0.trans s1).trans s2).trans s3) (E.step (((s0.trans s1).trans s2).trans s3) h3)⟩
/-- len -/
theorem de_lenL {p : Pos} {P : Int → List Cell → Prop} (hm : X.mg "len" = none) (h : DE X a δ μ fun (xs : List α) μ1 => P xs.length μ1) (hg : Gl X "len" := by rfl)
    (he : starEach [a] X.env = (false, eval a X.env) :: starEach [] X.env := by rfl) (hpl : (backTo pos (starEach [] X.env)).any (·.1) = false := by rfl) : DE X (.Call (.Name "len" p) [a] [] pos) δ μ P :=
  de_cb call_len hm PySem.boot_len (da_cons (h.mono fun i μ1 q => da_nil ⟨_, q, fun M H vs r Q k => by
    cases r with
    | cons r1 r =>
      cases r
      obtain ⟨ad, vs, rfl, _, rd, rp⟩ := r1
      exact ⟨_, vs.length, rfl, .inl ⟨vs, .inl rd, rfl⟩, k _ (by rw [rp.length]; rfl)⟩⟩) he) hg (by decide) (by decide) he hpl
theorem de_lenT {p : Pos} {P : Int → List Cell → Prop} (hm : X.mg "len" = none) (h : DE X a δ μ fun (xs : Tup α) μ1 => P xs.l.length μ1) (hg : Gl X "len" := by rfl)
    (he : starEach [a] X.env = (false, eval a X.env) :: starEach [] X.env := by rfl) (hpl : (backTo pos (starEach [] X.env)).any (·.1) = false := by rfl) : DE X (.Call (.Name "len" p) [a] [] pos) δ μ P :=
  de_cb call_len hm PySem.boot_len (da_cons (h.mono fun i μ1 q => da_nil ⟨_, q, fun M H vs r Q k => by
    cases r with
    | cons r1 r =>
      cases r
      obtain ⟨ad, vs, rfl, rd, rp⟩ := r1
      exact ⟨_, vs.length, rfl, .inr ⟨vs, rd, rfl⟩, k _ (by rw [rp.length]; rfl)⟩⟩) he) hg (by decide) (by decide) he hpl
theorem de_len2 {p : Pos} {P : Int → List Cell → Prop} (hm : X.mg "len" = none) (h : DE X a δ μ fun (xs : α × β) μ1 => P 2 μ1) (hg : Gl X "len" := by rfl)
    (he : starEach [a] X.env = (false, eval a X.env) :: starEach [] X.env := by rfl) (hpl : (backTo pos (starEach [] X.env)).any (·.1) = false := by rfl) : DE X (.Call (.Name "len" p) [a] [] pos) δ μ P :=
  de_cb call_len hm PySem.boot_len (da_cons (h.mono fun i μ1 q => da_nil ⟨_, q, fun M H vs r Q k => by
    cases r with
    | cons r1 r =>
      cases r
      obtain ⟨ad, v1, v2, rfl, rd, rp⟩ := r1
      exact ⟨_, 2, rfl, .inr ⟨_, rd, rfl⟩, k _ rfl⟩⟩) he) hg (by decide) (by decide) he hpl
theorem de_lenC {p : Pos} {P : Int → List Cell → Prop} (c : Nat) (hm : X.mg "len" = none) (h : DE X a δ μ fun (x : Ref) μ1 => ∃ xs : List α, μ1[c]? = some (lst x.a xs) ∧ P xs.length μ1) (hg : Gl X "len" := by rfl)
    (he : starEach [a] X.env = (false, eval a X.env) :: starEach [] X.env := by rfl) (hpl : (backTo pos (starEach [] X.env)).any (·.1) = false := by rfl) : DE X (.Call (.Name "len" p) [a] [] pos) δ μ P :=
  of_pe (pe_callB call_len hg hm PySem.boot_len (pa_cons (cE_pe a) pa_nil he) (by decide) (by decide) he hpl) fun M σ H E Q q => h M σ H E _ fun x μ1 M1 v1 H1 p1 s1 hh1 r1 => by
    obtain ⟨xs, hx, p⟩ := p1
    cases r1
    obtain ⟨vs, ev, rv⟩ := hh1.cell _ (List.mem_of_getElem? hx)
    exact ⟨_, vs.length, rfl, .inl ⟨vs, .inl (.inl ev), rfl⟩, q _ μ1 M1 _ H1 p s1 hh1 (by rw [rv.length]; rfl)⟩
/-- tuple(xs) of a list -/
theorem de_tuple {p : Pos} {P : Tup α → List Cell → Prop} (hm : X.mg "tuple" = none) (h : DE X a δ μ fun (xs : List α) μ1 => P ⟨xs⟩ μ1) (hg : Gl X "tuple" := by rfl)
    (he : starEach [a] X.env = (false, eval a X.env) :: starEach [] X.env := by rfl) : DE X (.Call (.Name "tuple" p) [a] [] pos) δ μ P :=
  of_pe (pe_tupleOf hg hm (cE_pe a) he) fun M σ H E Q q => h M σ H E _ fun xs μ1 M1 v1 H1 p1 s1 hh1 r1 => by
    have r0 := r1
    obtain ⟨ad, vs, rfl, nm, rd, rp⟩ := r1
    refine .inl ⟨ad, vs, rfl, .inl rd, fun c hc => ?_⟩
    have s2 := foot_alloc hh1 hc (.tup vs)
    exact q ⟨xs⟩ μ1 M1 _ _ p1 (s1.trans s2) (hh1.alloc hc _) ⟨c, vs, rfl, SqT.of upd_same, paired_map (fun _ _ r => tr s2 hh1 r) rp⟩
/-- list(xs): a new list that is to change -/
theorem de_list {p : Pos} {P : Ref → List Cell → Prop} (hm : X.mg "list" = none) (h : DE X a δ μ fun (xs : Tup α) μ1 => ∀ l, P ⟨l⟩ (μ1 ++ [lst l xs.l])) (hg : Gl X "list" := by rfl)
    (he : starEach [a] X.env = (false, eval a X.env) :: starEach [] X.env := by rfl) (hpl : (backTo pos (starEach [] X.env)).any (·.1) = false := by rfl) : DE X (.Call (.Name "list" p) [a] [] pos) δ μ P :=
  of_pe (pe_callTy call_list_of hg hm (by decide +kernel) (pa_cons (cE_pe a) pa_nil he) (by decide) (by decide) he hpl) fun M σ H E Q q => h M σ H E _ fun xs μ1 M1 v1 H1 p1 s1 hh1 r1 => by
    obtain ⟨ad, vs, rfl, rd, rp⟩ := r1
    refine ⟨ad, vs, rfl, .inr rd, fun c hc => ?_⟩
    obtain ⟨s2, h2⟩ := new_cell hh1 hc rp
    exact q ⟨c⟩ _ _ _ _ (p1 c) (s1.trans s2) h2 rfl
end
end Dl
namespace Dl
open PySem PySem.Spec PyProof.Rows L2
/-! ### comprehensions -/
def wipeD (δ : List Slot) : List Nat → List Slot
  | [] => δ
  | v :: vs => (wipeD δ vs).set v .any
theorem wipe_at {σ : L2.St} : ∀ {vs : List Nat} {j : Nat}, (wipe σ vs)[j]? = if j ∈ vs ∧ j < σ.length then some none else σ[j]?
  | [], j => by simp [wipe]
  | v :: vs, j => by
    show ((wipe σ vs).set v none)[j]? = _
    rw [List.getElem?_set, wipe_at (vs := vs), wipe_length]
    by_cases h : v = j
    · subst h
      by_cases h2 : v < σ.length
      · simp [h2]
      · simp [h2]
    · have h' : ¬ j = v := fun e => h e.symm
      simp [h, h']
theorem wipe_set {σ : L2.St} {vs : List Nat} {i : Nat} {x : Option V} (h : i ∈ vs) : wipe ((wipe σ vs).set i x) vs = wipe σ vs := by
  apply List.ext_getElem?
  intro j
  rw [wipe_at, wipe_at, List.length_set, wipe_length]
  by_cases h1 : j ∈ vs ∧ j < σ.length
  · rw [if_pos h1, if_pos h1]
  · rw [if_neg h1, if_neg h1, List.getElem?_set, wipe_at, wipe_length]
    by_cases h2 : i = j
    · subst h2
      have : ¬ i < σ.length := fun z => h1 ⟨h, z⟩
      rw [if_pos rfl, if_neg this]
      exact (List.getElem?_eq_none (by omega)).symm
    · rw [if_neg h2, if_neg h1]
theorem wipe_set2 {σ : L2.St} {vs : List Nat} {i j : Nat} {x y : Option V} (h : i ∈ vs) (h' : j ∈ vs) : wipe (((wipe σ vs).set i x).set j y) vs = wipe σ vs := by
  apply List.ext_getElem?
  intro k
  rw [wipe_at, wipe_at, List.length_set, List.length_set, wipe_length]
  by_cases h1 : k ∈ vs ∧ k < σ.length
  · rw [if_pos h1, if_pos h1]
  · rw [if_neg h1, if_neg h1, List.getElem?_set, List.getElem?_set, wipe_at, List.length_set, wipe_length]
    by_cases h3 : j = k
    · subst h3
      have : ¬ j < σ.length := fun z => h1 ⟨h', z⟩
      rw [if_pos rfl, if_neg this]
      exact (List.getElem?_eq_none (by omega)).symm
    · rw [if_neg h3]
      by_cases h2 : i = k
      · subst h2
        have : ¬ i < σ.length := fun z => h1 ⟨h, z⟩
        rw [if_pos rfl, if_neg this]
        exact (List.getElem?_eq_none (by omega)).symm
      · rw [if_neg h2, if_neg h1]
section
variable {K : PySem.W.Frag} {M M' : AS} {μ μ' : List Cell} {δ : List Slot} {σ : L2.St} {H H' : Hp}
theorem EnvOk.wipe (E : EnvOk K M μ δ σ H) : ∀ vs : List Nat, EnvOk K M μ (wipeD δ vs) (L2.wipe σ vs) H
  | [] => E
  | v :: vs => by
    have E1 := E.wipe vs
    refine ⟨E1.h, by show ((L2.wipe σ vs).set v none).length = ((wipeD δ vs).set v .any).length; rw [List.length_set, List.length_set]; exact E1.len, fun i s w e1 e2 => ?_⟩
    have e1 : ((wipeD δ vs).set v .any)[i]? = some s := e1
    have e2 : ((L2.wipe σ vs).set v none)[i]? = some w := e2
    by_cases h : v = i
    · subst h
      rw [List.getElem?_set] at e1
      rw [if_pos rfl] at e1
      split at e1
      · cases e1; trivial
      · cases e1
    · rw [List.getElem?_set_ne h] at e1 e2
      exact E1.sl i s w e1 e2
theorem EnvOk.cells (E : EnvOk K M μ δ σ H) (h : Holds K M μ' H) : EnvOk K M μ' δ σ H := ⟨h, E.len, E.sl⟩
/-- a target within a block -/
structure WB (K : PySem.W.Frag) (g : TG) (vs : List Nat) (s : Slot) (dg : List Slot → List Slot) : Prop where
  run : ∀ (δ : List Slot) (M : AS) (μ : List Cell) (σ : L2.St) (H : Hp) (v : V), EnvOk K M μ δ σ H → SlotV K M H v s → ∀ Q : L2.St → Hp → Prop, (∀ σ', EnvOk K M μ (dg (wipeD δ vs)) σ' H → L2.wipe σ' vs = L2.wipe σ vs → Q σ' H) → g v (L2.wipe σ vs) H Q
theorem wb_name {i : Nat} {vs : List Nat} {s : Slot} (h : i ∈ vs := by decide) : WB K (gName i) vs s (fun δ => δ.set i s) := ⟨fun δ M μ σ H v E r Q k => k _ ((E.wipe vs).put r) (wipe_set h)⟩
theorem wb_pair {i j : Nat} {vs : List Nat} {α β : Type} {A : Enc α} {B : Enc β} {x : α × β} (h : i ∈ vs := by decide) (h' : j ∈ vs := by decide) : WB K (gTup K 2 (gCons (gName i) (gCons (gName j) gNil))) vs (.val (@instEncProd α β A B) x) (fun δ => (δ.set i (.val A x.1)).set j (.val B x.2)) :=
  ⟨fun δ M μ σ H v E r Q k => by
    obtain ⟨a, v1, v2, rfl, hs, r1, r2⟩ := r
    exact ⟨a, [v1, v2], rfl, hs, rfl, v1, [v2], rfl, v2, [], rfl, rfl, k _ (((E.wipe vs).put (s := .val A x.1) r1).put (s := .val B x.2) r2) (wipe_set2 h h')⟩⟩
end
section
variable {X : Cx} {α β γ ρ : Type} [Enc α] [Enc β] [Enc γ] [Enc ρ] {e a b tg iter elt : Expr} {es ifs : List Expr} {δ : List Slot} {μ : List Cell}
  {pos p : Pos} {scope : Scope} {own : List (Str × Nat)} {g : TG}
abbrev blk (X : Cx) (scope : Scope) (s : Shared) (H : Hp) (C : Addr) (cl : List (Str × Addr)) (fp : List Addr) : Cx := X.blk s H scope (compEnvC scope cl C X.env) fp
def cB (X : Cx) (scope : Scope) (e : Expr) : TE := fun σ H Q => ∀ s H0 C cl fp, cE (blk X scope s H0 C cl fp) e σ H Q
def cBT (X : Cx) (scope : Scope) (e : Expr) : TT := fun σ H Q => ∀ s H0 C cl fp, cV (blk X scope s H0 C cl fp) e σ H Q
theorem cB_pe (s H0 C cl fp) : PE (blk X scope s H0 C cl fp) e (cB X scope e) := ⟨fun pins st σ H Q I h => h s H0 C cl fp pins st I⟩
theorem cBT_pt (s H0 C cl fp) : PT (blk X scope s H0 C cl fp) e (cBT X scope e) := ⟨fun pins st σ H Q I h => h s H0 C cl fp pins st I⟩
/-- what a turn of the block does -/
def Turns (X : Cx) (scope : Scope) (elt : Expr) (ifs : List Expr) {β : Type} [Enc β] (δ : List Slot) (μ : List Cell) (Yes : β → List Cell → Prop) (No : List Cell → Prop) : Prop :=
  ∀ s H C cl fp, match ifs with
    | [] => DE (blk X scope s H C cl fp) elt δ μ Yes
    | c :: _ => DT (blk X scope s H C cl fp) c δ μ fun b μ1 => (b = true → ∀ s H C cl fp, DE (blk X scope s H C cl fp) elt δ μ1 Yes) ∧ (b = false → No μ1)
def ttOf (X : Cx) (scope : Scope) : List Expr → TT
  | [] => tYes
  | c :: _ => cBT X scope c
theorem Ste.swap_r {M M' : AS} {μ μ' : List Cell} {H H' : Hp} (s : Ste M μ H M' μ' H') : Ste M μ H M' μ' H' := s
/-- one turn: from the readings to the cells -/
theorem turn_ok {D : Addr} {M : AS} {H : Hp} {M1 : AS} {μ1 μ' : List Cell} {H1 : Hp} {ys : List β} {J : List β → List Cell → Prop} {δ' : List Slot} {σ2 : L2.St} {Nx : Hp → Prop}
    (ht : Turns X scope elt ifs δ' μ' (fun (y : β) μ3 => ys.length < 10000 ∧ J (ys ++ [y]) μ3) (fun μ3 => J ys μ3))
    (s : Ste M1 μ1 H1 M (μ' ++ [lst D ys]) H) (E : EnvOk X.K M (μ' ++ [lst D ys]) δ' σ2 H)
    (nx : ∀ ys' μ3 M3 H3, J ys' μ3 → Ste M1 μ1 H1 M3 (μ3 ++ [lst D ys']) H3 → Holds X.K M3 (μ3 ++ [lst D ys']) H3 → Nx H3) :
    ttOf X scope ifs σ2 H fun b H3 => if b = true then cB X scope elt σ2 H3 fun y H4 => ∃ acc, H4 D = some (.lst acc) ∧ acc.length < sizeLine ∧ Nx (upd H4 D (.lst (acc ++ [y]))) else Nx H3 := by
  have sp : Parts (μ' ++ [lst D ys]) μ' [lst D ys] := ⟨List.Perm.refl _⟩
  have yes : ∀ {M2 : AS} {μ2 : List Cell} {H2 : Hp}, (∀ s H C cl fp, DE (blk X scope s H C cl fp) elt δ' μ2 (fun (y : β) μ3 => ys.length < 10000 ∧ J (ys ++ [y]) μ3)) → Ste M1 μ1 H1 M2 (μ2 ++ [lst D ys]) H2 → EnvOk X.K M2 (μ2 ++ [lst D ys]) δ' σ2 H2 →
      cB X scope elt σ2 H2 fun y H4 => ∃ acc, H4 D = some (.lst acc) ∧ acc.length < sizeLine ∧ Nx (upd H4 D (.lst (acc ++ [y]))) := by
    intro M2 μ2 H2 hd s2 E2 sh H0 C cl fp
    have sp2 : Parts (μ2 ++ [lst D ys]) μ2 [lst D ys] := ⟨List.Perm.refl _⟩
    refine hd sh H0 C cl fp M2 σ2 H2 (E2.cells (E2.h.part sp2)) _ fun y μ3 M3 v H3 p3 s3 h3 r3 => ?_
    obtain ⟨s4, h4⟩ := frame E2.h sp2 s3 h3
    obtain ⟨acc, ea, ra⟩ := h4.cell (lst D ys) (by simp)
    have r4 : Paired (Enc.R X.K M3 H3) (acc ++ [v]) (ys ++ [y]) := by
      have : ∀ {vs : List V} {xs : List β}, Paired (Enc.R X.K M3 H3) vs xs → Paired (Enc.R X.K M3 H3) (vs ++ [v]) (xs ++ [y]) := by
        intro vs xs r
        induction r with
        | nil => exact .cons r3 .nil
        | cons r t ih => exact .cons r ih
      exact this ra
    obtain ⟨s5, h5⟩ := put_cell (μ' := []) h4 r4
    exact ⟨acc, ea, by rw [ra.length]; exact Nat.lt_of_lt_of_le p3.1 (by decide), nx _ _ _ _ p3.2 ((s2.trans s4).trans s5) h5⟩
  cases ifs with
  | nil => exact iteT (B := Nx H) (yes (fun s H C cl fp => ht s H C cl fp) s E)
  | cons c r =>
    intro sh H0 C cl fp
    refine ht sh H0 C cl fp M σ2 H (E.cells (E.h.part sp)) _ fun b μ2 M2 H2 p2 s2 h2 => ?_
    obtain ⟨s3, h3⟩ := frame E.h sp s2 h2
    cases b with
    | true => exact iteT (yes (p2.1 rfl) (s.trans s3) (E.step s3 h3))
    | false => exact iteF (nx _ _ _ _ (p2.2 rfl) (s.trans s3) h3)
theorem pts_of (hl : ifs.length ≤ 1) (s H0 C cl fp) : PTs (blk X scope s H0 C cl fp) ifs (ttOf X scope ifs) := by
  cases ifs with
  | nil => exact pts_nil
  | cons c r =>
    cases r with
    | nil => exact pts_one (cBT_pt s H0 C cl fp)
    | cons d r => simp at hl
/-- the whole comprehension over a list that stays: its reading -/
theorem we_lcLN {A : Enc α} (dg : α → List Slot → List Slot) (hw : ∀ x : α, WB X.K g (own.map (·.2)) (.val A x) (dg x))
    {P : Ref → List Cell → Prop} (h : DE X iter δ μ fun (xs : List α) μ1 => ∃ J : Nat → List β → List Cell → Prop, J 0 [] μ1 ∧
      (∀ k x ys μ', xs[k]? = some x → J k ys μ' → Turns X scope elt ifs (dg x (wipeD δ (own.map (·.2)))) μ' (fun (y : β) μ3 => ys.length < 10000 ∧ J (k + 1) (ys ++ [y]) μ3) (fun μ3 => J (k + 1) ys μ3)) ∧ (∀ ys μ', J xs.length ys μ' → ∀ D, P ⟨D⟩ (μ' ++ [lst D ys]))) :
    WE X.K (tLc (iList X.K (cE X iter)) g (ttOf X scope ifs) (cB X scope elt) (own.map (·.2))) δ μ P := fun M σ H E Q q => h M σ H E _ fun xs μ1 M1 v H1 p1 s1 hh1 r1 => by
  obtain ⟨J, j0, jh, je⟩ := p1
  obtain ⟨ad, vs, rfl, nm, rd, rp⟩ := r1
  have hl := rp.length
  have lt : ad < ad + 1 := Nat.lt_succ_self _
  refine ⟨ad, rfl, ⟨vs, .inl rd⟩, fun D hD => ?_⟩
  obtain ⟨s2, h2⟩ := new_cell (A := inferInstanceAs (Enc β)) (xs := ([] : List β)) hh1 hD .nil
  have E1 := E.step s1 hh1
  refine lc_list (xs := vs) (fun i H' => ∃ M' μ' ys, J i ys μ' ∧ Ste M1 μ1 H1 M' (μ' ++ [lst D ys]) H' ∧ Holds X.K M' (μ' ++ [lst D ys]) H') ⟨_, μ1, [], j0, s2, h2⟩ ?_ ?_ ?_
  · rintro i H' hi ⟨M', μ', ys, hJ, s, hh⟩
    rcases rd with rd | ⟨o, rd⟩
    · exact .inl (.inl (s.keep _ _ rd (.inl fun z => nm (hh1.inM _ z))))
    · exact .inl (.inr ⟨o, s.keep _ _ rd (.inr trivial)⟩)
  · rintro i y H' hi ⟨M', μ', ys, hJ, s, hh⟩
    have hi' : i < xs.length := by rw [← hl]; exact (List.getElem?_eq_some_iff.mp hi).1
    obtain ⟨y', e1, ry⟩ := paired_get rp (List.getElem?_eq_getElem hi')
    rw [hi] at e1; cases e1
    refine (hw xs[i]).run δ M' _ σ H' y (E1.step s hh) (Dl.tr (A := A) s hh1 ry) _ fun σ2 E2 ew => ⟨ew, ?_⟩
    exact turn_ok (J := fun ys μ3 => J (i + 1) ys μ3) (jh i _ ys μ' (List.getElem?_eq_getElem hi') hJ) s E2 fun ys' μ3 M3 H3 pj s3 h3 => ⟨M3, μ3, ys', pj, s3, h3⟩
  · rintro H' ⟨M', μ', ys, hJ, s, hh⟩
    rw [hl] at hJ
    exact q ⟨D⟩ _ _ _ _ (je _ _ hJ D) (s1.trans s) hh rfl
theorem we_lcL {A : Enc α} (dg : α → List Slot → List Slot) (hw : ∀ x : α, WB X.K g (own.map (·.2)) (.val A x) (dg x))
    {P : List β → List Cell → Prop} (h : DE X iter δ μ fun (xs : List α) μ1 => ∃ J : Nat → List β → List Cell → Prop, J 0 [] μ1 ∧
      (∀ k x ys μ', xs[k]? = some x → J k ys μ' → Turns X scope elt ifs (dg x (wipeD δ (own.map (·.2)))) μ' (fun (y : β) μ3 => ys.length < 10000 ∧ J (k + 1) (ys ++ [y]) μ3) (fun μ3 => J (k + 1) ys μ3)) ∧ (∀ ys μ', J xs.length ys μ' → P ys μ')) :
    WE X.K (tLc (iList X.K (cE X iter)) g (ttOf X scope ifs) (cB X scope elt) (own.map (·.2))) δ μ P := fun M σ H E Q q => h M σ H E _ fun xs μ1 M1 v H1 p1 s1 hh1 r1 => by
  obtain ⟨J, j0, jh, je⟩ := p1
  obtain ⟨ad, vs, rfl, nm, rd, rp⟩ := r1
  have hl := rp.length
  have lt : ad < ad + 1 := Nat.lt_succ_self _
  refine ⟨ad, rfl, ⟨vs, .inl rd⟩, fun D hD => ?_⟩
  obtain ⟨s2, h2⟩ := new_cell (A := inferInstanceAs (Enc β)) (xs := ([] : List β)) hh1 hD .nil
  have E1 := E.step s1 hh1
  refine lc_list (xs := vs) (fun i H' => ∃ M' μ' ys, J i ys μ' ∧ Ste M1 μ1 H1 M' (μ' ++ [lst D ys]) H' ∧ Holds X.K M' (μ' ++ [lst D ys]) H') ⟨_, μ1, [], j0, s2, h2⟩ ?_ ?_ ?_
  · rintro i H' hi ⟨M', μ', ys, hJ, s, hh⟩
    rcases rd with rd | ⟨o, rd⟩
    · exact .inl (.inl (s.keep _ _ rd (.inl fun z => nm (hh1.inM _ z))))
    · exact .inl (.inr ⟨o, s.keep _ _ rd (.inr trivial)⟩)
  · rintro i y H' hi ⟨M', μ', ys, hJ, s, hh⟩
    have hi' : i < xs.length := by rw [← hl]; exact (List.getElem?_eq_some_iff.mp hi).1
    obtain ⟨y', e1, ry⟩ := paired_get rp (List.getElem?_eq_getElem hi')
    rw [hi] at e1; cases e1
    refine (hw xs[i]).run δ M' _ σ H' y (E1.step s hh) (Dl.tr (A := A) s hh1 ry) _ fun σ2 E2 ew => ⟨ew, ?_⟩
    exact turn_ok (J := fun ys μ3 => J (i + 1) ys μ3) (jh i _ ys μ' (List.getElem?_eq_getElem hi') hJ) s E2 fun ys' μ3 M3 H3 pj s3 h3 => ⟨M3, μ3, ys', pj, s3, h3⟩
  · rintro H' ⟨M', μ', ys, hJ, s, hh⟩
    rw [hl] at hJ
    obtain ⟨s3, h3, r3⟩ := freeze (μ' := []) hh
    rw [List.append_nil] at s3 h3
    exact q ys _ _ _ _ (je _ _ hJ) ((s1.trans s).trans s3) h3 r3
theorem we_lcTN {A : Enc α} (dg : α → List Slot → List Slot) (hw : ∀ x : α, WB X.K g (own.map (·.2)) (.val A x) (dg x))
    {P : Ref → List Cell → Prop} (h : DE X iter δ μ fun (xs : Tup α) μ1 => ∃ J : Nat → List β → List Cell → Prop, J 0 [] μ1 ∧
      (∀ k x ys μ', xs.l[k]? = some x → J k ys μ' → Turns X scope elt ifs (dg x (wipeD δ (own.map (·.2)))) μ' (fun (y : β) μ3 => ys.length < 10000 ∧ J (k + 1) (ys ++ [y]) μ3) (fun μ3 => J (k + 1) ys μ3)) ∧ (∀ ys μ', J xs.l.length ys μ' → ∀ D, P ⟨D⟩ (μ' ++ [lst D ys]))) :
    WE X.K (tLc (iTup X.K (cE X iter)) g (ttOf X scope ifs) (cB X scope elt) (own.map (·.2))) δ μ P := fun M σ H E Q q => h M σ H E _ fun xs μ1 M1 v H1 p1 s1 hh1 r1 => by
  obtain ⟨J, j0, jh, je⟩ := p1
  obtain ⟨ad, vs, rfl, rd, rp⟩ := r1
  have hl := rp.length
  refine ⟨ad, rfl, ⟨vs, rd⟩, fun D hD => ?_⟩
  obtain ⟨s2, h2⟩ := new_cell (A := inferInstanceAs (Enc β)) (xs := ([] : List β)) hh1 hD .nil
  have E1 := E.step s1 hh1
  refine lc_tup (xs := vs) (fun i H' => ∃ M' μ' ys, J i ys μ' ∧ Ste M1 μ1 H1 M' (μ' ++ [lst D ys]) H' ∧ Holds X.K M' (μ' ++ [lst D ys]) H') ⟨_, μ1, [], j0, s2, h2⟩ ?_ ?_ ?_
  · rintro i H' hi ⟨M', μ', ys, hJ, s, hh⟩
    exact sqT_keep s.keep rd
  · rintro i y H' hi ⟨M', μ', ys, hJ, s, hh⟩
    have hi' : i < xs.l.length := by rw [← hl]; exact (List.getElem?_eq_some_iff.mp hi).1
    obtain ⟨y', e1, ry⟩ := paired_get rp (List.getElem?_eq_getElem hi')
    rw [hi] at e1; cases e1
    refine (hw xs.l[i]).run δ M' _ σ H' y (E1.step s hh) (Dl.tr (A := A) s hh1 ry) _ fun σ2 E2 ew => ⟨ew, ?_⟩
    exact turn_ok (J := fun ys μ3 => J (i + 1) ys μ3) (jh i _ ys μ' (List.getElem?_eq_getElem hi') hJ) s E2 fun ys' μ3 M3 H3 pj s3 h3 => ⟨M3, μ3, ys', pj, s3, h3⟩
  · rintro H' ⟨M', μ', ys, hJ, s, hh⟩
    rw [hl] at hJ
    exact q ⟨D⟩ _ _ _ _ (je _ _ hJ D) (s1.trans s) hh rfl
theorem we_lcT {A : Enc α} (dg : α → List Slot → List Slot) (hw : ∀ x : α, WB X.K g (own.map (·.2)) (.val A x) (dg x))
    {P : List β → List Cell → Prop} (h : DE X iter δ μ fun (xs : Tup α) μ1 => ∃ J : Nat → List β → List Cell → Prop, J 0 [] μ1 ∧
      (∀ k x ys μ', xs.l[k]? = some x → J k ys μ' → Turns X scope elt ifs (dg x (wipeD δ (own.map (·.2)))) μ' (fun (y : β) μ3 => ys.length < 10000 ∧ J (k + 1) (ys ++ [y]) μ3) (fun μ3 => J (k + 1) ys μ3)) ∧ (∀ ys μ', J xs.l.length ys μ' → P ys μ')) :
    WE X.K (tLc (iTup X.K (cE X iter)) g (ttOf X scope ifs) (cB X scope elt) (own.map (·.2))) δ μ P := fun M σ H E Q q => h M σ H E _ fun xs μ1 M1 v H1 p1 s1 hh1 r1 => by
  obtain ⟨J, j0, jh, je⟩ := p1
  obtain ⟨ad, vs, rfl, rd, rp⟩ := r1
  have hl := rp.length
  refine ⟨ad, rfl, ⟨vs, rd⟩, fun D hD => ?_⟩
  obtain ⟨s2, h2⟩ := new_cell (A := inferInstanceAs (Enc β)) (xs := ([] : List β)) hh1 hD .nil
  have E1 := E.step s1 hh1
  refine lc_tup (xs := vs) (fun i H' => ∃ M' μ' ys, J i ys μ' ∧ Ste M1 μ1 H1 M' (μ' ++ [lst D ys]) H' ∧ Holds X.K M' (μ' ++ [lst D ys]) H') ⟨_, μ1, [], j0, s2, h2⟩ ?_ ?_ ?_
  · rintro i H' hi ⟨M', μ', ys, hJ, s, hh⟩
    exact sqT_keep s.keep rd
  · rintro i y H' hi ⟨M', μ', ys, hJ, s, hh⟩
    have hi' : i < xs.l.length := by rw [← hl]; exact (List.getElem?_eq_some_iff.mp hi).1
    obtain ⟨y', e1, ry⟩ := paired_get rp (List.getElem?_eq_getElem hi')
    rw [hi] at e1; cases e1
    refine (hw xs.l[i]).run δ M' _ σ H' y (E1.step s hh) (Dl.tr (A := A) s hh1 ry) _ fun σ2 E2 ew => ⟨ew, ?_⟩
    exact turn_ok (J := fun ys μ3 => J (i + 1) ys μ3) (jh i _ ys μ' (List.getElem?_eq_getElem hi') hJ) s E2 fun ys' μ3 M3 H3 pj s3 h3 => ⟨M3, μ3, ys', pj, s3, h3⟩
  · rintro H' ⟨M', μ', ys, hJ, s, hh⟩
    rw [hl] at hJ
    obtain ⟨s3, h3, r3⟩ := freeze (μ' := []) hh
    rw [List.append_nil] at s3 h3
    exact q ys _ _ _ _ (je _ _ hJ) ((s1.trans s).trans s3) h3 r3
theorem we_lcRN {i0 : Nat} (hi0 : i0 ∈ own.map (·.2))
    {P : Ref → List Cell → Prop} (h : DE X a δ μ fun (n : Int) μ1 => (n < 2 ^ 62 ∧ -(2 ^ 62) ≤ n) ∧ ∃ J : Nat → List β → List Cell → Prop, J 0 [] μ1 ∧
      (∀ (k : Nat) ys μ', (k : Int) < n → J k ys μ' → Turns X scope elt ifs ((wipeD δ (own.map (·.2))).set i0 (sl (k : Int))) μ' (fun (y : β) μ3 => ys.length < 10000 ∧ J (k + 1) (ys ++ [y]) μ3) (fun μ3 => J (k + 1) ys μ3)) ∧ (∀ ys μ', J n.toNat ys μ' → ∀ D, P ⟨D⟩ (μ' ++ [lst D ys]))) :
    WE X.K (tLc (iRng1 (tCons (cE X a) tNil)) (gName i0) (ttOf X scope ifs) (cB X scope elt) (own.map (·.2))) δ μ P := fun M σ H E Q q => h M σ H E _ fun n μ1 M1 v H1 p1 s1 hh1 r1 => by
  obtain ⟨⟨n1, n2⟩, J, j0, jh, je⟩ := p1
  cases r1
  refine ⟨n, rfl, n2, n1, fun D hD => ?_⟩
  obtain ⟨s2, h2⟩ := new_cell (A := inferInstanceAs (Enc β)) (xs := ([] : List β)) hh1 hD .nil
  have E1 := E.step s1 hh1
  refine lc_range (fun i H' => ∃ M' μ' ys, J i ys μ' ∧ Ste M1 μ1 H1 M' (μ' ++ [lst D ys]) H' ∧ Holds X.K M' (μ' ++ [lst D ys]) H') ⟨_, μ1, [], j0, s2, h2⟩ ?_ ?_
  · rintro i H' hi ⟨M', μ', ys, hJ, s, hh⟩
    refine (wb_name (s := sl (i : Int)) hi0).run δ M' _ σ H' _ (E1.step s hh) (by show V.int (0 + (i : Int)) = V.int i; rw [Int.zero_add]) _ fun σ2 E2 ew => ⟨ew, ?_⟩
    exact turn_ok (J := fun ys μ3 => J (i + 1) ys μ3) (jh i ys μ' (by omega) hJ) s E2 fun ys' μ3 M3 H3 pj s3 h3 => ⟨M3, μ3, ys', pj, s3, h3⟩
  · rintro H' ⟨M', μ', ys, hJ, s, hh⟩
    exact q ⟨D⟩ _ _ _ _ (je _ _ hJ D) (s1.trans s) hh rfl
theorem we_lcR {i0 : Nat} (hi0 : i0 ∈ own.map (·.2))
    {P : List β → List Cell → Prop} (h : DE X a δ μ fun (n : Int) μ1 => (n < 2 ^ 62 ∧ -(2 ^ 62) ≤ n) ∧ ∃ J : Nat → List β → List Cell → Prop, J 0 [] μ1 ∧
      (∀ (k : Nat) ys μ', (k : Int) < n → J k ys μ' → Turns X scope elt ifs ((wipeD δ (own.map (·.2))).set i0 (sl (k : Int))) μ' (fun (y : β) μ3 => ys.length < 10000 ∧ J (k + 1) (ys ++ [y]) μ3) (fun μ3 => J (k + 1) ys μ3)) ∧ (∀ ys μ', J n.toNat ys μ' → P ys μ')) :
    WE X.K (tLc (iRng1 (tCons (cE X a) tNil)) (gName i0) (ttOf X scope ifs) (cB X scope elt) (own.map (·.2))) δ μ P := fun M σ H E Q q => h M σ H E _ fun n μ1 M1 v H1 p1 s1 hh1 r1 => by
  obtain ⟨⟨n1, n2⟩, J, j0, jh, je⟩ := p1
  cases r1
  refine ⟨n, rfl, n2, n1, fun D hD => ?_⟩
  obtain ⟨s2, h2⟩ := new_cell (A := inferInstanceAs (Enc β)) (xs := ([] : List β)) hh1 hD .nil
  have E1 := E.step s1 hh1
  refine lc_range (fun i H' => ∃ M' μ' ys, J i ys μ' ∧ Ste M1 μ1 H1 M' (μ' ++ [lst D ys]) H' ∧ Holds X.K M' (μ' ++ [lst D ys]) H') ⟨_, μ1, [], j0, s2, h2⟩ ?_ ?_
  · rintro i H' hi ⟨M', μ', ys, hJ, s, hh⟩
    refine (wb_name (s := sl (i : Int)) hi0).run δ M' _ σ H' _ (E1.step s hh) (by show V.int (0 + (i : Int)) = V.int i; rw [Int.zero_add]) _ fun σ2 E2 ew => ⟨ew, ?_⟩
    exact turn_ok (J := fun ys μ3 => J (i + 1) ys μ3) (jh i ys μ' (by omega) hJ) s E2 fun ys' μ3 M3 H3 pj s3 h3 => ⟨M3, μ3, ys', pj, s3, h3⟩
  · rintro H' ⟨M', μ', ys, hJ, s, hh⟩
    obtain ⟨s3, h3, r3⟩ := freeze (μ' := []) hh
    rw [List.append_nil] at s3 h3
    exact q ys _ _ _ _ (je _ _ hJ) ((s1.trans s).trans s3) h3 r3
/-- the comprehensions as expressions, and stored at a name -/
theorem de_lcL {A : Enc α} (hc : X.calm = true) (hN : X.N.Nodup) (ok : BlkOk X.N X.env.scope scope own) (dg : α → List Slot → List Slot) (hg : ∀ (s : Shared) (H : Hp) (C : Addr) (cl : List (Str × Addr)) (fp : List Addr), PG (blk X scope s H C cl fp) tg g) (hw : ∀ x : α, WB X.K g (own.map (·.2)) (.val A x) (dg x)) (hl : ifs.length ≤ 1)
    {P : List β → List Cell → Prop} (h : DE X iter δ μ fun (xs : List α) μ1 => ∃ J : Nat → List β → List Cell → Prop, J 0 [] μ1 ∧
      (∀ k x ys μ', xs[k]? = some x → J k ys μ' → Turns X scope elt ifs (dg x (wipeD δ (own.map (·.2)))) μ' (fun (y : β) μ3 => ys.length < 10000 ∧ J (k + 1) (ys ++ [y]) μ3) (fun μ3 => J (k + 1) ys μ3)) ∧ (∀ ys μ', J xs.length ys μ' → P ys μ'))
    (hs : ∀ x, foldedSetIterable iter X.env x = pure x := by intro _; rfl) : DE X (.ListComp elt [⟨tg, iter, ifs, 0⟩] scope pos) δ μ P :=
  of_pe (pe_lc hc hN (pi_list (cE_pe iter)) ok hg (pts_of hl) cB_pe hs) (we_lcL dg hw h)
theorem de_lcT {A : Enc α} (hc : X.calm = true) (hN : X.N.Nodup) (ok : BlkOk X.N X.env.scope scope own) (dg : α → List Slot → List Slot) (hg : ∀ (s : Shared) (H : Hp) (C : Addr) (cl : List (Str × Addr)) (fp : List Addr), PG (blk X scope s H C cl fp) tg g) (hw : ∀ x : α, WB X.K g (own.map (·.2)) (.val A x) (dg x)) (hl : ifs.length ≤ 1)
    {P : List β → List Cell → Prop} (h : DE X iter δ μ fun (xs : Tup α) μ1 => ∃ J : Nat → List β → List Cell → Prop, J 0 [] μ1 ∧
      (∀ k x ys μ', xs.l[k]? = some x → J k ys μ' → Turns X scope elt ifs (dg x (wipeD δ (own.map (·.2)))) μ' (fun (y : β) μ3 => ys.length < 10000 ∧ J (k + 1) (ys ++ [y]) μ3) (fun μ3 => J (k + 1) ys μ3)) ∧ (∀ ys μ', J xs.l.length ys μ' → P ys μ'))
    (hs : ∀ x, foldedSetIterable iter X.env x = pure x := by intro _; rfl) : DE X (.ListComp elt [⟨tg, iter, ifs, 0⟩] scope pos) δ μ P :=
  of_pe (pe_lc hc hN (pi_tup (cE_pe iter)) ok hg (pts_of hl) cB_pe hs) (we_lcT dg hw h)
theorem de_lcR {i0 : Nat} {x0 : Str} {px pos' : Pos} (hc : X.calm = true) (hN : X.N.Nodup) (ok : BlkOk X.N X.env.scope scope own) (hi0 : i0 ∈ own.map (·.2)) (hg : ∀ (s : Shared) (H : Hp) (C : Addr) (cl : List (Str × Addr)) (fp : List Addr), PG (blk X scope s H C cl fp) (.Name x0 px) (gName i0)) (hl : ifs.length ≤ 1) (hm : X.mg "range" = none)
    {P : List β → List Cell → Prop} (h : DE X a δ μ fun (n : Int) μ1 => (n < 2 ^ 62 ∧ -(2 ^ 62) ≤ n) ∧ ∃ J : Nat → List β → List Cell → Prop, J 0 [] μ1 ∧
      (∀ (k : Nat) ys μ', (k : Int) < n → J k ys μ' → Turns X scope elt ifs ((wipeD δ (own.map (·.2))).set i0 (sl (k : Int))) μ' (fun (y : β) μ3 => ys.length < 10000 ∧ J (k + 1) (ys ++ [y]) μ3) (fun μ3 => J (k + 1) ys μ3)) ∧ (∀ ys μ', J n.toNat ys μ' → P ys μ'))
    (hgl : Gl X "range" := by rfl) (hs1 : starEach [a] X.env = [(false, eval a X.env)] := by rfl) (hs2 : starEach [a] X.env = (false, eval a X.env) :: starEach [] X.env := by rfl)
    (hs : ∀ x, foldedSetIterable (.Call (.Name "range" p) [a] [] pos') X.env x = pure x := by intro _; rfl) : DE X (.ListComp elt [⟨.Name x0 px, .Call (.Name "range" p) [a] [] pos', ifs, 0⟩] scope pos) δ μ P :=
  of_pe (pe_lc hc hN (pi_range1 hgl hm (pa_cons (cE_pe a) pa_nil hs2) hs1) ok hg (pts_of hl) cB_pe hs) (we_lcR hi0 h)
theorem de_lcRN {i0 : Nat} {x0 : Str} {px pos' : Pos} (hc : X.calm = true) (hN : X.N.Nodup) (ok : BlkOk X.N X.env.scope scope own) (hi0 : i0 ∈ own.map (·.2)) (hg : ∀ (s : Shared) (H : Hp) (C : Addr) (cl : List (Str × Addr)) (fp : List Addr), PG (blk X scope s H C cl fp) (.Name x0 px) (gName i0)) (hl : ifs.length ≤ 1) (hm : X.mg "range" = none)
    {P : Ref → List Cell → Prop} (h : DE X a δ μ fun (n : Int) μ1 => (n < 2 ^ 62 ∧ -(2 ^ 62) ≤ n) ∧ ∃ J : Nat → List β → List Cell → Prop, J 0 [] μ1 ∧
      (∀ (k : Nat) ys μ', (k : Int) < n → J k ys μ' → Turns X scope elt ifs ((wipeD δ (own.map (·.2))).set i0 (sl (k : Int))) μ' (fun (y : β) μ3 => ys.length < 10000 ∧ J (k + 1) (ys ++ [y]) μ3) (fun μ3 => J (k + 1) ys μ3)) ∧ (∀ ys μ', J n.toNat ys μ' → ∀ D, P ⟨D⟩ (μ' ++ [lst D ys])))
    (hgl : Gl X "range" := by rfl) (hs1 : starEach [a] X.env = [(false, eval a X.env)] := by rfl) (hs2 : starEach [a] X.env = (false, eval a X.env) :: starEach [] X.env := by rfl)
    (hs : ∀ x, foldedSetIterable (.Call (.Name "range" p) [a] [] pos') X.env x = pure x := by intro _; rfl) : DE X (.ListComp elt [⟨.Name x0 px, .Call (.Name "range" p) [a] [] pos', ifs, 0⟩] scope pos) δ μ P :=
  of_pe (pe_lc hc hN (pi_range1 hgl hm (pa_cons (cE_pe a) pa_nil hs2) hs1) ok hg (pts_of hl) cB_pe hs) (we_lcRN hi0 h)
section
variable {N B C : PN} {R : ρ → List Cell → Prop} {i : Nat} {y : Str} {py spos : Pos}
/-- x = [..]: the list is to change -/
theorem ds_lcLN {A : Enc α} (hc : X.calm = true) (hN : X.N.Nodup) (ok : BlkOk X.N X.env.scope scope own) (dg : α → List Slot → List Slot) (hg : ∀ (s : Shared) (H : Hp) (C : Addr) (cl : List (Str × Addr)) (fp : List Addr), PG (blk X scope s H C cl fp) tg g) (hw : ∀ x : α, WB X.K g (own.map (·.2)) (.val A x) (dg x)) (hl : ifs.length ≤ 1)
    (h : DE X iter δ μ fun (xs : List α) μ1 => ∃ J : Nat → List β → List Cell → Prop, J 0 [] μ1 ∧
      (∀ k x ys μ', xs[k]? = some x → J k ys μ' → Turns X scope elt ifs (dg x (wipeD δ (own.map (·.2)))) μ' (fun (y : β) μ3 => ys.length < 10000 ∧ J (k + 1) (ys ++ [y]) μ3) (fun μ3 => J (k + 1) ys μ3)) ∧ (∀ ys μ', J xs.length ys μ' → ∀ D, N (δ.set i (sl (Ref.mk D))) (μ' ++ [lst D ys])))
    (hsw : swapsWith (.ListComp elt [⟨tg, iter, ifs, 0⟩] scope pos) (some (.Name y py)) spos.line X.env = pure true) (hy : X.N[i]? = some y := by rfl) (hyl : X.env.scope.names.lookup y = some .local := by rfl)
    (hs : ∀ x, foldedSetIterable iter X.env x = pure x := by intro _; rfl) : DS X (.Assign [.Name y py] (.ListComp elt [⟨tg, iter, ifs, 0⟩] scope pos) spos) δ μ N R B C :=
  of_ps (ps_setLc hc hN hy hyl hsw (pi_list (cE_pe iter)) ok hg (pts_of hl) cB_pe hs) fun M σ H E D n r b c => we_lcLN (P := fun x μ' => N (δ.set i (sl x)) μ') dg hw h M σ H E _ fun x μ' M' v H' p s hh rr => n _ μ' M' _ H' p s ((E.step s hh).put rr)
/-- x = [..]: the list stays -/
theorem ds_lcL {A : Enc α} (hc : X.calm = true) (hN : X.N.Nodup) (ok : BlkOk X.N X.env.scope scope own) (dg : α → List Slot → List Slot) (hg : ∀ (s : Shared) (H : Hp) (C : Addr) (cl : List (Str × Addr)) (fp : List Addr), PG (blk X scope s H C cl fp) tg g) (hw : ∀ x : α, WB X.K g (own.map (·.2)) (.val A x) (dg x)) (hl : ifs.length ≤ 1)
    (h : DE X iter δ μ fun (xs : List α) μ1 => ∃ J : Nat → List β → List Cell → Prop, J 0 [] μ1 ∧
      (∀ k x ys μ', xs[k]? = some x → J k ys μ' → Turns X scope elt ifs (dg x (wipeD δ (own.map (·.2)))) μ' (fun (y : β) μ3 => ys.length < 10000 ∧ J (k + 1) (ys ++ [y]) μ3) (fun μ3 => J (k + 1) ys μ3)) ∧ (∀ ys μ', J xs.length ys μ' → N (δ.set i (sl ys)) μ'))
    (hsw : swapsWith (.ListComp elt [⟨tg, iter, ifs, 0⟩] scope pos) (some (.Name y py)) spos.line X.env = pure true) (hy : X.N[i]? = some y := by rfl) (hyl : X.env.scope.names.lookup y = some .local := by rfl)
    (hs : ∀ x, foldedSetIterable iter X.env x = pure x := by intro _; rfl) : DS X (.Assign [.Name y py] (.ListComp elt [⟨tg, iter, ifs, 0⟩] scope pos) spos) δ μ N R B C :=
  of_ps (ps_setLc hc hN hy hyl hsw (pi_list (cE_pe iter)) ok hg (pts_of hl) cB_pe hs) fun M σ H E D n r b c => we_lcL (P := fun ys μ' => N (δ.set i (sl ys)) μ') dg hw h M σ H E _ fun x μ' M' v H' p s hh rr => n _ μ' M' _ H' p s ((E.step s hh).put rr)
theorem ds_lcT {A : Enc α} (hc : X.calm = true) (hN : X.N.Nodup) (ok : BlkOk X.N X.env.scope scope own) (dg : α → List Slot → List Slot) (hg : ∀ (s : Shared) (H : Hp) (C : Addr) (cl : List (Str × Addr)) (fp : List Addr), PG (blk X scope s H C cl fp) tg g) (hw : ∀ x : α, WB X.K g (own.map (·.2)) (.val A x) (dg x)) (hl : ifs.length ≤ 1)
    (h : DE X iter δ μ fun (xs : Tup α) μ1 => ∃ J : Nat → List β → List Cell → Prop, J 0 [] μ1 ∧
      (∀ k x ys μ', xs.l[k]? = some x → J k ys μ' → Turns X scope elt ifs (dg x (wipeD δ (own.map (·.2)))) μ' (fun (y : β) μ3 => ys.length < 10000 ∧ J (k + 1) (ys ++ [y]) μ3) (fun μ3 => J (k + 1) ys μ3)) ∧ (∀ ys μ', J xs.l.length ys μ' → N (δ.set i (sl ys)) μ'))
    (hsw : swapsWith (.ListComp elt [⟨tg, iter, ifs, 0⟩] scope pos) (some (.Name y py)) spos.line X.env = pure true) (hy : X.N[i]? = some y := by rfl) (hyl : X.env.scope.names.lookup y = some .local := by rfl)
    (hs : ∀ x, foldedSetIterable iter X.env x = pure x := by intro _; rfl) : DS X (.Assign [.Name y py] (.ListComp elt [⟨tg, iter, ifs, 0⟩] scope pos) spos) δ μ N R B C :=
  of_ps (ps_setLc hc hN hy hyl hsw (pi_tup (cE_pe iter)) ok hg (pts_of hl) cB_pe hs) fun M σ H E D n r b c => we_lcT (P := fun ys μ' => N (δ.set i (sl ys)) μ') dg hw h M σ H E _ fun x μ' M' v H' p s hh rr => n _ μ' M' _ H' p s ((E.step s hh).put rr)
end
/-! ### types, equality, powers -/
end
/-- a kind whose values are of one built-in type -/
class Ty (α : Type) [Enc α] (n : outParam String) : Prop where
  ty : ∀ {K M H v} {x : α}, Enc.R K M H v x → TyX K H v (.type n)
instance : Ty Int "int" := ⟨fun h => by cases h; exact .base (.int _)⟩
instance : Ty Bool "bool" := ⟨fun h => by cases h; exact .base (.bl _)⟩
instance : Ty Str "str" := ⟨fun h => by cases h; exact .base (.str _)⟩
theorem ty_sqT {K : PySem.W.Frag} {H : Hp} {a : Addr} {xs : List V} (h : SqT K H a xs) : TyX K H (.ref a) (.type "tuple") := by
  rcases h with (h | ⟨o, h⟩) | ⟨o, its, n, h, c, _⟩
  · exact .base (.tup h)
  · exact .fTuple h
  · exact .kTuple h c
instance [Enc α] [Enc β] : Ty (α × β) "tuple" := ⟨fun h => by obtain ⟨a, v1, v2, rfl, s, _⟩ := h; exact ty_sqT s⟩
instance [Enc α] : Ty (Tup α) "tuple" := ⟨fun h => by obtain ⟨a, vs, rfl, s, _⟩ := h; exact ty_sqT s⟩
/-- data that == compares by what it stands for -/
class Deep (α : Type) [Enc α] where
  d : α → PyData
  dp : ∀ {K M H v} {x : α}, Enc.R K M H v x → Dp K H v (d x)
  n : Nat
  sh : ∀ x : α, (d x).canLay0 = true ∧ (d x).depth ≤ n
  eq : ∀ x y : α, PyData.eqv (d x) (d y) = true ↔ x = y
section
variable {X : Cx} {α β : Type} [Enc α] [Enc β] {e a b : Expr} {δ : List Slot} {μ : List Cell} {PB : Bool → List Cell → Prop} {pos p : Pos}
/-- isinstance(x, T), T a built-in type by its name -/
theorem de_isi {n T : String} {x : Str} [Ty α n] {p1 p2 : Pos} {r : Bool} (hk : kitB n T = some r) (hm : X.mg "isinstance" = none) (hm2 : X.mg x = none) (hv : bootBuiltins x = some (.type T)) (h : DE X a δ μ fun (_ : α) μ1 => PB r μ1)
    (hg : Gl X "isinstance" := by rfl) (hg2 : Gl X x := by rfl) (hn2 : x ≠ "__name__" := by decide) (hdb2 : (x == ("__debug__" : Str)) = false := by decide)
    (he : starEach [a, .Name x p2] X.env = (false, eval a X.env) :: starEach [.Name x p2] X.env := by rfl) (he2 : starEach [.Name x p2] X.env = (false, eval (.Name x p2) X.env) :: starEach [] X.env := by rfl) (hpl : (backTo pos (starEach [.Name x p2] X.env)).any (·.1) = false := by rfl) :
    DE X (.Call (.Name "isinstance" p1) [a, .Name x p2] [] pos) δ μ PB :=
  of_pe (pe_callB call_isi hg hm (by decide +kernel) (pa_cons (cE_pe a) (pa_cons (pe_bltn (v := .ty T) hg2 hm2 hv rfl hn2 hdb2) pa_nil he2) he) (by decide) (by decide) he hpl) fun M σ H E Q q => h M σ H E _ fun x μ1 M1 v1 H1 p1 s1 hh1 r1 =>
    ⟨v1, .ty T, _, _, r, rfl, .ty T, Ty.ty r1, kit_ty hk, q r μ1 M1 _ H1 p1 s1 hh1 rfl⟩
theorem de_eqD [D : Deep α] (hu : X.A.units + 64 < cLine) (hD : D.n ≤ 64 := by decide) (h : DE X a δ μ fun (x : α) μ1 => DE X b δ μ1 fun (y : α) μ2 => ∀ r : Bool, (r = true ↔ x = y) → PB r μ2) : DE X (.Compare a [.Eq] [b] pos) δ μ PB :=
  of_pe (pe_cmpR (op_eqD hu) (cE_pe a) (cE_pe b) (nomark b)) (we2 h (fun x μ1 p => p) fun x μ1 y μ2 _ p2 M H v w hh r1 r2 Q k => by
    have s : ∀ x : α, SeqAt.shaped (D.d x) = true := fun x => by
      unfold SeqAt.shaped
      rw [(D.sh x).1, Bool.true_and]
      exact decide_eq_true (Nat.le_trans (D.sh x).2 hD)
    exact ⟨_, _, D.dp r1, D.dp r2, s x, s y, k _ μ2 M _ H (p2 _ (D.eq x y)) Ste.refl hh rfl⟩)
theorem dt_eqD [D : Deep α] (hu : X.A.units + 64 < cLine) (hD : D.n ≤ 64 := by decide) (h : DE X a δ μ fun (x : α) μ1 => DE X b δ μ1 fun (y : α) μ2 => ∀ r : Bool, (r = true ↔ x = y) → PB r μ2) : DT X (.Compare a [.Eq] [b] pos) δ μ PB :=
  of_pt (pt_cmpR (op_eqD hu) (cE_pe a) (cE_pe b) (nomark b)) (wt2 h (fun x μ1 p => p) fun x μ1 y μ2 _ p2 M H v w hh r1 r2 Q k => by
    have s : ∀ x : α, SeqAt.shaped (D.d x) = true := fun x => by
      unfold SeqAt.shaped
      rw [(D.sh x).1, Bool.true_and]
      exact decide_eq_true (Nat.le_trans (D.sh x).2 hD)
    exact ⟨_, _, D.dp r1, D.dp r2, s x, s y, k _ μ2 M H (p2 _ (D.eq x y)) Ste.refl hh⟩)
theorem dt_neD [D : Deep α] (hu : X.A.units + 64 < cLine) (hD : D.n ≤ 64 := by decide) (h : DE X a δ μ fun (x : α) μ1 => DE X b δ μ1 fun (y : α) μ2 => ∀ r : Bool, (r = true ↔ x ≠ y) → PB r μ2) : DT X (.Compare a [.NotEq] [b] pos) δ μ PB :=
  of_pt (pt_cmpR (op_neD hu) (cE_pe a) (cE_pe b) (nomark b)) (wt2 h (fun x μ1 p => p) fun x μ1 y μ2 _ p2 M H v w hh r1 r2 Q k => by
    have s : ∀ x : α, SeqAt.shaped (D.d x) = true := fun x => by
      unfold SeqAt.shaped
      rw [(D.sh x).1, Bool.true_and]
      exact decide_eq_true (Nat.le_trans (D.sh x).2 hD)
    refine ⟨_, _, D.dp r1, D.dp r2, s x, s y, k _ μ2 M H (p2 _ ?_) Ste.refl hh⟩
    have e := D.eq x y
    cases q : PyData.eqv (D.d x) (D.d y) with
    | true => simp [q] at e; simp [e]
    | false => simp [q] at e; simp [e])
theorem de_neD [D : Deep α] (hu : X.A.units + 64 < cLine) (hD : D.n ≤ 64 := by decide) (h : DE X a δ μ fun (x : α) μ1 => DE X b δ μ1 fun (y : α) μ2 => ∀ r : Bool, (r = true ↔ x ≠ y) → PB r μ2) : DE X (.Compare a [.NotEq] [b] pos) δ μ PB :=
  of_pe (pe_cmpR (op_neD hu) (cE_pe a) (cE_pe b) (nomark b)) (we2 h (fun x μ1 p => p) fun x μ1 y μ2 _ p2 M H v w hh r1 r2 Q k => by
    have s : ∀ x : α, SeqAt.shaped (D.d x) = true := fun x => by
      unfold SeqAt.shaped
      rw [(D.sh x).1, Bool.true_and]
      exact decide_eq_true (Nat.le_trans (D.sh x).2 hD)
    refine ⟨_, _, D.dp r1, D.dp r2, s x, s y, k _ μ2 M _ H (p2 _ ?_) Ste.refl hh rfl⟩
    have e := D.eq x y
    cases q : PyData.eqv (D.d x) (D.d y) with
    | true => simp [q] at e; simp [e]
    | false => simp [q] at e; simp [e])
theorem de_pow {P : Int → List Cell → Prop} (h : DE X a δ μ fun (x : Int) μ1 => DE X b δ μ1 fun (y : Int) μ2 => CPow x y ∧ P (x ^ y.toNat) μ2) : DE X (.BinOp a .Pow b pos) δ μ P :=
  de_op op_pow (h.mono fun x μ1 h => h.mono fun y μ2 p => ⟨_, p.2, iiC (g := fun i j => i ^ j.toNat) p.1⟩)
end
instance : Deep Int where
  d x := .int x
  dp h := by cases h; exact .int _
  n := 0
  sh x := ⟨rfl, Nat.le_refl _⟩
  eq x y := by show (x == y) = true ↔ _; simp
instance [Enc α] [Enc β] [A : Deep α] [B : Deep β] : Deep (α × β) where
  d x := .tuple [A.d x.1, B.d x.2]
  dp h := by
    obtain ⟨a, v1, v2, rfl, s, r1, r2⟩ := h
    exact .tup s (.cons (A.dp r1) (.cons (B.dp r2) .nil))
  n := max A.n B.n + 1
  sh x := by
    have a := A.sh x.1
    have b := B.sh x.2
    refine ⟨by show (PyData.canLay0 (A.d x.1) && (PyData.canLay0 (B.d x.2) && true)) = true; rw [a.1, b.1]; rfl, ?_⟩
    have h1 := a.2
    have h2 := b.2
    show max (PyData.depth (A.d x.1)) (max (PyData.depth (B.d x.2)) 0) + 1 ≤ max A.n B.n + 1
    omega
  eq x y := by
    show (PyData.eqv (A.d x.1) (A.d y.1) && (PyData.eqv (B.d x.2) (B.d y.2) && true)) = true ↔ _
    rw [Bool.and_true, Bool.and_eq_true, A.eq, B.eq]
    exact ⟨fun h => Prod.ext h.1 h.2, fun h => by rw [h]; exact ⟨rfl, rfl⟩⟩
end Dl
namespace Dl
open PySem PySem.Spec PyProof.Rows L2
/-! ### the jar of drawn numbers -/
/-- the jar: its list at j, the great numbers' list at g -/
def JarC (j g : Addr) : Cell where
  foot := [j, g]
  holds := fun K M H => j ≠ g ∧ ∃ (gs : List Int) (a b c : Int), H j = some (.lst [.ref g, .int a, .int b, .int c]) ∧ H g = some (.lst (gs.map V.int))
  mono := fun k h => by
    obtain ⟨ne, gs, a, b, c, h1, h2⟩ := h
    exact ⟨ne, gs, a, b, c, k _ _ h1 (.inl (by simp)), k _ _ h2 (.inl (by simp))⟩
  set := fun _ h => h
/-- a draw below many: any number from 0 on -/
def phDraw : Pm Int := fun as μ P => ∃ (j g : Addr) (many : Int), as = [sl (Ref.mk j), sl many] ∧ μ = [JarC j g] ∧ (0 < many ∧ many.natAbs.log2 < 9000) ∧ ∀ d : Int, 0 ≤ d → d < many → P d [JarC j g]
section
variable {P : Program} {w : World} {K : PySem.W.Frag} {mg : Str → Option Value} {base : Heap}
theorem jar_ste {M : AS} {H H' : Hp} {j g : Addr} (h : Holds K M [JarC j g] H) (gs : List Int) (a b c : Int) (hj : H' j = some (.lst [.ref g, .int a, .int b, .int c])) (hg : H' g = some (.lst (gs.map V.int))) (ne : j ≠ g) (k : ∀ b o, H b = some o → b ≠ j → b ≠ g → H' b = some o) :
    Ste M [JarC j g] H M [JarC j g] H' ∧ Holds K M [JarC j g] H' := by
  have fj : ∀ b, foots [JarC j g] b ↔ b = j ∨ b = g := fun b => by rw [foots_one]; show b ∈ [j, g] ↔ _; simp
  obtain ⟨_, gs0, a0, b0, c0, e1, e2⟩ := h.cell _ (List.mem_singleton.mpr rfl)
  have al : ∀ b, H b ≠ none → H' b ≠ none := fun b n => by
    by_cases h1 : b = j
    · rw [h1, hj]; exact fun z => nomatch z
    · by_cases h2 : b = g
      · rw [h2, hg]; exact fun z => nomatch z
      · cases e : H b with
        | none => exact absurd e n
        | some o => rw [k b o e h1 h2]; exact fun z => nomatch z
  refine ⟨⟨fun b o e cc => ?_, al, fun b z => .inl z, fun b z => .inl z, fun b z _ _ => z⟩, ⟨fun d hd => ?_, h.inM, fun b z => al b (h.al b z), h.dj⟩⟩
  · rcases cc with cc | cc
    · exact k b o e (fun z => cc ((fj b).mpr (.inl z))) (fun z => cc ((fj b).mpr (.inr z)))
    · refine k b o e (fun z => ?_) (fun z => ?_)
      · rw [z] at e; rw [e1] at e; cases e; exact cc.elim
      · rw [z] at e; rw [e2] at e; cases e; exact cc.elim
  · rw [List.mem_singleton.mp hd]
    exact ⟨ne, gs, a, b, c, hj, hg⟩
end
section
variable {X : Cx} {es : List Expr} {δ : List Slot} {μ : List Cell} {pos : Pos}
/-- [great, 0, mix, 0]: a jar is made -/
theorem de_jarLit {P : Ref → List Cell → Prop} (h : DA X es δ μ fun ss μ1 => ∃ (g : Addr) (gs : List Int) (a b c : Int), ss = [sl (Ref.mk g), sl a, sl b, sl c] ∧ μ1 = [lst g gs] ∧ ∀ j, P ⟨j⟩ [JarC j g]) : DE X (.List es pos) δ μ P :=
  of_pe (pe_lst (cA_pa es)) fun M σ H E Q q => h M σ H E _ fun ss μ1 M1 vs H1 p1 s1 hh1 r1 => by
    obtain ⟨g, gs, a, b, c, rfl, rfl, p⟩ := p1
    cases r1 with
    | cons r0 r1 => cases r1 with
      | cons ra r1 => cases r1 with
        | cons rb r1 => cases r1 with
          | cons rc r1 =>
            cases r1; cases r0; cases ra; cases rb; cases rc
            refine ⟨by show 4 ≤ sizeLine; decide, fun j hj => ?_⟩
            obtain ⟨ws, eg, rg⟩ := hh1.cell _ (List.mem_singleton.mpr rfl)
            have gj : g ≠ j := ne_of_none eg hj
            have ew : ws = gs.map V.int := by
              have : ∀ {ws : List V} {gs : List Int}, Paired (Enc.R X.K M1 H1) ws gs → ws = gs.map V.int := by
                intro ws gs r
                induction r with
                | nil => rfl
                | cons r t ih => cases r; rw [ih]; rfl
              exact this rg
            have mg : M1 g := hh1.inM g ⟨_, List.mem_singleton.mpr rfl, by show g ∈ [g]; simp⟩
            have fj : ∀ x, foots [JarC j g] x ↔ x = j ∨ x = g := fun x => by rw [foots_one]; show x ∈ [j, g] ↔ _; simp
            have al : ∀ x, H1 x ≠ none → upd H1 j (.lst [.ref g, .int a, .int b, .int c]) x ≠ none := fun x n => by
              by_cases e : x = j
              · rw [e, upd_same]; exact fun z => nomatch z
              · rw [upd_ne e]; exact n
            refine q ⟨j⟩ _ (fun x => M1 x ∨ x = j) _ _ (p j) (s1.trans ⟨fun x o e _ => by rw [upd_ne (ne_of_none e hj)]; exact e, al, fun x z => z.imp id fun e => by rw [e]; exact hj, fun x z => ?_, fun x z _ _ => .inl z⟩)
              ⟨fun d hd => ?_, fun x z => ?_, fun x z => ?_, List.pairwise_singleton _ _⟩ rfl
            · rcases (fj x).mp z with z | z
              · rw [z]; exact .inr hj
              · rw [z]; exact .inl ⟨_, List.mem_singleton.mpr rfl, by show g ∈ [g]; simp⟩
            · rw [List.mem_singleton.mp hd]
              exact ⟨gj.symm, gs, a, b, c, upd_same, by rw [upd_ne gj, eg, ew]⟩
            · rcases (fj x).mp z with z | z
              · exact .inr z
              · rw [z]; exact .inl mg
            · rcases z with z | z
              · exact al x (hh1.al x z)
              · rw [z, upd_same]; exact fun q => nomatch q
end
theorem un_of {A : Around} {k : Nat} (hr : Room k A) : A.units + 64 < cLine := hr.units
section
variable {X : Cx} {α β γ ρ : Type} [Enc α] [Enc β] [Enc γ] [Enc ρ] {e a b : Expr} {es : List Expr} {δ : List Slot} {μ : List Cell} {P : Int → List Cell → Prop} {PB : Bool → List Cell → Prop}
  {N B C : PN} {R : ρ → List Cell → Prop} {st : Stmt} {sts s1 s2 : List Stmt} {pos p : Pos}
theorem DS.mid (Mid : PN) (h : DS X st δ μ Mid R B C) (k : ∀ δ' μ', Mid δ' μ' → N δ' μ') : DS X st δ μ N R B C := h.mono k (fun _ _ h => h) (fun _ _ h => h) (fun _ _ h => h)
/-- // by a divisor of either sign, below 2 ^ 9000 -/
def CDivZ (_ j : Int) : Prop := j ≠ 0 ∧ j.natAbs.log2 < 9000
theorem op_fdivZ : OpR X (binaryOp .FloorDiv) (rI CDivZ fun i j => .int (i.fdiv j)) := opI fun _ _ _ _ _ _ _ hc q => floordiv_int hc.1 q (.inl (PyProof.noPylong_of_log2 hc.2))
theorem de_divZ (h : DE X a δ μ fun (x : Int) μ1 => DE X b δ μ1 fun (y : Int) μ2 => CDivZ x y ∧ P (x.fdiv y) μ2) : DE X (.BinOp a .FloorDiv b pos) δ μ P :=
  de_op op_fdivZ (h.mono fun x μ1 h => h.mono fun y μ2 p => ⟨_, p.2, iiC (g := fun i j => i.fdiv j) p.1⟩)
theorem de_shl (h : DE X a δ μ fun (x : Int) μ1 => DE X b δ μ1 fun (y : Int) μ2 => CShl x y ∧ P (x * 2 ^ y.toNat) μ2) : DE X (.BinOp a .LShift b pos) δ μ P :=
  de_op op_shlW (h.mono fun x μ1 h => h.mono fun y μ2 p => ⟨_, p.2, iiC (g := fun i j => i * 2 ^ j.toNat) p.1⟩)
theorem de_bits {apos : Pos} (h : DE X a δ μ fun (x : Int) μ1 => P (Builtin.Int.intBits x : Nat) μ1) (hbase : attributeBase a "bit_length" X.env (eval a X.env) = eval a X.env := by rfl) (hline : (apos.endLine == pos.line) = true := by rfl) :
    DE X (.Call (.Attribute a "bit_length" apos) [] [] pos) δ μ P :=
  of_pe (pe_bits (cE_pe a) hbase hline) fun M σ H E Q q => h M σ H E _ fun x μ1 M1 v1 H1 p1 s1 hh1 r1 => ⟨x, r1, q _ μ1 M1 _ H1 p1 s1 hh1 rfl⟩
def rIsqrt : List V → Hp → VK → Prop := fun vs H Q => ∃ a : Int, vs = [.int a] ∧ (0 ≤ a ∧ a.toNat.log2 / 30 + 1 ≤ 450) ∧ Q (.int ((Float64.isqrt a.toNat : Nat) : Int)) H
theorem cr_isqrt : CallR X (.builtin "math.isqrt") rIsqrt := by
  intro pins s σ H vs us Q I r h
  obtain ⟨a, rfl, ⟨h0, h1⟩, q⟩ := h
  cases r with
  | cons r1 r =>
    cases r
    obtain ⟨t, rfl⟩ := r1
    exact call_function_meets PySem.W.MGF.kind_isqrt PySem.W.MGF.plain_isqrt PySem.W.MGF.entry_isqrt (PySem.W.MGF.args_isqrt _) (PySem.W.mg_run_isqrt a t (by omega) (by omega) (by omega)).meets ⟨.int _, H, I.tok _, ⟨_, rfl⟩, q⟩
theorem de_isqrt {x : Str} (hm : X.mg x = some (.builtin "math.isqrt")) (h : DE X a δ μ fun (i : Int) μ1 => (0 ≤ i ∧ i.toNat.log2 / 30 + 1 ≤ 450) ∧ P ((Float64.isqrt i.toNat : Nat) : Int) μ1) (hg : Gl X x := by rfl) (hdb : (x == ("__debug__" : Str)) = false := by decide)
    (he : starEach [a] X.env = (false, eval a X.env) :: starEach [] X.env := by rfl) (hpl : (backTo pos (starEach [] X.env)).any (·.1) = false := by rfl) : DE X (.Call (.Name x p) [a] [] pos) δ μ P :=
  de_cbf cr_isqrt hm (da_cons (h.mono fun i μ1 q => da_nil ⟨_, q.2, fun M H vs r Q k => by
    cases r with
    | cons r1 r =>
      cases r
      cases r1
      exact ⟨i, rfl, q.1, k _ rfl⟩⟩) he) hg hdb he hpl
/-- x = y = e -/
theorem ds_set2 {A : Enc α} {i j : Nat} {x y : Str} {px py : Pos} (hN : X.N.Nodup) (h : @DE X α A e δ μ fun v μ' => N ((δ.set i (.val A v)).set j (.val A v)) μ') (hi : X.N[i]? = some x := by rfl) (hj : X.N[j]? = some y := by rfl)
    (hx : Loc X.env.scope x := by first | exact Or.inl rfl | exact Or.inr rfl) (hy : Loc X.env.scope y := by first | exact Or.inl rfl | exact Or.inr rfl)
    (hf : X.fn x = true ∨ X.env.scope.names.lookup x = some .local := by first | exact .inl rfl | exact .inr rfl) (hf2 : X.fn y = true ∨ X.env.scope.names.lookup y = some .local := by first | exact .inl rfl | exact .inr rfl)
    (ha : (assignEach [.Name x px, .Name y py] X.env).map (·.2) = [assign (.Name x px) X.env, assign (.Name y py) X.env] := by rfl) (hw : swappedStores [.Name x px, .Name y py] e X.env = pure none := by rfl) :
    DS X (.Assign [.Name x px, .Name y py] e pos) δ μ N R B C :=
  of_ps (ps_asg2 (cE_pe e) (pg_name (i := i) hN hi hx hf) (pg_name (i := j) hN hj hy hf2) ha hw) fun M σ H E D n r b c => h M σ H E _ fun v μ' M' w H' p s hh rr => n _ μ' M' _ H' p s (((E.step s hh).put (s := .val A v) rr).put (s := .val A v) rr)
/-- x, y = e, e a tuple of two -/
theorem ds_unpack2 {A : Enc α} {A2 : Enc β} {i j : Nat} {x y : Str} {px py pt : Pos} {kt : _} (hc : X.calm = true) (hN : X.N.Nodup) (h : @DE X (α × β) (@instEncProd α β A A2) e δ μ fun v μ' => N ((δ.set i (.val A v.1)).set j (.val A2 v.2)) μ')
    (hs : swapsWithSole [.Tuple [.Name x px, .Name y py] kt pt] e pos.line X.env = pure false := by rfl) (hw : swappedStores [.Tuple [.Name x px, .Name y py] kt pt] e X.env = pure none := by rfl)
    (h1 : (assignEach [.Tuple [.Name x px, .Name y py] kt pt] X.env).map (·.2) = [assign (.Tuple [.Name x px, .Name y py] kt pt) X.env] := by rfl)
    (hi : X.N[i]? = some x := by rfl) (hj : X.N[j]? = some y := by rfl)
    (hx : Loc X.env.scope x := by first | exact Or.inl rfl | exact Or.inr rfl) (hy : Loc X.env.scope y := by first | exact Or.inl rfl | exact Or.inr rfl)
    (hf : X.fn x = true ∨ X.env.scope.names.lookup x = some .local := by first | exact .inl rfl | exact .inr rfl) (hf2 : X.fn y = true ∨ X.env.scope.names.lookup y = some .local := by first | exact .inl rfl | exact .inr rfl)
    (hn : (assignEach [.Name x px, .Name y py] X.env).length = 2 := by rfl) (hst : (assignEach [.Name x px, .Name y py] X.env).findIdx? (·.1) = none := by rfl)
    (hs1 : (assignEach [.Name x px, .Name y py] X.env).map (·.2) = assign (.Name x px) X.env :: (assignEach [.Name y py] X.env).map (·.2) := by rfl) (hs2 : (assignEach [.Name y py] X.env).map (·.2) = assign (.Name y py) X.env :: (assignEach [] X.env).map (·.2) := by rfl) :
    DS X (.Assign [.Tuple [.Name x px, .Name y py] kt pt] e pos) δ μ N R B C :=
  of_ps (ps_asg (cE_pe e) (pg_tup hc (pgs_cons (pg_name (i := i) hN hi hx hf) (pgs_cons (pg_name (i := j) hN hj hy hf2) pgs_nil hs2) hs1) hn hst) hs hw h1) fun M σ H E D n r b c => h M σ H E _ fun v μ' M' w H' p s hh rr =>
    (wg_pair (A := A) (B := A2)).run M' μ' σ H' w (E.step s hh) rr _ fun σ' E' => n _ μ' M' σ' H' p s E'
/-- a module's constant that is an int -/
theorem de_globI {x : Str} {i : Int} {t : Tok} {pos : Pos} (hm : X.mg x = some (.int i t)) (q : P i μ) (hg : Gl X x := by rfl) (hd : (x == ("__debug__" : Str)) = false := by decide) : DE X (.Name x pos) δ μ P :=
  de_c (pe_glob (v := .int i) hg hm ⟨t, rfl⟩ hd) (fun _ _ _ => rfl) q
end
end Dl
namespace Dl
open PySem PySem.Spec PyProof.Rows L2
/-! ### the script -/
structure Scr where
  l : List Int
instance : Enc Scr where
  R K M H v x := ∃ a, v = .ref a ∧ ((∃ o, H a = some (.frz o (.lst (x.l.map V.int)))) ∨ ∀ H, SqL K H a (x.l.map V.int))
  mono k h := by
    obtain ⟨a, e, s⟩ := h
    exact ⟨a, e, s.imp (fun ⟨o, s⟩ => ⟨o, k _ _ s (.inr trivial)⟩) id⟩
  set k h := h
theorem scr_sq {K : PySem.W.Frag} {H : Hp} {a : Addr} {xs : List V} (h : (∃ o, H a = some (.frz o (.lst xs))) ∨ ∀ H, SqL K H a xs) : SqL K H a xs := h.elim (fun ⟨o, s⟩ => .inl (.inr ⟨o, s⟩)) fun s => s H
theorem scr_of {K : PySem.W.Frag} {M : AS} {H : Hp} {a : Addr} {ns : List Int} (hO : Only H) (h : SqL K H a (ns.map V.int)) : Enc.R K M H (.ref a) (Scr.mk ns) := by
  refine ⟨a, rfl, ?_⟩
  rcases h with (h | h) | h
  · rcases hO a with e | ⟨o, xs, e⟩
    · rw [e] at h; cases h
    · rw [e] at h; cases h
  · exact .inl h
  · exact .inr fun _ => .inr h
theorem paired_ints {K : PySem.W.Frag} {M : AS} {H : Hp} : ∀ xs : List Int, Paired (Enc.R K M H) (xs.map V.int) xs
  | [] => .nil
  | x :: xs => .cons rfl (paired_ints xs)
theorem cut_to (xs : List V) (n : Nat) : cutV xs none (some (n : Int)) = xs.take n := by
  unfold cutV
  rw [HT.sIx_none, HT.sIx_nat, List.drop_zero, Nat.sub_zero]
  rcases Nat.le_total n xs.length with h | h
  · rw [Nat.min_eq_left h]
  · rw [Nat.min_eq_right h, List.take_of_length_le (Nat.le_refl _), List.take_of_length_le h]
section
variable {X : Cx} {a : Expr} {δ : List Slot} {μ : List Cell} {pos p2 p3 : Pos} {j : _}
theorem de_sliceScr {n : Nat} {P : List Int → List Cell → Prop} (h : DE X a δ μ fun (x : Scr) μ1 => P (x.l.take n) μ1) : DE X (.Subscript a (.Slice none (some (.Constant (.int (n : Int)) j p3)) none p2) pos) δ μ P :=
  of_pe (pe_slice sl_list (cE_pe a) po_none (po_some pe_int)) fun M σ H E Q q => h M σ H E _ fun x μ1 M1 v1 H1 p1 s1 hh1 r1 => by
    obtain ⟨ad, rfl, s⟩ := r1
    refine ⟨(n : Int), rfl, ad, _, rfl, scr_sq s, fun p' hp => ?_⟩
    have s3 := foot_alloc hh1 hp (.lst (cutV (x.l.map V.int) none (some (n : Int))))
    refine q _ μ1 M1 _ _ p1 (s1.trans s3) (hh1.alloc hp _) ⟨p', _, rfl, fun z => hh1.al _ z hp, .inl upd_same, ?_⟩
    rw [cut_to, ← List.map_take]
    exact paired_ints _
end
/-- the law's own promise: a script in, True out -/
def phLaw : Pm Bool := fun as μ P => ∃ s : Scr, as = [sl s] ∧ μ = [] ∧ ∀ μ', P true μ'
theorem law_end {K : PySem.W.Frag} {H : Hp} {a : Addr} {ns : List Int} {E : XK} (hO : Only H) (h : SqL K H a (ns.map V.int)) : spO K phLaw [.ref a] H (fun v _ => v = .bl true) E :=
  ⟨fun _ => False, [], [sl (Scr.mk ns)], fun x _ => x = true, ⟨fun _ h => (nomatch h), fun _ ⟨_, h, _⟩ => (nomatch h), fun _ h => h.elim, .nil⟩, .cons (scr_of hO h) .nil, ⟨_, rfl, rfl, fun _ => rfl⟩, fun x μ' M' v H' e s h r => by
    cases e
    exact r⟩
/-! ### defs by what stands behind the top -/
/-- a def that may be called: its promise, where it stands, how its arguments bind -/
structure Cal (P : Program) (w : World) (K : PySem.W.Frag) (mg : Str → Option Value) (base : Heap) (x : Str) (k : Nat) (ps : List Str) {ρ : Type} [Enc ρ] (Φ : Pm ρ) : Prop where
  ex : ∃ (f : Addr) (fd : FuncData), FnOk P w K mg base CX0 k f fd ps (spO K Φ) ∧ mg x = some (.ref f) ∧ PySem.W.keepIn K (.ref f) = true ∧ Binds K fd ps []
/-- a def of the text: not yet proved -/
structure Dfn (K : PySem.W.Frag) (mg : Str → Option Value) (x : Str) (st : Stmt) (ps : List Str) : Prop where
  ex : ∃ (f : Addr) (fd : FuncData) (dvs : List V), FunD K x x (defArgs st) (defBody st) (defScope st) dvs [] f fd ∧ mg x = some (.ref f) ∧ Binds K fd ps []
section
variable {P : Program} {w : World} {K : PySem.W.Frag} {mg : Str → Option Value} {base : Heap} {ρ : Type} [Enc ρ] {x : Str} {st : Stmt} {ps N : List Str} {Φ : Pm ρ} {k : Nat}
abbrev cxD (P : Program) (w : World) (K : PySem.W.Frag) (mg : Str → Option Value) (base : Heap) (N : List Str) (qual : Str) (st : Stmt) (f : Addr) (cdv : Value) (A : Around) (outer : List Env) (s : Shared) (H : Hp) (E : XK) : Cx := (cxOf CX0 P w K mg base N qual (defScope st) f cdv A outer s H E).nox
theorem fnD_ok {dvs : List V} {f : Addr} {fd : FuncData} (F : FunD K x x (defArgs st) (defBody st) (defScope st) dvs [] f fd) (S : FnScope N ps (defScope st)) (len : ∀ as μ P, Φ as μ P → as.length = ps.length)
    (h : ∀ (f : Addr) (cdv : Value) (A : Around) (outer : List Env) (s : Shared) (H : Hp) (E : XK), Room k (A.deeper (envOfC x (defScope st) s.heap.objs.size f cdv)) → ∀ as μ Pd, Φ as μ Pd →
      DB (cxD P w K mg base N x st f cdv A outer s H E) (defBody st) (as ++ List.replicate (N.length - as.length) .any) μ (fun _ μ' => ∃ x : ρ, (∀ K M H, Enc.R K M H .non x) ∧ Pd x μ') Pd (fun _ _ => False) (fun _ _ => False)) :
    FnOk P w K mg base CX0 (k + 1) f fd ps (spO K Φ) := by
  refine F.ok S (fun vs H Q E h => ?_) (fun cdv A outer s H vs Q E hr hsp => ?_)
  · obtain ⟨M, μ, as, Pd, _, r, hp, _⟩ := h
    rw [r.length]; exact len _ _ _ hp
  · obtain ⟨M, μ, as, Pd, hh, r, hp, q⟩ := hsp
    refine ⟨_, (cSs_pss _).nox, h f cdv A outer s H E hr as μ Pd hp M _ H (start_ok hh r) _ (fun δ' μ' M' σ' H' n s' E' => ?_) q (fun _ _ _ _ _ z => z.elim) (fun _ _ _ _ _ z => z.elim)⟩
    obtain ⟨x, hx, p⟩ := n
    exact q x μ' M' .non H' p s' E'.h (hx _ _ _)
theorem Dfn.cal (D : Dfn K mg x st ps) (S : FnScope N ps (defScope st)) (len : ∀ as μ P, Φ as μ P → as.length = ps.length)
    (h : ∀ (f : Addr) (cdv : Value) (A : Around) (outer : List Env) (s : Shared) (H : Hp) (E : XK), Room k (A.deeper (envOfC x (defScope st) s.heap.objs.size f cdv)) → ∀ as μ Pd, Φ as μ Pd →
      DB (cxD P w K mg base N x st f cdv A outer s H E) (defBody st) (as ++ List.replicate (N.length - as.length) .any) μ (fun _ μ' => ∃ x : ρ, (∀ K M H, Enc.R K M H .non x) ∧ Pd x μ') Pd (fun _ _ => False) (fun _ _ => False)) :
    Cal P w K mg base x (k + 1) ps Φ := by
  obtain ⟨f, fd, dvs, F, hm, hb⟩ := D.ex
  exact ⟨f, fd, fnD_ok F S len h, hm, F.kp, hb⟩
theorem Cal.mono {j : Nat} (c : Cal P w K mg base x k ps Φ) (h : k ≤ j) : Cal P w K mg base x j ps Φ := by
  obtain ⟨f, fd, F, r⟩ := c.ex
  exact ⟨f, fd, F.mono h, r⟩
end
section
variable {X : Cx} {ρ : Type} [Enc ρ] {e : Expr} {es : List Expr} {δ : List Slot} {μ : List Cell} {P : ρ → List Cell → Prop} {k : Nat} {ps : List Str} {Φ : Pm ρ} {x : Str} {p pos : Pos}
theorem de_c1 (c : Cal X.prog X.w X.K X.mg X.base x k ps Φ) {k' : Nat} (hr : Room k' X.A) (hk : k ≤ k')
    (h : DA X (e :: es) δ μ fun as μ1 => ∃ μc μr, Parts μ1 μc μr ∧ Φ as μc fun y μ' => P y (μ' ++ μr)) (hg : Gl X x := by rfl) (hdb : (x == ("__debug__" : Str)) = false := by decide)
    (he : starEach (e :: es) X.env = (false, eval e X.env) :: starEach es X.env := by rfl) (hpl : (backTo pos (starEach es X.env)).any (·.1) = false := by rfl) : DE X (.Call (.Name x p) (e :: es) [] pos) δ μ P := by
  obtain ⟨f, fd, F, hm, hkp, hb⟩ := c.ex
  exact de_call F (hr.mono hk) hm hkp hb h hg hdb he hpl
end
end Dl
namespace Dl
open PySem PySem.Spec PyProof.Rows L2 He
/-! ### the facts of a top: built-in functions by name too -/
def obsZ (bi : List (Str × String)) (fa : List Fa) (fn : List DefD) (K : PySem.W.Frag) : AlD := ((bi.all fun q => eqO (PySem.W.nsIn K mainGlobals q.1) (some (some (.builtin q.2)))) && (obsD fa fn K).1, (obsD fa fn K).2)
def SaysZ (bi : List (Str × String)) (fa : List Fa) (fn : List DefD) (K : PySem.W.Frag) : Prop := obsZ bi fa fn K = valD fn
def obsZG (n : Nat) (bi : List (Str × String)) (fa : List Fa) (fn : List DefD) (g : Addr → Option Obj) : AlD := obsZ bi fa fn (frG g (asD g n))
def hookZ (n : Nat) (bi : List (Str × String)) (fa : List Fa) (fn : List DefD) : PySem.W.Hook where
  α := AlD
  obs := fun s => obsZG n bi fa fn s.heap.get?
  val := fun _ => valD fn
  says := fun _ h => ∃ K : PySem.W.Frag, K.In h ∧ SaysZ bi fa fn K
  of := fun _ _ e => ⟨_, frG_in, e⟩
  keeps := fun _ _ _ ⟨K, hK, c⟩ k => ⟨K, PySem.W.Frag.In.keeps hK k, c⟩
theorem obsZG_eq {n : Nat} {bi : List (Str × String)} {fa : List Fa} {fn : List DefD} {g : Addr → Option Obj} {s : Shared} (h : ∀ a, g a = s.heap.get? a) : obsZG n bi fa fn g = (hookZ n bi fa fn).obs s := by
  have e : g = s.heap.get? := funext h
  rw [e] <;> rfl
section
variable {bi : List (Str × String)} {fa : List Fa} {fn : List DefD} {K : PySem.W.Frag}
theorem SaysZ.saysD (c : SaysZ bi fa fn K) : SaysD fa fn K := by
  have h1 : ((bi.all fun q => eqO (PySem.W.nsIn K mainGlobals q.1) (some (some (.builtin q.2)))) && (obsD fa fn K).1) = true := congrArg (fun z : AlD => z.1) c
  have h2 : (obsD fa fn K).2 = fn.map DefD.val := congrArg (fun z : AlD => z.2) c
  exact Prod.ext (ba h1).2 h2
theorem SaysZ.blt (c : SaysZ bi fa fn K) (i : Nat) {q : Str × String} (h : bi[i]? = some q := by rfl) : PySem.W.nsIn K mainGlobals q.1 = some (some (.builtin q.2)) := by
  have h1 : ((bi.all fun q => eqO (PySem.W.nsIn K mainGlobals q.1) (some (some (.builtin q.2)))) && (obsD fa fn K).1) = true := congrArg (fun z : AlD => z.1) c
  exact eqO_ok (List.all_eq_true.mp (ba h1).1 q (List.mem_of_getElem? h))
end
end Dl
namespace K48
open PySem PySem.Spec PyProof.Rows L2 Dl
def topS (i : Nat) : Stmt := PySem.Challenge.pw_leastinbox_k48_roots_next_to_exact.main.body.getD i (.Pass ⟨0, 0, 0, 0⟩)
abbrev s_ratio : Stmt := topS 2
theorem sc_ratio : FnScope ["top", "bottom", "common"] ["top", "bottom"] (defScope s_ratio) := ⟨rfl, rfl, rfl, by decide +kernel, rfl, by decide +kernel, by decide +kernel⟩
abbrev s_negate : Stmt := topS 3
theorem sc_negate : FnScope ["one"] ["one"] (defScope s_negate) := ⟨rfl, rfl, rfl, by decide +kernel, rfl, by decide +kernel, by decide +kernel⟩
abbrev s_power : Stmt := topS 4
theorem sc_power : FnScope ["one", "count", "top", "bottom", "_"] ["one", "count"] (defScope s_power) := ⟨rfl, rfl, rfl, by decide +kernel, rfl, by decide +kernel, by decide +kernel⟩
abbrev s_less : Stmt := topS 5
theorem sc_less : FnScope ["one", "two"] ["one", "two"] (defScope s_less) := ⟨rfl, rfl, rfl, by decide +kernel, rfl, by decide +kernel, by decide +kernel⟩
abbrev s_whole_root : Stmt := topS 8
theorem sc_whole_root : FnScope ["number", "n", "low", "high", "middle"] ["number", "n"] (defScope s_whole_root) := ⟨rfl, rfl, rfl, by decide +kernel, rfl, by decide +kernel, by decide +kernel⟩
abbrev s_root_under : Stmt := topS 9
theorem sc_root_under : FnScope ["number", "n", "scale", "_"] ["number", "n"] (defScope s_root_under) := ⟨rfl, rfl, rfl, by decide +kernel, rfl, by decide +kernel, by decide +kernel⟩
abbrev s_root_over : Stmt := topS 10
theorem sc_root_over : FnScope ["number", "n", "found"] ["number", "n"] (defScope s_root_over) := ⟨rfl, rfl, rfl, by decide +kernel, rfl, by decide +kernel, by decide +kernel⟩
abbrev s_root_down : Stmt := topS 11
theorem sc_root_down : FnScope ["number", "n"] ["number", "n"] (defScope s_root_down) := ⟨rfl, rfl, rfl, by decide +kernel, rfl, by decide +kernel, by decide +kernel⟩
abbrev s_root_up : Stmt := topS 12
theorem sc_root_up : FnScope ["number", "n"] ["number", "n"] (defScope s_root_up) := ⟨rfl, rfl, rfl, by decide +kernel, rfl, by decide +kernel, by decide +kernel⟩
abbrev s_law_jar : Stmt := topS 14
theorem sc_law_jar : FnScope ["script", "cell", "great", "mix"] ["script"] (defScope s_law_jar) := ⟨rfl, rfl, rfl, by decide +kernel, rfl, by decide +kernel, by decide +kernel⟩
abbrev s_law_draw : Stmt := topS 15
theorem sc_law_draw : FnScope ["jar", "many", "digit"] ["jar", "many"] (defScope s_law_draw) := ⟨rfl, rfl, rfl, by decide +kernel, rfl, by decide +kernel, by decide +kernel⟩
abbrev s_law_low : Stmt := topS 16
theorem sc_law_low : FnScope ["top", "bottom", "a", "b"] ["top", "bottom"] (defScope s_law_low) := ⟨rfl, rfl, rfl, by decide +kernel, rfl, by decide +kernel, by decide +kernel⟩
abbrev s_law_is_number : Stmt := topS 17
theorem sc_law_is_number : FnScope ["x", "part"] ["x"] (defScope s_law_is_number) := ⟨rfl, rfl, rfl, by decide +kernel, rfl, by decide +kernel, by decide +kernel⟩
abbrev s_law_long : Stmt := topS 18
theorem sc_law_long : FnScope ["jar"] ["jar"] (defScope s_law_long) := ⟨rfl, rfl, rfl, by decide +kernel, rfl, by decide +kernel, by decide +kernel⟩
abbrev s_law_raised : Stmt := topS 19
theorem sc_law_raised : FnScope ["number", "count", "found", "k"] ["number", "count"] (defScope s_law_raised) := ⟨rfl, rfl, rfl, by decide +kernel, rfl, by decide +kernel, by decide +kernel⟩
abbrev s_law_case : Stmt := topS 20
theorem sc_law_case : FnScope ["jar", "count", "place", "top", "bottom", "case", "small"] ["jar", "count"] (defScope s_law_case) := ⟨rfl, rfl, rfl, by decide +kernel, rfl, by decide +kernel, by decide +kernel⟩
abbrev s_law_place : Stmt := topS 21
theorem sc_law_place : FnScope ["told"] ["told"] (defScope s_law_place) := ⟨rfl, rfl, rfl, by decide +kernel, rfl, by decide +kernel, by decide +kernel⟩
abbrev s_law_side : Stmt := topS 22
theorem sc_law_side : FnScope ["place", "count", "number", "left", "right"] ["place", "count", "number"] (defScope s_law_side) := ⟨rfl, rfl, rfl, by decide +kernel, rfl, by decide +kernel, by decide +kernel⟩
abbrev s_law_neighbours : Stmt := topS 23
theorem sc_law_neighbours : FnScope ["count", "number", "one", "two", "low", "high", "odd"] ["count", "number", "one", "two"] (defScope s_law_neighbours) := ⟨rfl, rfl, rfl, by decide +kernel, rfl, by decide +kernel, by decide +kernel⟩
abbrev s_law : Stmt := topS 24
theorem sc_law : FnScope ["script", "jar", "turn", "count", "number"] ["script"] (defScope s_law) := ⟨rfl, rfl, rfl, by decide +kernel, rfl, by decide +kernel, by decide +kernel⟩
/-! ### the mathematics -/
/-- the lowest form of t / b, b above zero -/
def lo (t b : Int) : Int × Int := (t / (Nat.gcd t.natAbs b.natAbs : Nat), b / (Nat.gcd t.natAbs b.natAbs : Nat))
theorem gcd_pos {t b : Int} (hb : 0 < b) : 0 < ((Nat.gcd t.natAbs b.natAbs : Nat) : Int) := by
  have : 0 < Nat.gcd t.natAbs b.natAbs := Nat.gcd_pos_of_pos_right _ (by omega)
  omega
theorem gcd_dl (t b : Int) : ((Nat.gcd t.natAbs b.natAbs : Nat) : Int) ∣ t := Int.natAbs_dvd_natAbs.mp (Nat.gcd_dvd_left _ _)
theorem gcd_dr (t b : Int) : ((Nat.gcd t.natAbs b.natAbs : Nat) : Int) ∣ b := Int.natAbs_dvd_natAbs.mp (Nat.gcd_dvd_right _ _)
theorem gcd_le {t b : Int} (hb : 0 < b) : ((Nat.gcd t.natAbs b.natAbs : Nat) : Int) ≤ b := Int.le_of_dvd hb (gcd_dr t b)
theorem lo_mul1 {t b : Int} : (lo t b).1 * ((Nat.gcd t.natAbs b.natAbs : Nat) : Int) = t := Int.ediv_mul_cancel (gcd_dl t b)
theorem lo_mul2 {t b : Int} : (lo t b).2 * ((Nat.gcd t.natAbs b.natAbs : Nat) : Int) = b := Int.ediv_mul_cancel (gcd_dr t b)
theorem lo_pos {t b : Int} (hb : 0 < b) : 0 < (lo t b).2 := by
  have h1 := lo_mul2 (t := t) (b := b)
  have h2 := gcd_pos (t := t) hb
  by_cases h : 0 < (lo t b).2
  · exact h
  · have : (lo t b).2 * ((Nat.gcd t.natAbs b.natAbs : Nat) : Int) ≤ 0 := Int.mul_nonpos_of_nonpos_of_nonneg (by omega) (Int.le_of_lt h2)
    omega
theorem lo_le2 {t b : Int} (hb : 0 < b) : (lo t b).2 ≤ b := Int.ediv_le_self _ (Int.le_of_lt hb)
theorem lo_abs1 (t b : Int) : (lo t b).1.natAbs ≤ t.natAbs := by
  show (t / _).natAbs ≤ _
  rw [Int.natAbs_ediv_of_dvd (gcd_dl t b)]
  exact Nat.div_le_self _ _
theorem lo_cop {t b : Int} (hb : 0 < b) : Nat.gcd (lo t b).1.natAbs (lo t b).2.natAbs = 1 := by
  show Nat.gcd (t / _).natAbs (b / _).natAbs = 1
  rw [Int.natAbs_ediv_of_dvd (gcd_dl t b), Int.natAbs_ediv_of_dvd (gcd_dr t b), Int.natAbs_natCast]
  rw [Nat.gcd_div (Nat.gcd_dvd_left _ _) (Nat.gcd_dvd_right _ _)]
  exact Nat.div_self (Nat.gcd_pos_of_pos_right _ (by omega))
theorem lo_self {x : Int × Int} (h : Nat.gcd x.1.natAbs x.2.natAbs = 1) : lo x.1 x.2 = x := by
  unfold lo
  rw [h]
  show (x.1 / 1, x.2 / 1) = x
  rw [Int.ediv_one, Int.ediv_one]
theorem lo_lo {t b : Int} (hb : 0 < b) : lo (lo t b).1 (lo t b).2 = lo t b := lo_self (lo_cop hb)
theorem bits_of {x : Int} {n : Nat} (h : x.natAbs < 2 ^ n) (hn : 0 < n) : x.natAbs.log2 < n := PySem.Flt.log2_lt_of hn h
theorem divW_of {x y : Int} {n : Nat} (h0 : 0 < y) (h : y.natAbs < 2 ^ n) (hn : 0 < n) (h9 : n ≤ 9000) : CDivW x y := ⟨h0, Nat.lt_of_lt_of_le (bits_of h hn) h9⟩
theorem mulx_of {x y : Int} {a b : Nat} (ha : x.natAbs < 2 ^ a) (hb : y.natAbs < 2 ^ b) (h : a + b ≤ 134217728) : CMulX x y := mulx_ok ha hb h
theorem pow_lt {x : Int} {a : Nat} (ha : x.natAbs < 2 ^ a) : ∀ k : Nat, 0 < k → (x ^ k).natAbs < 2 ^ (a * k)
  | 0, h => absurd h (by omega)
  | 1, _ => by rw [Nat.mul_one]; rw [show x ^ 1 = x from Int.pow_one x]; exact ha
  | k + 2, _ => by
    rw [Int.pow_succ, Int.natAbs_mul, show a * (k + 2) = a * (k + 1) + a by rw [Nat.mul_succ], Nat.pow_add]
    exact Nat.mul_lt_mul'' (pow_lt ha (k + 1) (by omega)) ha
theorem pow_le' {x : Int} {a : Nat} (ha : x.natAbs < 2 ^ a) (h0 : 0 < a) (k : Nat) : (x ^ k).natAbs < 2 ^ (a * k + 1) := by
  cases k with
  | zero =>
    rw [Int.pow_zero, Nat.mul_zero]
    decide
  | succ k => exact Nat.lt_of_lt_of_le (pow_lt ha (k + 1) (by omega)) (Nat.pow_le_pow_right (by decide) (Nat.le_succ _))
theorem natAbs_lt_mul {x y : Int} {a b : Nat} (ha : x.natAbs < 2 ^ a) (hb : y.natAbs < 2 ^ b) : (x * y).natAbs < 2 ^ (a + b) := by
  rw [Int.natAbs_mul, Nat.pow_add]
  exact Nat.mul_lt_mul'' ha hb
theorem pow2_mono {x : Nat} {a b : Nat} (h : x < 2 ^ a) (hab : a ≤ b) : x < 2 ^ b := Nat.lt_of_lt_of_le h (Nat.pow_le_pow_right (by decide) hab)
/-! ### promises -/
def phRatio : Pm (Int × Int) := fun as μ P => ∃ t b : Int, as = [sl t, sl b] ∧ (0 < b ∧ b.natAbs < 2 ^ 8000) ∧ P (lo t b) μ
def phNegate : Pm (Int × Int) := fun as μ P => ∃ x : Int × Int, as = [sl x] ∧ True ∧ P (-x.1, x.2) μ
def phPower : Pm (Int × Int) := fun as μ P => ∃ (x : Int × Int) (n : Int), as = [sl x, sl n] ∧ (x.1.natAbs < 2 ^ 9000 ∧ x.2.natAbs < 2 ^ 9000 ∧ 0 ≤ n ∧ n ≤ 6) ∧ P (x.1 ^ n.toNat, x.2 ^ n.toNat) μ
def phLess : Pm Bool := fun as μ P => ∃ x y : Int × Int, as = [sl x, sl y] ∧ (x.1.natAbs < 2 ^ 100000 ∧ x.2.natAbs < 2 ^ 100000 ∧ y.1.natAbs < 2 ^ 100000 ∧ y.2.natAbs < 2 ^ 100000) ∧ P (decide (x.1 * y.2 < y.1 * x.2)) μ
/-- names of the top that no def changes -/
structure Txt (mg : Str → Option Value) : Prop where
  gcd : mg "gcd" = some (.builtin "math.gcd")
  isqrt : mg "isqrt" = some (.builtin "math.isqrt")
  parts : ∃ t, mg "ROOT_PARTS" = some (.int 64 t)
  range : mg "range" = none
  abs : mg "abs" = none
  int : mg "int" = none
  len : mg "len" = none
  isinstance : mg "isinstance" = none
  tuple : mg "tuple" = none
  bool : mg "bool" = none
section
variable {P : Program} {w : World} {K : PySem.W.Frag} {mg : Str → Option Value} {base : Heap}
theorem c_ratio (D : Dfn K mg "ratio" s_ratio ["top", "bottom"]) (T : Txt mg) : Cal P w K mg base "ratio" 1 ["top", "bottom"] phRatio := by
  refine D.cal sc_ratio (fun as μ P h => ?_) fun f cdv A outer s H E hr as μ Pd h => ?_
  · obtain ⟨t, b, rfl, _⟩ := h; rfl
  obtain ⟨t, b, rfl, ⟨hb, hb2⟩, q⟩ := h
  have hg := gcd_pos (t := t) hb
  have hl := gcd_le (t := t) hb
  refine db_cons (ds_set (i := 2) sc_ratio.nd (de_gcd T.gcd (de_var (i := 0) rfl (de_var (i := 1) rfl ?_))))
  refine db_cons (ds_if (dt_lt (de_var (i := 1) rfl (de_int ⟨fun h => ?_, fun h => ?_⟩))))
  · exact absurd (of_decide_eq_true h) (by omega)
  refine db_nil ?_
  have hd : ∀ z : Int, CDivW z ((Nat.gcd t.natAbs b.natAbs : Nat) : Int) := fun z => divW_of (n := 8000) hg (by omega) (by decide) (by decide)
  exact db_one (ds_ret (de_tup2 (de_div (de_var (i := 0) rfl (de_var (i := 2) rfl ⟨hd _, (de_div (de_var (i := 1) rfl (de_var (i := 2) rfl ⟨hd _, q⟩)))⟩)))))
theorem c_negate (D : Dfn K mg "negate" s_negate ["one"]) : Cal P w K mg base "negate" 1 ["one"] phNegate := by
  refine D.cal sc_negate (fun as μ P h => ?_) fun f cdv A outer s H E hr as μ Pd h => ?_
  · obtain ⟨x, rfl, _⟩ := h; rfl
  obtain ⟨x, rfl, _, q⟩ := h
  exact db_one (ds_ret (de_tup2 (de_neg (de_ix0 (de_var (i := 0) rfl (de_ix1 (de_var (i := 0) rfl q)))))))
theorem c_less (D : Dfn K mg "less" s_less ["one", "two"]) : Cal P w K mg base "less" 1 ["one", "two"] phLess := by
  refine D.cal sc_less (fun as μ P h => ?_) fun f cdv A outer s H E hr as μ Pd h => ?_
  · obtain ⟨x, y, rfl, _⟩ := h; rfl
  obtain ⟨x, y, rfl, ⟨h1, h2, h3, h4⟩, q⟩ := h
  exact db_one (ds_ret (de_lt (de_mul (de_ix0 (de_var (i := 0) rfl (de_ix1 (de_var (i := 1) rfl ⟨mulx_of h1 h4 (by decide), (de_mul (de_ix0 (de_var (i := 1) rfl (de_ix1 (de_var (i := 0) rfl ⟨mulx_of h3 h2 (by decide), q⟩)))))⟩)))))))
theorem c_power (D : Dfn K mg "power" s_power ["one", "count"]) (T : Txt mg) : Cal P w K mg base "power" 1 ["one", "count"] phPower := by
  refine D.cal sc_power (fun as μ P h => ?_) fun f cdv A outer s H E hr as μ Pd h => ?_
  · obtain ⟨x, n, rfl, _⟩ := h; rfl
  obtain ⟨x, n, rfl, ⟨h1, h2, h3, h4⟩, q⟩ := h
  refine db_cons (ds_set2 (i := 2) (j := 3) sc_power.nd (de_int ?_))
  refine db_cons (ds_range1 (i := 4) PassesOwn.never rfl sc_power.nd T.range (de_var (i := 1) rfl ⟨by omega, by omega, fun k δ' μ' => ∃ s, δ' = [sl x, sl n, sl (x.1 ^ k), sl (x.2 ^ k), s] ∧ μ' = μ, ⟨.any, by rw [Int.pow_zero, Int.pow_zero]; rfl, rfl⟩, fun k δ' μ' hk hI => ?_, fun δ' μ' hI => ?_⟩))
  · obtain ⟨s, rfl, rfl⟩ := hI
    have hk6 : k ≤ 6 := by omega
    have b1 : ∀ {z : Int}, z.natAbs < 2 ^ 9000 → (z ^ k).natAbs < 2 ^ 60000 := fun {z} h => pow2_mono (pow_le' h (by decide) k) (by
      have : 9000 * k ≤ 9000 * 6 := Nat.mul_le_mul_left _ hk6
      omega)
    refine db_cons (ds_set (i := 2) sc_power.nd (de_mul (de_var (i := 2) rfl (de_ix0 (de_var (i := 0) rfl ⟨mulx_of (b1 h1) h1 (by decide), ?_⟩)))))
    refine db_cons (ds_set (i := 3) sc_power.nd (de_mul (de_var (i := 3) rfl (de_ix1 (de_var (i := 0) rfl ⟨mulx_of (b1 h2) h2 (by decide), ?_⟩)))))
    exact db_nil ⟨_, by rw [Int.pow_succ, Int.pow_succ]; rfl, rfl⟩
  · obtain ⟨s, rfl, rfl⟩ := hI
    exact db_one (ds_ret (de_tup2 (de_var (i := 2) rfl (de_var (i := 3) rfl q))))
end
end K48
namespace K48
open PySem PySem.Spec PyProof.Rows L2 Dl
/-! ### roots: the mathematics -/
theorem pow_mono {a b : Int} (h0 : 0 ≤ a) (h : a ≤ b) : ∀ n : Nat, a ^ n ≤ b ^ n
  | 0 => by rw [Int.pow_zero, Int.pow_zero]; exact Int.le_refl _
  | n + 1 => by
    rw [Int.pow_succ, Int.pow_succ]
    have i := pow_mono h0 h n
    have p : 0 ≤ a ^ n := Int.pow_nonneg h0
    exact Int.mul_le_mul i h h0 (Int.le_trans p i)
theorem pow_smono {a b : Int} (h0 : 0 ≤ a) (h : a < b) (n : Nat) (hn : 0 < n) : a ^ n < b ^ n := by
  cases n with
  | zero => omega
  | succ n =>
    rw [Int.pow_succ, Int.pow_succ]
    have i := pow_mono h0 (Int.le_of_lt h) n
    have p : 0 < b ^ n := Int.pow_pos (by omega)
    calc a ^ n * a ≤ b ^ n * a := Int.mul_le_mul_of_nonneg_right i h0
      _ < b ^ n * b := Int.mul_lt_mul_of_pos_left h p
theorem self_le_pow {a : Int} (h : 0 ≤ a) (n : Nat) (hn : 0 < n) : a ≤ a ^ n := by
  cases n with
  | zero => omega
  | succ n =>
    by_cases h1 : a = 0
    · rw [h1, Int.pow_succ, Int.mul_zero]; exact Int.le_refl _
    · rw [Int.pow_succ]
      have p : 1 ≤ a ^ n := by
        have p2 : 0 < a ^ n := Int.pow_pos (show 0 < a by omega)
        omega
      calc a = 1 * a := by rw [Int.one_mul]
        _ ≤ a ^ n * a := Int.mul_le_mul_of_nonneg_right p h
theorem isqrt_le (x : Int) (hx : 0 ≤ x) : 0 ≤ ((Float64.isqrt x.toNat : Nat) : Int) ∧ ((Float64.isqrt x.toNat : Nat) : Int) ≤ x := by
  obtain ⟨h1, h2⟩ := PySem.Float64.isqrt_spec x.toNat
  refine ⟨Int.natCast_nonneg _, ?_⟩
  generalize Float64.isqrt x.toNat = r at h1 h2
  have : r ≤ r * r ∨ r = 0 := by
    cases r with
    | zero => exact .inr rfl
    | succ r => exact .inl (Nat.le_mul_of_pos_left _ (by omega))
  omega
/-- y squared is at most x exactly if y is at most the root -/
theorem isqrt_iff {x y : Int} (hx : 0 ≤ x) (hy : 0 ≤ y) : y ≤ ((Float64.isqrt x.toNat : Nat) : Int) ↔ y * y ≤ x := by
  obtain ⟨h1, h2⟩ := PySem.Float64.isqrt_spec x.toNat
  generalize Float64.isqrt x.toNat = r at h1 h2
  obtain ⟨m, rfl⟩ := Int.eq_ofNat_of_zero_le hy
  obtain ⟨z, rfl⟩ := Int.eq_ofNat_of_zero_le hx
  rw [Int.toNat_natCast] at h1 h2
  have e : ((m : Int) * (m : Int)) = ((m * m : Nat) : Int) := by rw [Int.natCast_mul]
  rw [e]
  constructor
  · intro h
    have h' : m ≤ r := by omega
    have := Nat.mul_le_mul h' h'
    omega
  · intro h
    have h' : m * m ≤ z := by omega
    have : m ≤ r := by
      by_cases q : m ≤ r
      · exact q
      · have := Nat.mul_le_mul (show r + 1 ≤ m by omega) (show r + 1 ≤ m by omega)
        omega
    omega
theorem abs_lt_of_le {x y : Int} {n : Nat} (h0 : 0 ≤ x) (h : x ≤ y) (hy : y.natAbs < 2 ^ n) : x.natAbs < 2 ^ n := Nat.lt_of_le_of_lt (by omega) hy
def phWhole : Pm Int := fun as μ P => ∃ x n : Int, as = [sl x, sl n] ∧ (0 ≤ x ∧ x.natAbs < 2 ^ 8000 ∧ 2 ≤ n ∧ n ≤ 6) ∧ ∀ r : Int, 0 ≤ r → r ^ n.toNat ≤ x → x < (r + 1) ^ n.toNat → P r μ
/-- the exponent halved while it is even -/
theorem half_step {x m : Int} {n : Nat} (hx : 0 ≤ x) (hm : m = 2 * (m / 2)) (h0 : 0 < m) (r : Int) (hr : 0 ≤ r) : r ^ (m / 2).toNat ≤ ((Float64.isqrt x.toNat : Nat) : Int) ↔ r ^ m.toNat ≤ x := by
  rw [isqrt_iff hx (Int.pow_nonneg hr)]
  have : m.toNat = (m / 2).toNat + (m / 2).toNat := by omega
  rw [this, Int.pow_add]
theorem one_lt : (1 : Int).natAbs < 2 ^ 9000 := Nat.lt_of_lt_of_le (m := 2 ^ 1) (by decide) (Nat.pow_le_pow_right (by decide) (by decide))
theorem cast_pow2 (n : Nat) : ((2 : Int) ^ n) = ((2 ^ n : Nat) : Int) := PySem.W.kbt_cast n |>.symm
/-- where the search begins: above the root -/
theorem start_high {y k : Int} {e : Nat} (y0 : 0 ≤ y) (k1 : 1 ≤ k) (k6 : k ≤ 6) (k3 : 3 ≤ k) (hb : Builtin.Int.intBits y ≤ 8000) (he : ((((Builtin.Int.intBits y : Nat) : Int) / k + 1)).toNat = e) : 1 * (2 : Int) ^ e ≤ 2 ^ 8001 ∧ y < (1 * (2 : Int) ^ e) ^ k.toNat := by
  have hy : y.natAbs < 2 ^ Builtin.Int.intBits y := intBits_le_iff.mp (Nat.le_refl _)
  generalize Builtin.Int.intBits y = b at *
  rw [Int.one_mul]
  have h9 : (b : Int) / k ≤ b := Int.ediv_le_self _ (Int.natCast_nonneg _)
  have h0 : 0 ≤ (b : Int) / k := Int.ediv_nonneg (Int.natCast_nonneg _) (by omega)
  have e8 : e ≤ 8001 := by omega
  constructor
  · rw [cast_pow2, cast_pow2]
    exact Int.ofNat_le.mpr (Nat.pow_le_pow_right (by decide) e8)
  · rw [← Int.pow_mul, cast_pow2]
    have hbe : b ≤ e * k.toNat := by
      have h1 := Int.emod_def (b : Int) k
      have h2 := Int.emod_lt_of_pos (b : Int) (show 0 < k by omega)
      have ek : (k.toNat : Int) = k := by omega
      have ee : (e : Int) = (b : Int) / k + 1 := by omega
      have : (b : Int) ≤ (e : Int) * (k.toNat : Int) := by
        rw [ek, ee, Int.add_mul, Int.one_mul, Int.mul_comm]
        omega
      rw [← Int.natCast_mul] at this
      omega
    have h3 := Nat.pow_le_pow_right (n := 2) (by decide) hbe
    omega
section
variable {P : Program} {w : World} {K : PySem.W.Frag} {mg : Str → Option Value} {base : Heap}
theorem c_whole (D : Dfn K mg "whole_root" s_whole_root ["number", "n"]) (T : Txt mg) (cp : Cal P w K mg base "power" 1 ["one", "count"] phPower) : Cal P w K mg base "whole_root" 2 ["number", "n"] phWhole := by
  refine D.cal sc_whole_root (fun as μ P h => ?_) fun f cdv A outer s H E hr as μ Pd h => ?_
  · obtain ⟨x, n, rfl, _⟩ := h; rfl
  obtain ⟨x, n, rfl, ⟨h1, h2, h3, h4⟩, q⟩ := h
  refine db_cons (ds_while PassesOwn.never (fun m δ' μ' => ∃ y k : Int, δ' = [sl y, sl k, .any, .any, .any] ∧ μ' = μ ∧ m = k.toNat ∧ 0 ≤ y ∧ y ≤ x ∧ 1 ≤ k ∧ k ≤ 6 ∧ ∀ r : Int, 0 ≤ r → (r ^ k.toNat ≤ y ↔ r ^ n.toNat ≤ x)) n.toNat
    ⟨x, n, rfl, rfl, rfl, h1, Int.le_refl _, by omega, h4, fun r _ => Iff.rfl⟩ fun m δ' μ' hI => ?_)
  obtain ⟨y, k, rfl, rfl, rfl, y0, yx, k1, k6, hk⟩ := hI
  have hy : y.natAbs < 2 ^ 8000 := abs_lt_of_le y0 yx h2
  refine dt_eqI (de_mod (de_var (i := 1) rfl (de_int ⟨by decide, de_int ⟨fun h => ⟨fun δ2 μ2 => ∃ y' k' : Int, δ2 = [sl y', sl k', .any, .any, .any] ∧ μ2 = μ' ∧ k'.toNat < k.toNat ∧ 0 ≤ y' ∧ y' ≤ x ∧ 1 ≤ k' ∧ k' ≤ 6 ∧ ∀ r : Int, 0 ≤ r → (r ^ k'.toNat ≤ y' ↔ r ^ n.toNat ≤ x), ?_, ?_⟩, fun h => ?_⟩⟩)))
  · rintro δ2 μ2 ⟨y', k', e1, e2, l, r⟩
    exact ⟨k'.toNat, l, y', k', e1, e2, rfl, r⟩
  · have he : k % 2 = 0 := of_decide_eq_true h
    have hb : y.toNat.log2 < 8000 := PySem.Flt.log2_lt_of (by decide) (by
      have : y.toNat = y.natAbs := by omega
      rw [this]; exact hy)
    refine db_cons (ds_set (i := 0) sc_whole_root.nd (de_isqrt T.isqrt (de_var (i := 0) rfl ⟨⟨y0, by omega⟩, ?_⟩)))
    refine db_cons (ds_set (i := 1) sc_whole_root.nd (de_div (de_var (i := 1) rfl (de_int ⟨⟨by decide, by decide⟩, ?_⟩))))
    obtain ⟨q0, q1⟩ := isqrt_le y y0
    refine db_nil ⟨_, _, rfl, rfl, by omega, q0, by omega, by omega, by omega, fun r hr => ?_⟩
    rw [half_step (n := 0) y0 (by omega) (by omega) r hr]
    exact hk r hr
  have he : ¬ k % 2 = 0 := of_decide_eq_false h
  refine db_cons (ds_if (dt_eqI (de_var (i := 1) rfl (de_int ⟨fun h => ?_, fun h => ?_⟩))))
  · have e1 : k = 1 := of_decide_eq_true h
    subst e1
    refine db_one (ds_ret (de_var (i := 0) rfl (q y y0 ((hk y y0).mp (by rw [show (1 : Int).toNat = 1 from rfl, show y ^ 1 = y from Int.pow_one y]; exact Int.le_refl _)) ?_)))
    have := hk (y + 1) (by omega)
    rw [show (1 : Int).toNat = 1 from rfl, show (y + 1) ^ 1 = y + 1 from Int.pow_one _] at this
    have n1 : ¬ (y + 1) ^ n.toNat ≤ x := fun z => by
      have := this.mpr z
      omega
    omega
  have hk3 : 3 ≤ k := by
    have := of_decide_eq_false h
    omega
  refine db_nil ?_
  have hbits : Builtin.Int.intBits y ≤ 8000 := PyProof.Rows.intBits_le hy
  refine db_cons (ds_set (i := 2) sc_whole_root.nd (de_int ?_))
  refine db_cons (ds_set (i := 3) sc_whole_root.nd (de_shl (de_int (de_add (de_div (de_bits (de_var (i := 0) rfl (de_var (i := 1) rfl ⟨divW_of (n := 3) (by omega) (by omega) (by decide) (by decide), de_int ⟨?_, ?_⟩⟩))))))))
  · have h0 : 0 ≤ ((Builtin.Int.intBits y : Nat) : Int) / k := Int.ediv_nonneg (Int.natCast_nonneg _) (by omega)
    have h9 : ((Builtin.Int.intBits y : Nat) : Int) / k ≤ (Builtin.Int.intBits y : Nat) := Int.ediv_le_self _ (Int.natCast_nonneg _)
    refine ⟨by omega, ?_⟩
    have e1 : Builtin.Int.intBits 1 = 1 := by decide
    have e2 : (2 : Int) ^ 27 = 134217728 := by decide
    rw [e1, e2]
    omega
  obtain ⟨e, he0⟩ : ∃ e : Nat, ((((Builtin.Int.intBits y : Nat) : Int) / k + 1)).toNat = e := ⟨_, rfl⟩
  have hz := start_high y0 (by omega) (by omega) hk3 hbits he0
  rw [he0]
  obtain ⟨hz1, hz2⟩ := hz
  refine db_cons (ds_while PassesOwn.never (fun m δ' μ2 => ∃ (l h : Int) (s : Slot), δ' = [sl y, sl k, sl l, sl h, s] ∧ μ2 = μ' ∧ m = (h - l).toNat ∧ 0 ≤ l ∧ l < h ∧ h ≤ 2 ^ 8001 ∧ l ^ k.toNat ≤ y ∧ y < h ^ k.toNat) (1 * 2 ^ e - 0 : Int).toNat
    ⟨0, 1 * 2 ^ e, .any, rfl, rfl, rfl, by decide, ?_, ?_, ?_, ?_⟩ fun m δ' μ2 hI => ?_)
  · rw [Int.one_mul]; exact Int.pow_pos (by decide)
  · exact hz1
  · rw [Int.zero_pow (by omega)]; exact y0
  · exact hz2
  obtain ⟨l, h, s, rfl, rfl, rfl, l0, lh, hh, hl, hu⟩ := hI
  refine dt_gt (de_sub (de_var (i := 3) rfl (de_var (i := 2) rfl (de_int ⟨fun ht => ⟨fun δ2 μ3 => ∃ (l' h' : Int) (s : Slot), δ2 = [sl y, sl k, sl l', sl h', s] ∧ μ3 = μ2 ∧ (h' - l').toNat < (h - l).toNat ∧ 0 ≤ l' ∧ l' < h' ∧ h' ≤ 2 ^ 8001 ∧ l' ^ k.toNat ≤ y ∧ y < h' ^ k.toNat, ?_, ?_⟩, fun ht => ?_⟩))))
  · rintro δ2 μ3 ⟨l', h', s, e1, e2, lt, r⟩
    exact ⟨_, lt, l', h', s, e1, e2, rfl, r⟩
  · have ht := of_decide_eq_true ht
    obtain ⟨mid, em⟩ : ∃ mid, (l + h) / 2 = mid := ⟨_, rfl⟩
    have m1 : l < mid := by omega
    have m2 : mid < h := by omega
    have hm : mid.natAbs < 2 ^ 9000 := Nat.lt_of_lt_of_le (m := 2 ^ 8001) (by
      have : ((2 : Int) ^ 8001) = ((2 ^ 8001 : Nat) : Int) := cast_pow2 _
      omega) (Nat.pow_le_pow_right (by decide) (by decide))
    refine db_cons (ds_set (i := 4) sc_whole_root.nd (de_div (de_add (de_var (i := 2) rfl (de_var (i := 3) rfl (de_int ⟨⟨by decide, by decide⟩, ?_⟩))))))
    rw [em]
    refine db_cons (ds_if (dt_le (de_ix0 (de_c1 cp hr (by decide) (da_cons (de_tup2 (de_var (i := 4) rfl (de_int (da_cons (de_var (i := 1) rfl (da_nil ⟨[], _, parts_none, _, _, rfl, ⟨hm, ?_, by omega, by omega⟩, (de_var (i := 0) rfl ⟨fun h => ?_, fun h => ?_⟩)⟩)))))))))))
    · exact one_lt
    · have h := of_decide_eq_true h
      refine db_cons (ds_set (i := 2) sc_whole_root.nd (de_var (i := 4) rfl ?_))
      exact db_nil (db_nil ⟨mid, _, _, rfl, rfl, by omega, by omega, m2, hh, h, hu⟩)
    · have h := of_decide_eq_false h
      refine db_cons (ds_set (i := 3) sc_whole_root.nd (de_var (i := 4) rfl ?_))
      exact db_nil (db_nil ⟨l, mid, _, rfl, rfl, by omega, l0, m1, by omega, hl, Int.not_le.mp h⟩)
  · have ht := of_decide_eq_false ht
    have e1 : h = l + 1 := by omega
    subst e1
    refine db_one (ds_ret (de_var (i := 2) rfl (q l l0 ((hk l l0).mp hl) ?_)))
    have := hk (l + 1) (by omega)
    exact Int.not_le.mp fun z => absurd (this.mpr z) (Int.not_le.mpr hu)
end
end K48
namespace K48
open PySem PySem.Spec PyProof.Rows L2 Dl
theorem lo_neg {r b : Int} : ((-(lo r b).1, (lo r b).2) : Int × Int) = lo (-r) b := by
  unfold lo
  rw [Int.natAbs_neg, Int.neg_ediv_of_dvd (gcd_dl r b)]
theorem odd_pow {a : Int} : ∀ n : Nat, n % 2 = 1 → (-a) ^ n = -(a ^ n)
  | 0, h => by omega
  | 1, _ => by rw [show (-a) ^ 1 = -a from Int.pow_one _, show a ^ 1 = a from Int.pow_one _]
  | n + 2, h => by
    have i := odd_pow (a := a) n (by omega)
    rw [show (-a) ^ (n + 2) = (-a) ^ n * (-a) * (-a) by rw [Int.pow_succ, Int.pow_succ], show a ^ (n + 2) = a ^ n * a * a by rw [Int.pow_succ, Int.pow_succ], i, Int.neg_mul_neg, Int.mul_neg]
theorem p64 (n : Nat) (h : n ≤ 6) : 0 < (64 : Int) ^ n ∧ ((64 : Int) ^ n).natAbs < 2 ^ 60 := by
  refine ⟨Int.pow_pos (by decide), ?_⟩
  have : n = 0 ∨ n = 1 ∨ n = 2 ∨ n = 3 ∨ n = 4 ∨ n = 5 ∨ n = 6 := by omega
  rcases this with rfl | rfl | rfl | rfl | rfl | rfl | rfl <;> decide
/-- t / b, n as the roots get them -/
def RtIn (x : Int × Int) (n : Int) : Prop := x.1.natAbs < 2 ^ 4000 ∧ 0 < x.2 ∧ x.2.natAbs < 2 ^ 4000 ∧ 2 ≤ n ∧ n ≤ 6
def phUnder : Pm (Int × Int) := fun as μ P => ∃ (x : Int × Int) (n : Int), as = [sl x, sl n] ∧ (RtIn x n ∧ 0 ≤ x.1) ∧ ∀ r : Int, 0 ≤ r → r ^ n.toNat * x.2 ≤ x.1 * 64 ^ n.toNat → x.1 * 64 ^ n.toNat < (r + 1) ^ n.toNat * x.2 → r.natAbs < 2 ^ 5000 → P (lo r 64) μ
def phOver : Pm (Int × Int) := fun as μ P => ∃ (x : Int × Int) (n : Int), as = [sl x, sl n] ∧ (RtIn x n ∧ 0 ≤ x.1) ∧ ∀ r : Int, 0 ≤ r → (r = 0 ∨ (r - 1) ^ n.toNat * x.2 < x.1 * 64 ^ n.toNat) → x.1 * 64 ^ n.toNat ≤ r ^ n.toNat * x.2 → r.natAbs < 2 ^ 5001 → P (lo r 64) μ
def phDown : Pm (Int × Int) := fun as μ P => ∃ (x : Int × Int) (n : Int), as = [sl x, sl n] ∧ (RtIn x n ∧ (x.1 < 0 → n % 2 = 1)) ∧ ∀ r : Int, (n % 2 = 0 → 0 ≤ r) → r ^ n.toNat * x.2 ≤ x.1 * 64 ^ n.toNat → x.1 * 64 ^ n.toNat < (r + 1) ^ n.toNat * x.2 → r.natAbs < 2 ^ 5001 → P (lo r 64) μ
def phUp : Pm (Int × Int) := fun as μ P => ∃ (x : Int × Int) (n : Int), as = [sl x, sl n] ∧ (RtIn x n ∧ (x.1 < 0 → n % 2 = 1)) ∧ ∀ r : Int, (n % 2 = 0 → 0 ≤ r) → ((n % 2 = 0 ∧ r = 0) ∨ (r - 1) ^ n.toNat * x.2 < x.1 * 64 ^ n.toNat) → x.1 * 64 ^ n.toNat ≤ r ^ n.toNat * x.2 → r.natAbs < 2 ^ 5001 → P (lo r 64) μ
theorem under_big {t b r : Int} {n : Nat} (h0 : 0 ≤ r) (hn : 0 < n) (h : r ^ n ≤ t) (ht : t.natAbs < 2 ^ 5000) : r.natAbs < 2 ^ 5000 := abs_lt_of_le h0 (Int.le_trans (self_le_pow h0 n hn) h) ht
theorem lt64 : (64 : Int).natAbs < 2 ^ 8000 := Nat.lt_of_lt_of_le (m := 2 ^ 7) (by decide) (Nat.pow_le_pow_right (by decide) (by decide))
theorem lt64' : (64 : Int).natAbs < 2 ^ 9000 := Nat.lt_of_lt_of_le (m := 2 ^ 7) (by decide) (Nat.pow_le_pow_right (by decide) (by decide))
section
variable {P : Program} {w : World} {K : PySem.W.Frag} {mg : Str → Option Value} {base : Heap}
theorem c_under (D : Dfn K mg "root_under" s_root_under ["number", "n"]) (T : Txt mg) (cp : Cal P w K mg base "power" 1 ["one", "count"] phPower) (cr : Cal P w K mg base "ratio" 1 ["top", "bottom"] phRatio)
    (cw : Cal P w K mg base "whole_root" 2 ["number", "n"] phWhole) : Cal P w K mg base "root_under" 3 ["number", "n"] phUnder := by
  refine D.cal sc_root_under (fun as μ P h => ?_) fun f cdv A outer s H E hr as μ Pd h => ?_
  · obtain ⟨x, n, rfl, _⟩ := h; rfl
  obtain ⟨x, n, rfl, ⟨⟨h1, h2, h3, h4, h5⟩, h6⟩, q⟩ := h
  obtain ⟨tk, hp⟩ := T.parts
  obtain ⟨s1, s2⟩ := p64 n.toNat (by omega)
  refine db_cons (ds_unpack2 (i := 2) (j := 3) rfl sc_root_under.nd (de_c1 cp hr (by decide) (da_cons (de_tup2 (de_globI hp (de_int (da_cons (de_var (i := 1) rfl (da_nil ⟨[], _, parts_none, _, _, rfl, ⟨lt64', one_lt, by omega, h5⟩, ?_⟩)))))))))
  have hm : (x.1 * 64 ^ n.toNat).natAbs < 2 ^ 4060 := natAbs_lt_mul h1 s2
  have hm0 : 0 ≤ x.1 * 64 ^ n.toNat := Int.mul_nonneg h6 (Int.le_of_lt s1)
  have hd0 : 0 ≤ x.1 * 64 ^ n.toNat / x.2 := Int.ediv_nonneg hm0 (Int.le_of_lt h2)
  have hd : (x.1 * 64 ^ n.toNat / x.2).natAbs < 2 ^ 4060 := abs_lt_of_le hd0 (Int.ediv_le_self _ hm0) hm
  refine db_one (ds_ret (de_c1 cr hr (by decide) (da_cons (de_c1 cw hr (by decide) (da_cons (de_div (de_mul (de_ix0 (de_var (i := 0) rfl (de_var (i := 2) rfl ⟨mulx_of h1 s2 (by decide), (de_ix1 (de_var (i := 0) rfl ⟨divW_of h2 h3 (by decide) (by decide), (da_cons (de_var (i := 1) rfl (da_nil ⟨[], _, parts_none, _, _, rfl, ⟨hd0, pow2_mono hd (by decide), h4, h5⟩, fun r h0 h1' h2' => (da_cons (de_globI hp (da_nil ⟨[], _, parts_none, _, _, rfl, ⟨by decide, lt64⟩, ?_⟩)))⟩)))⟩))⟩))))))))))
  refine q r h0 ?_ ?_ (under_big (b := 0) h0 (by omega) h1' (pow2_mono hd (by decide)))
  · exact (Int.le_ediv_iff_mul_le h2).mp h1'
  · exact (Int.ediv_lt_iff_lt_mul h2).mp h2'
theorem c_over (D : Dfn K mg "root_over" s_root_over ["number", "n"]) (T : Txt mg) (cp : Cal P w K mg base "power" 1 ["one", "count"] phPower) (cr : Cal P w K mg base "ratio" 1 ["top", "bottom"] phRatio)
    (cl : Cal P w K mg base "less" 1 ["one", "two"] phLess) (cu : Cal P w K mg base "root_under" 3 ["number", "n"] phUnder) : Cal P w K mg base "root_over" 4 ["number", "n"] phOver := by
  refine D.cal sc_root_over (fun as μ P h => ?_) fun f cdv A outer s H E hr as μ Pd h => ?_
  · obtain ⟨x, n, rfl, _⟩ := h; rfl
  obtain ⟨x, n, rfl, ⟨⟨h1, h2, h3, h4, h5⟩, h6⟩, q⟩ := h
  obtain ⟨tk, hp⟩ := T.parts
  refine db_cons (ds_set (i := 2) sc_root_over.nd (de_c1 cu hr (by decide) (da_cons (de_var (i := 0) rfl (da_cons (de_var (i := 1) rfl (da_nil ⟨[], _, parts_none, _, _, rfl, ⟨⟨h1, h2, h3, h4, h5⟩, h6⟩, fun r r0 ra rb rc => ?_⟩)))))))
  have l1 : (lo r 64).1.natAbs < 2 ^ 5000 := Nat.lt_of_le_of_lt (lo_abs1 r 64) rc
  have l2p : 0 < (lo r 64).2 := lo_pos (by decide)
  have l2 : (lo r 64).2.natAbs < 2 ^ 8000 := abs_lt_of_le (Int.le_of_lt l2p) (lo_le2 (by decide)) lt64
  have hn6 : n.toNat ≤ 6 := by omega
  have pw : ∀ {z : Int} {m : Nat}, z.natAbs < 2 ^ m → 0 < m → m ≤ 8000 → (z ^ n.toNat).natAbs < 2 ^ 100000 := fun {z m} h h0 h8 => pow2_mono (pow_le' h h0 n.toNat) (by
    have := Nat.mul_le_mul h8 hn6
    omega)
  have g0 := gcd_pos (t := r) (b := 64) (by decide)
  have e1 := lo_mul1 (t := r) (b := 64)
  have e2 := lo_mul2 (t := r) (b := 64)
  generalize eg : ((Nat.gcd r.natAbs (64 : Int).natAbs : Nat) : Int) = g at g0 e1 e2
  have key : (lo r 64).1 ^ n.toNat * x.2 < x.1 * (lo r 64).2 ^ n.toNat ↔ r ^ n.toNat * x.2 < x.1 * 64 ^ n.toNat := by
    have gp : 0 < g ^ n.toNat := Int.pow_pos g0
    have a1 : (lo r 64).1 ^ n.toNat * g ^ n.toNat = r ^ n.toNat := by rw [← Int.mul_pow, e1]
    have a2 : (lo r 64).2 ^ n.toNat * g ^ n.toNat = 64 ^ n.toNat := by rw [← Int.mul_pow, e2]
    rw [← a1, ← a2]
    have b1 : (lo r 64).1 ^ n.toNat * g ^ n.toNat * x.2 = (lo r 64).1 ^ n.toNat * x.2 * g ^ n.toNat := Int.mul_right_comm _ _ _
    have b2 : x.1 * ((lo r 64).2 ^ n.toNat * g ^ n.toNat) = x.1 * (lo r 64).2 ^ n.toNat * g ^ n.toNat := by rw [Int.mul_assoc]
    rw [b1, b2]
    exact ⟨fun h => Int.mul_lt_mul_of_pos_right h gp, fun h => Int.lt_of_mul_lt_mul_right h (Int.le_of_lt gp)⟩
  refine db_cons (ds_if (dt_val (de_c1 cl hr (by decide) (da_cons (de_c1 cp hr (by decide) (da_cons (de_var (i := 2) rfl (da_cons (de_var (i := 1) rfl (da_nil ⟨[], _, parts_none, _, _, rfl, ⟨pow2_mono l1 (by decide), pow2_mono l2 (by decide), by omega, h5⟩, (da_cons (de_var (i := 0) rfl (da_nil ⟨[], _, parts_none, _, _, rfl, ⟨pw l1 (by decide) (by decide), pw l2 (by decide) (by decide), pow2_mono h1 (by decide), pow2_mono h3 (by decide)⟩, ⟨fun h => ?_, fun h => ?_⟩⟩)))⟩))))))))))
  · have h := key.mp (of_decide_eq_true h)
    have hdiv : (64 : Int) / (lo r 64).2 = g := by
      exact Int.ediv_eq_of_eq_mul_right (by omega) e2.symm
    have gl : g.natAbs < 2 ^ 8000 := abs_lt_of_le (Int.le_of_lt g0) (by rw [← eg]; exact gcd_le (by decide)) lt64
    refine db_one (ds_ret (de_c1 cr hr (by decide) (da_cons (de_add (de_mul (de_ix0 (de_var (i := 2) rfl (de_div (de_globI hp (de_ix1 (de_var (i := 2) rfl ⟨divW_of l2p l2 (by decide) (by decide), ⟨by rw [hdiv]; exact mulx_of l1 gl (by decide), (de_int (da_cons (de_globI hp (da_nil ⟨[], _, parts_none, _, _, rfl, ⟨by decide, lt64⟩, ?_⟩))))⟩⟩)))))))))))
    rw [hdiv, e1]
    refine q (r + 1) (by omega) (.inr ?_) ?_ ?_
    · rw [show r + 1 - 1 = r by omega]; exact h
    · exact Int.le_of_lt rb
    · have : (2 : Nat) ^ 5001 = 2 ^ 5000 * 2 := Nat.pow_succ _ _
      have p1 : 0 < (2 : Nat) ^ 5000 := Nat.pow_pos (by decide)
      omega
  · have h : ¬ _ := fun z => absurd (key.mpr z) (of_decide_eq_false h)
    refine db_nil ?_
    refine db_one (ds_ret (de_var (i := 2) rfl ?_))
    have he : x.1 * 64 ^ n.toNat ≤ r ^ n.toNat * x.2 := Int.not_lt.mp h
    refine q r r0 ?_ he (pow2_mono rc (by decide))
    by_cases z : r = 0
    · exact .inl z
    · refine .inr (Int.lt_of_lt_of_le ?_ ra)
      exact Int.mul_lt_mul_of_pos_right (pow_smono (by omega) (by omega) _ (by omega)) h2
theorem c_down (D : Dfn K mg "root_down" s_root_down ["number", "n"]) (cn : Cal P w K mg base "negate" 1 ["one"] phNegate) (cu : Cal P w K mg base "root_under" 3 ["number", "n"] phUnder) (co : Cal P w K mg base "root_over" 4 ["number", "n"] phOver) :
    Cal P w K mg base "root_down" 5 ["number", "n"] phDown := by
  refine D.cal sc_root_down (fun as μ P h => ?_) fun f cdv A outer s H E hr as μ Pd h => ?_
  · obtain ⟨x, n, rfl, _⟩ := h; rfl
  obtain ⟨x, n, rfl, ⟨⟨h1, h2, h3, h4, h5⟩, h6⟩, q⟩ := h
  refine db_cons (ds_if (dt_lt (de_ix0 (de_var (i := 0) rfl (de_int ⟨fun h => ?_, fun h => ?_⟩)))))
  · have h := of_decide_eq_true h
    have hodd : n.toNat % 2 = 1 := by
      have := h6 h
      omega
    refine db_one (ds_ret (de_c1 cn hr (by decide) (da_cons (de_c1 co hr (by decide) (da_cons (de_c1 cn hr (by decide) (da_cons (de_var (i := 0) rfl (da_nil ⟨[], _, parts_none, _, rfl, trivial, (da_cons (de_var (i := 1) rfl (da_nil ⟨[], _, parts_none, _, _, rfl, ⟨⟨by rw [Int.natAbs_neg]; exact h1, h2, h3, h4, h5⟩, by show 0 ≤ -x.1; omega⟩, fun r r0 ra rb rc => (da_nil ⟨[], _, parts_none, _, rfl, trivial, ?_⟩)⟩)))⟩)))))))))
    show Pd (-(lo r 64).1, (lo r 64).2) _
    rw [lo_neg]
    have ra : r = 0 ∨ (r - 1) ^ n.toNat * x.2 < -x.1 * 64 ^ n.toNat := ra
    have rb : -x.1 * 64 ^ n.toNat ≤ r ^ n.toNat * x.2 := rb
    rw [Int.neg_mul] at ra rb
    have t0 : 0 < -(x.1 * 64 ^ n.toNat) := by
      rw [← Int.neg_mul]
      exact Int.mul_pos (by omega) (Int.pow_pos (by decide))
    refine q (-r) (fun z => ?_) ?_ ?_ (by rw [Int.natAbs_neg]; exact rc)
    · have := h6 h; omega
    · rw [odd_pow _ hodd, Int.neg_mul]; omega
    · rcases ra with ra | ra
      · rw [ra, Int.zero_pow (by omega), Int.zero_mul] at rb
        omega
      · rw [show -r + 1 = -(r - 1) by omega, odd_pow _ hodd, Int.neg_mul]; omega
  · have h := of_decide_eq_false h
    refine db_nil ?_
    refine db_one (ds_ret (de_c1 cu hr (by decide) (da_cons (de_var (i := 0) rfl (da_cons (de_var (i := 1) rfl (da_nil ⟨[], _, parts_none, _, _, rfl, ⟨⟨h1, h2, h3, h4, h5⟩, by omega⟩, fun r r0 ra rb rc => ?_⟩)))))))
    exact q r (fun _ => r0) ra rb (pow2_mono rc (by decide))
theorem c_up (D : Dfn K mg "root_up" s_root_up ["number", "n"]) (cn : Cal P w K mg base "negate" 1 ["one"] phNegate) (cu : Cal P w K mg base "root_under" 3 ["number", "n"] phUnder) (co : Cal P w K mg base "root_over" 4 ["number", "n"] phOver) :
    Cal P w K mg base "root_up" 5 ["number", "n"] phUp := by
  refine D.cal sc_root_up (fun as μ P h => ?_) fun f cdv A outer s H E hr as μ Pd h => ?_
  · obtain ⟨x, n, rfl, _⟩ := h; rfl
  obtain ⟨x, n, rfl, ⟨⟨h1, h2, h3, h4, h5⟩, h6⟩, q⟩ := h
  refine db_cons (ds_if (dt_lt (de_ix0 (de_var (i := 0) rfl (de_int ⟨fun h => ?_, fun h => ?_⟩)))))
  · have h := of_decide_eq_true h
    have hodd : n.toNat % 2 = 1 := by
      have := h6 h
      omega
    refine db_one (ds_ret (de_c1 cn hr (by decide) (da_cons (de_c1 cu hr (by decide) (da_cons (de_c1 cn hr (by decide) (da_cons (de_var (i := 0) rfl (da_nil ⟨[], _, parts_none, _, rfl, trivial, (da_cons (de_var (i := 1) rfl (da_nil ⟨[], _, parts_none, _, _, rfl, ⟨⟨by rw [Int.natAbs_neg]; exact h1, h2, h3, h4, h5⟩, by show 0 ≤ -x.1; omega⟩, fun r r0 ra rb rc => (da_nil ⟨[], _, parts_none, _, rfl, trivial, ?_⟩)⟩)))⟩)))))))))
    show Pd (-(lo r 64).1, (lo r 64).2) _
    rw [lo_neg]
    have ra : r ^ n.toNat * x.2 ≤ -x.1 * 64 ^ n.toNat := ra
    have rb : -x.1 * 64 ^ n.toNat < (r + 1) ^ n.toNat * x.2 := rb
    rw [Int.neg_mul] at ra rb
    refine q (-r) (fun z => ?_) (.inr ?_) ?_ (by rw [Int.natAbs_neg]; exact pow2_mono rc (by decide))
    · have := h6 h; omega
    · rw [show -r - 1 = -(r + 1) by omega, odd_pow _ hodd, Int.neg_mul]; omega
    · rw [odd_pow _ hodd, Int.neg_mul]; omega
  · have h := of_decide_eq_false h
    refine db_nil ?_
    refine db_one (ds_ret (de_c1 co hr (by decide) (da_cons (de_var (i := 0) rfl (da_cons (de_var (i := 1) rfl (da_nil ⟨[], _, parts_none, _, _, rfl, ⟨⟨h1, h2, h3, h4, h5⟩, by omega⟩, fun r r0 ra rb rc => ?_⟩)))))))
    refine q r (fun _ => r0) ?_ rb rc
    rcases ra with ra | ra
    · by_cases z : n % 2 = 0
      · exact .inl ⟨z, ra⟩
      · refine .inr ?_
        rw [ra, show (0 : Int) - 1 = -1 by omega, odd_pow _ (by omega), Int.one_pow, Int.neg_mul, Int.one_mul]
        have : 0 ≤ x.1 * 64 ^ n.toNat := Int.mul_nonneg (by omega) (Int.le_of_lt (Int.pow_pos (by decide)))
        omega
    · exact .inr ra
end
end K48
namespace K48
open PySem PySem.Spec PyProof.Rows L2 Dl
/-! ### the jar -/
section
variable {P : Program} {w : World} {K : PySem.W.Frag} {mg : Str → Option Value} {base : Heap}
theorem c_draw (D : Dfn K mg "_law_draw" s_law_draw ["jar", "many"]) (ml : mg "len" = none) (mi : mg "int" = none) : Cal P w K mg base "_law_draw" 1 ["jar", "many"] phDraw := by
  refine D.cal sc_law_draw (fun as μ P h => ?_) fun f cdv A outer s H0 E hr as μ Pd h => ?_
  · obtain ⟨j, g, m, rfl, _⟩ := h; rfl
  obtain ⟨j, g, m, rfl, rfl, ⟨m0, m9⟩, q⟩ := h
  refine of_pss (C8.pss_cut (ps_if (pw_and (pt_cmpR op_eq (pe_ix ix_list (pv 0) pe_int (fun _ _ => rfl)) pe_int (nomark _)) (pw_and1 (pt_cmpR op_gt (pe_callB call_len (by rfl) ml boot_len (pa_cons (pe_ix ix_list (pv 0) pe_int (fun _ _ => rfl)) pa_nil)) pe_int (nomark _)))).pt
      (pss_one (ps_asg (pe_bm PySem.F.plainAttrs_list PySem.F.slot_list_pop PySem.F.type_list_pop mt_popAt (pe_ix ix_list (pv 0) pe_int (fun _ _ => rfl)) (pa_cons pe_int pa_nil)) (pg_sub (pv 0) pe_int set_list))) pss_nil)
    (pss_cons (ps_if (pt_cmpR op_gt (pe_ix ix_list (pv 0) pe_int (fun _ _ => rfl)) pe_int (nomark _)) (pss_cons (ps_set (i := 2) sc_law_draw.nd rfl (.inl rfl) (pe_op op_mod (pe_callTy call_int1 (by rfl) mi (by decide +kernel) (pa_cons (pe_ix ix_list (pv 0) pe_int (fun _ _ => rfl)) pa_nil)) (pv 1)))
        (pss_cons (ps_asg (pe_op op_fdivW (pe_ix ix_list (pv 0) pe_int (fun _ _ => rfl)) (pv 1)) (pg_sub (pv 0) pe_int set_list)) (pss_one (ps_ret (pv 2))))) pss_nil)
    (pss_cons (ps_asg (pe_op op_add (pe_ix ix_list (pv 0) pe_int (fun _ _ => rfl)) pe_int) (pg_sub (pv 0) pe_int set_list))
    (pss_cons (ps_asg (pe_op op_mod (pe_op op_add (pe_op op_add (pe_op op_mul (pe_ix ix_list (pv 0) pe_int (fun _ _ => rfl)) pe_int) (pe_op op_mul (pe_ix ix_list (pv 0) pe_int (fun _ _ => rfl)) pe_int)) pe_int) pe_int) (pg_sub (pv 0) pe_int set_list))
    (pss_one (ps_ret (pe_op op_mod (pe_op op_fdiv (pe_ix ix_list (pv 0) pe_int (fun _ _ => rfl)) pe_int) (pv 1)))))))) fun M σ H En D nk rk bk ck => ?_
  obtain ⟨w0, e0, r0⟩ := En.get (i := 0) (x := Ref.mk j) rfl
  obtain ⟨w1, e1, r1⟩ := En.get (i := 1) (x := m) rfl
  cases r0; cases r1
  obtain ⟨ne, gs, a, b, c, hj, hg⟩ := En.h.cell _ (List.mem_singleton.mpr rfl)
  have at_ : ∀ (k : Nat) (x0 x1 x2 x3 v : V), [x0, x1, x2, x3][k]? = some v → atI [x0, x1, x2, x3] (k : Int) = some v := fun k _ _ _ _ _ h => atI_nat h
  have out : ∀ (H' : Hp) (gs : List Int) (a b c d : Int), H' j = some (.lst [.ref g, .int a, .int b, .int c]) → H' g = some (.lst (gs.map V.int)) → (∀ b o, H b = some o → b ≠ j → b ≠ g → H' b = some o) → 0 ≤ d → d < m → D.rt (.int d) H' := fun H' gs a b c d h1 h2 k d0 d1 => by
    obtain ⟨s1, s2⟩ := jar_ste En.h gs a b c h1 h2 ne k
    exact rk d _ M (.int d) H' (q d d0 d1) s1 s2 rfl
  refine ⟨fun σ' H' => σ' = σ ∧ ∃ (gs : List Int) (a b c : Int), H' j = some (.lst [.ref g, .int a, .int b, .int c]) ∧ H' g = some (.lst (gs.map V.int)) ∧ ∀ b o, H b = some o → b ≠ j → b ≠ g → H' b = some o, ?_, ?_⟩
  · -- jar[1] == 0 and len(jar[0]) > 0
    refine ⟨_, e0, j, _, 1, _, rfl, rfl, .inl (.inl hj), rfl, rfl, _, rfl, ?_⟩
    refine ite2 (fun _ => ?_) (fun _ => iteF ⟨rfl, gs, a, b, c, hj, hg, fun _ _ e _ _ => e⟩)
    refine ⟨_, e0, j, _, 0, _, rfl, rfl, .inl (.inl hj), rfl, _, (gs.map V.int).length, rfl, .inl ⟨_, .inl (.inl hg), rfl⟩, _, _, rfl, rfl, _, rfl, ?_⟩
    refine ite2 (fun hl => ?_) (fun _ => ⟨rfl, gs, a, b, c, hj, hg, fun _ _ e _ _ => e⟩)
    have hl := of_decide_eq_true hl
    obtain ⟨x, xs, rfl⟩ : ∃ x xs, gs = x :: xs := by
      cases gs with
      | nil => simp at hl
      | cons x xs => exact ⟨x, xs, rfl⟩
    refine ⟨_, e0, j, _, 0, _, rfl, rfl, .inl (.inl hj), rfl, .inl ⟨rfl, _, .inl (.inl hg)⟩, g, _, 0, 0, .int x, rfl, rfl, hg, by decide, by decide, by simp [seqIndex?], rfl, ?_⟩
    refine ⟨_, e0, j, _, 1, 1, rfl, rfl, by rw [upd_ne ne]; exact hj, rfl, rfl, xs, x, b, c, upd_same, by rw [upd_ne ne.symm, upd_same] <;> rfl, fun b o e n1 n2 => by rw [upd_ne n1, upd_ne n2]; exact e⟩
  · rintro σ' H' ⟨rfl, gs, a, b, c, hj, hg, kp⟩
    refine ⟨_, e0, j, _, 1, _, rfl, rfl, .inl (.inl hj), rfl, _, _, rfl, rfl, _, rfl, ?_⟩
    refine ite2 (fun _ => ?_) (fun _ => ?_)
    · refine ⟨_, e0, j, _, 1, _, rfl, rfl, .inl (.inl hj), rfl, .inl ⟨_, rfl, _, e1, _, _, rfl, rfl, m0, ?_⟩⟩
      have i0 : (σ'.set 2 (some (V.int (a % m))))[0]? = some (some (.ref j)) := by rw [List.getElem?_set_ne (by decide)]; exact e0
      have i1 : (σ'.set 2 (some (V.int (a % m))))[1]? = some (some (.int m)) := by rw [List.getElem?_set_ne (by decide)]; exact e1
      have i2 : (σ'.set 2 (some (V.int (a % m))))[2]? = some (some (.int (a % m))) := by rw [List.getElem?_set_self]; rw [En.len]; show 2 < 3; decide
      refine ⟨_, i0, j, _, 1, _, rfl, rfl, .inl (.inl hj), rfl, _, i1, _, _, rfl, rfl, ⟨m0, m9⟩, _, i0, j, _, 1, 1, rfl, rfl, hj, rfl, _, i2, ?_⟩
      exact out _ gs _ _ _ _ upd_same (by rw [upd_ne ne.symm]; exact hg) (fun b o e n1 n2 => by rw [upd_ne n1]; exact kp b o e n1 n2) (Int.emod_nonneg _ (by omega)) (Int.emod_lt_of_pos _ m0)
    · refine ⟨_, e0, j, _, 3, _, rfl, rfl, .inl (.inl hj), rfl, _, _, rfl, rfl, _, e0, j, _, 3, 3, rfl, rfl, hj, rfl, ?_⟩
      refine ⟨_, e0, j, _, 2, _, rfl, rfl, .inl (.inl upd_same), rfl, _, _, rfl, rfl, .inr ⟨by decide, by decide⟩, _, e0, j, _, 3, _, rfl, rfl, .inl (.inl upd_same), rfl, _, _, rfl, rfl, .inr ⟨by decide, by decide⟩, _, _, rfl, rfl, _, _, rfl, rfl, _, _, rfl, rfl, (show (0 : Int) < 2147483647 by decide), _, e0, j, _, 2, 2, rfl, rfl, upd_same, rfl, ?_⟩
      refine ⟨_, e0, j, _, 2, _, rfl, rfl, .inl (.inl upd_same), rfl, _, _, rfl, rfl, ⟨by decide, by decide⟩, _, e1, _, _, rfl, rfl, m0, ?_⟩
      exact out _ gs _ _ _ _ upd_same (by rw [upd_ne ne.symm, upd_ne ne.symm]; exact hg) (fun b o e n1 n2 => by rw [upd_ne n1, upd_ne n1]; exact kp b o e n1 n2) (Int.emod_nonneg _ (by omega)) (Int.emod_lt_of_pos _ m0)
def phJar : Pm Ref := fun as μ P => ∃ s : Scr, as = [sl s] ∧ μ = [] ∧ ∀ j g, P ⟨j⟩ [JarC j g]
theorem c_jar (D : Dfn K mg "_law_jar" s_law_jar ["script"]) (mi : mg "int" = none) : Cal P w K mg base "_law_jar" 1 ["script"] phJar := by
  refine D.cal sc_law_jar (fun as μ P h => ?_) fun f cdv A outer s H0 E hr as μ Pd h => ?_
  · obtain ⟨s, rfl, _⟩ := h; rfl
  obtain ⟨sc, rfl, rfl, q⟩ := h
  refine db_cons (ds_lcLN (i := 2) (own := [("cell", 1)]) (β := Int) rfl sc_law_jar.nd (blkOk_by (N := ["script", "cell", "great", "mix"]) (sc := defScope s_law_jar) (by decide +kernel)) (fun (x : Int) δ => δ.set 1 (sl x)) (fun _ _ _ _ _ => pg_name (i := 1) sc_law_jar.nd rfl (Or.inl rfl)) (fun x => wb_name) (by decide)
    (de_sliceScr (n := 63) (de_var (i := 0) rfl ⟨fun k ys μ' => μ' = [] ∧ ys.length ≤ k, ⟨rfl, Nat.le_refl _⟩, fun k x ys μ' hx hJ => ?_, fun ys μ' hJ g => ?_⟩)) (sw_true rfl rfl rfl (by decide +kernel)))
  · obtain ⟨rfl, hk⟩ := hJ
    have hk2 : k < 63 := by
      have := (List.getElem?_eq_some_iff.mp hx).1
      rw [List.length_take] at this
      omega
    intro s H C cl fp
    refine dt_ge (de_var (i := 1) rfl (de_pow (de_int (de_int ⟨⟨by decide, by decide, by decide⟩, ⟨fun _ s H C cl fp => ?_, fun _ => ?_⟩⟩))))
    · exact de_var (i := 1) rfl ⟨by omega, rfl, by rw [List.length_append]; exact Nat.succ_le_succ hk⟩
    · exact ⟨rfl, by omega⟩
  obtain ⟨rfl, hk⟩ := hJ
  refine db_cons (ds_set (i := 3) sc_law_jar.nd (de_int ?_))
  refine db_cons (ds_forL PassesOwn.never rfl (pg_name (i := 1) sc_law_jar.nd rfl (Or.inl rfl)) (fun (x : Int) δ => δ.set 1 (sl x)) (fun x δ => wg_name) (de_sliceScr (n := 63) (de_var (i := 0) rfl
    ⟨fun k δ1 μ1 => ∃ (c : Slot) (m : Int), δ1 = [sl sc, c, sl (Ref.mk g), sl m] ∧ μ1 = [lst g ys], ⟨_, _, rfl, rfl⟩, fun k x δ1 μ1 hx hI => ?_, fun δ1 μ1 hI => ?_⟩)))
  · obtain ⟨c, m, rfl, rfl⟩ := hI
    refine db_one (ds_set (i := 3) sc_law_jar.nd (de_mod (de_add (de_add (de_mulS (de_var (i := 3) rfl (de_int ⟨.inr ⟨by decide, by decide⟩, (de_mod (de_intI mi (de_var (i := 1) rfl (de_int ⟨by decide, (de_int (de_int ⟨by decide, ?_⟩))⟩))))⟩)))))))
    exact ⟨_, _, rfl, rfl⟩
  obtain ⟨c, m, rfl, rfl⟩ := hI
  exact db_one (ds_ret (de_jarLit (da_cons (de_var (i := 2) rfl (da_cons (de_int (da_cons (de_var (i := 3) rfl (da_cons (de_int (da_nil ⟨g, ys, _, _, _, rfl, rfl, fun j => q j g⟩)))))))))))
end
end K48
namespace K48
open PySem PySem.Spec PyProof.Rows L2 Dl
theorem atI_mem {α : Type} {xs : List α} {i : Int} (h0 : 0 ≤ i) (h1 : i < xs.length) : ∃ y, atI xs i = some y ∧ y ∈ xs := by
  obtain ⟨k, rfl⟩ := Int.eq_ofNat_of_zero_le h0
  have hk : k < xs.length := by omega
  exact ⟨xs[k], atI_nat (List.getElem?_eq_getElem hk), List.getElem_mem hk⟩
theorem de_tupOf2 {X : Cx} {α : Type} [Enc α] {e : Expr} {δ : List Slot} {μ : List Cell} {P : Tup α → List Cell → Prop} (h : DE X e δ μ fun (x : α × α) μ' => P ⟨[x.1, x.2]⟩ μ') : DE X e δ μ P :=
  fun M σ H E Q q => h M σ H E Q fun x μ' M' v H' p s hh r => by
    obtain ⟨a, v1, v2, rfl, sq, r1, r2⟩ := r
    exact q _ μ' M' _ H' p s hh ⟨a, _, rfl, sq, .cons r1 (.cons r2 .nil)⟩
def phLow : Pm (Int × Int) := fun as μ P => ∃ t b : Int, as = [sl t, sl b] ∧ (0 < b ∧ b.natAbs < 2 ^ 8000) ∧ P (lo t b) μ
def phIsNum : Pm Bool := fun as μ P => ∃ x : Int × Int, as = [sl x] ∧ (0 < x.2 ∧ x.2.natAbs < 2 ^ 8000 ∧ lo x.1 x.2 = x) ∧ P true μ
def phPlace : Pm (Option Int) := fun as μ P => ∃ (x : Int × Int) (r : Int), as = [sl x] ∧ (x = lo r 64 ∧ r.natAbs < 2 ^ 5001) ∧ P (some r) μ
def phRaised : Pm Int := fun as μ P => ∃ x n : Int, as = [sl x, sl n] ∧ (x.natAbs < 2 ^ 9000 ∧ 0 ≤ n ∧ n ≤ 6) ∧ P (x ^ n.toNat) μ
def phLong : Pm Int := fun as μ P => ∃ j g : Addr, as = [sl (Ref.mk j)] ∧ μ = [JarC j g] ∧ ∀ d : Int, 0 ≤ d → d < 10 ^ 12 → P d [JarC j g]
def phSide : Pm Int := fun as μ P => ∃ (p n : Int) (x : Int × Int), as = [sl p, sl n, sl x] ∧ (p.natAbs < 2 ^ 9000 ∧ x.1.natAbs < 2 ^ 4000 ∧ x.2.natAbs < 2 ^ 4000 ∧ 0 ≤ n ∧ n ≤ 6) ∧
  ∀ s : Int, (p ^ n.toNat * x.2 < 64 ^ n.toNat * x.1 ∧ s = -1) ∨ (64 ^ n.toNat * x.1 < p ^ n.toNat * x.2 ∧ s = 1) ∨ (p ^ n.toNat * x.2 = 64 ^ n.toNat * x.1 ∧ s = 0) → P s μ
def Near (x : Int × Int) (n r1 r2 : Int) : Prop := r1.natAbs < 2 ^ 5001 ∧ r2.natAbs < 2 ^ 5001 ∧ (n % 2 = 0 → 0 ≤ r1) ∧ r1 ^ n.toNat * x.2 ≤ x.1 * 64 ^ n.toNat ∧ x.1 * 64 ^ n.toNat < (r1 + 1) ^ n.toNat * x.2 ∧
  (n % 2 = 0 → 0 ≤ r2) ∧ ((n % 2 = 0 ∧ r2 = 0) ∨ (r2 - 1) ^ n.toNat * x.2 < x.1 * 64 ^ n.toNat) ∧ x.1 * 64 ^ n.toNat ≤ r2 ^ n.toNat * x.2
def phNeigh : Pm Bool := fun as μ P => ∃ (n : Int) (x : Int × Int) (r1 r2 : Int), as = [sl n, sl x, sl (lo r1 64), sl (lo r2 64)] ∧ (RtIn x n ∧ Near x n r1 r2) ∧ P true μ
def phCase : Pm (Int × Int) := fun as μ P => ∃ (j g : Addr) (n : Int), as = [sl (Ref.mk j), sl n] ∧ μ = [JarC j g] ∧ (2 ≤ n ∧ n ≤ 6) ∧ ∀ x : Int × Int, RtIn x n → (x.1 < 0 → n % 2 = 1) → P x [JarC j g]
theorem big64 {x : Int} (h0 : 0 ≤ x) (h : x < 10 ^ 12) : x.natAbs < 2 ^ 40 := by
  have e : (10 : Int) ^ 12 = 1000000000000 := by decide
  have e2 : (2 : Nat) ^ 40 = 1099511627776 := by decide
  rw [e] at h; rw [e2]; omega
section
variable {P : Program} {w : World} {K : PySem.W.Frag} {mg : Str → Option Value} {base : Heap}
theorem c_low (D : Dfn K mg "_law_low" s_law_low ["top", "bottom"]) (T : Txt mg) : Cal P w K mg base "_law_low" 1 ["top", "bottom"] phLow := by
  refine D.cal sc_law_low (fun as μ P h => ?_) fun f cdv A outer s H E hr as μ Pd h => ?_
  · obtain ⟨t, b, rfl, _⟩ := h; rfl
  obtain ⟨t, b, rfl, ⟨hb, hb2⟩, q⟩ := h
  have hg := gcd_pos (t := t) hb
  have hl := gcd_le (t := t) hb
  have hd : ∀ z : Int, CDivW z ((Nat.gcd t.natAbs b.natAbs : Nat) : Int) := fun z => divW_of (n := 8000) hg (by omega) (by decide) (by decide)
  refine db_cons (ds_set (i := 2) sc_law_low.nd (de_abs T.abs (de_var (i := 0) rfl ?_)))
  refine db_cons (ds_set (i := 3) sc_law_low.nd (de_abs T.abs (de_var (i := 1) rfl ?_)))
  refine db_cons (ds_while PassesOwn.never (fun m δ' μ' => ∃ x y : Nat, δ' = [sl t, sl b, sl (x : Int), sl (y : Int)] ∧ μ' = μ ∧ m = y ∧ Nat.gcd x y = Nat.gcd t.natAbs b.natAbs) b.natAbs ⟨_, _, rfl, rfl, rfl, rfl⟩ fun m δ' μ' hI => ?_)
  obtain ⟨x, y, rfl, rfl, rfl, e⟩ := hI
  refine dt_gt (de_var (i := 3) rfl (de_int ⟨fun h => ⟨fun δ2 μ2 => ∃ x' y' : Nat, δ2 = [sl t, sl b, sl (x' : Int), sl (y' : Int)] ∧ μ2 = μ' ∧ y' < m ∧ Nat.gcd x' y' = Nat.gcd t.natAbs b.natAbs, ?_, ?_⟩, fun h => ?_⟩))
  · rintro δ2 μ2 ⟨x', y', e1, e2, l, r⟩
    exact ⟨y', l, x', y', e1, e2, rfl, r⟩
  · have h := of_decide_eq_true h
    have hm : 0 < m := by omega
    refine db_one (ds_par (i := 2) (j := 3) rfl sc_law_low.nd (by decide) (de_var (i := 3) rfl (de_mod (de_intI T.int (de_var (i := 2) rfl (de_var (i := 3) rfl ⟨h, ?_⟩))))) (by rfl))
    refine ⟨m, x % m, rfl, rfl, Nat.mod_lt _ hm, ?_⟩
    rw [Nat.gcd_comm, ← Nat.gcd_rec, Nat.gcd_comm] <;> exact e
  have h := of_decide_eq_false h
  have hm : m = 0 := by omega
  subst hm
  rw [Nat.gcd_zero_right] at e
  subst e
  refine db_cons (ds_if (dt_lt (de_var (i := 1) rfl (de_int ⟨fun h => ?_, fun h => ?_⟩))))
  · exact absurd (of_decide_eq_true h) (by omega)
  refine db_nil ?_
  exact db_one (ds_ret (de_tup2 (de_div (de_var (i := 0) rfl (de_var (i := 2) rfl ⟨hd _, (de_div (de_var (i := 1) rfl (de_var (i := 2) rfl ⟨hd _, q⟩)))⟩)))))
theorem c_isnum (D : Dfn K mg "_law_is_number" s_law_is_number ["x"]) (T : Txt mg) (cl : Cal P w K mg base "_law_low" 1 ["top", "bottom"] phLow) : Cal P w K mg base "_law_is_number" 2 ["x"] phIsNum := by
  refine D.cal sc_law_is_number (fun as μ P h => ?_) fun f cdv A outer s H E hr as μ Pd h => ?_
  · obtain ⟨x, rfl, _⟩ := h; rfl
  obtain ⟨x, rfl, ⟨h1, h2, h3⟩, q⟩ := h
  refine db_cons (ds_if (dw_or (dt_not (dt_val (de_isi (T := "tuple") (r := true) (by decide +kernel) T.isinstance T.tuple (by decide +kernel) (de_var (i := 0) rfl ⟨fun h => (nomatch h), fun _ => (dw_or1 (dt_neI (de_len2 T.len (de_var (i := 0) rfl (de_int ⟨fun h => absurd h (by decide), fun h => ?_⟩)))))⟩))))).dt)
  refine db_nil ?_
  refine db_cons (ds_forT PassesOwn.never rfl (pg_name (i := 1) sc_law_is_number.nd rfl (Or.inl rfl)) (fun x δ => δ.set 1 (sl x)) (fun x δ => wg_name) (de_tupOf2 (de_var (i := 0) rfl ⟨fun k δ1 μ1 => ∃ s, δ1 = [sl x, s] ∧ μ1 = μ, ⟨_, rfl, rfl⟩, fun k y δ1 μ1 hx hI => ?_, fun δ1 μ1 hI => ?_⟩)))
  · obtain ⟨s, rfl, rfl⟩ := hI
    refine db_cons (ds_if (dw_or (dt_not (dt_val (de_isi (T := "int") (r := true) (by decide +kernel) T.isinstance T.int (by decide +kernel) (de_var (i := 1) rfl ⟨fun h => (nomatch h), fun h => (dw_or1 (dt_val (de_isi (T := "bool") (r := false) (by decide +kernel) T.isinstance T.bool (by decide +kernel) (de_var (i := 1) rfl ⟨fun h => (nomatch h), fun h => ?_⟩))))⟩))))).dt)
    exact db_nil (db_nil ⟨_, rfl, rfl⟩)
  obtain ⟨s, rfl, rfl⟩ := hI
  refine db_one (ds_ret (de_and (de_ge (de_ix1 (de_var (i := 0) rfl (de_int ⟨fun h => ?_, fun h => ?_⟩))))))
  · refine de_one (de_eqD (α := Int × Int) (un_of hr) (by decide) ?_)
    refine (de_c1 cl hr (by decide) (da_cons (de_ix0 (de_var (i := 0) rfl (da_cons (de_ix1 (de_var (i := 0) rfl (da_nil ⟨[], _, parts_none, _, _, rfl, ⟨h1, h2⟩, (de_var (i := 0) rfl fun r hr1 => ?_)⟩))))))))
    rw [hr1.mpr h3]; exact q
  · exact absurd (of_decide_eq_false h) (by omega)
theorem c_raised (D : Dfn K mg "_law_raised" s_law_raised ["number", "count"]) (T : Txt mg) : Cal P w K mg base "_law_raised" 1 ["number", "count"] phRaised := by
  refine D.cal sc_law_raised (fun as μ P h => ?_) fun f cdv A outer s H E hr as μ Pd h => ?_
  · obtain ⟨x, n, rfl, _⟩ := h; rfl
  obtain ⟨x, n, rfl, ⟨h1, h2, h3⟩, q⟩ := h
  refine db_cons (ds_set (i := 2) sc_law_raised.nd (de_int ?_))
  refine db_cons (ds_range1 (i := 3) PassesOwn.never rfl sc_law_raised.nd T.range (de_var (i := 1) rfl ⟨by omega, by omega, fun k δ' μ' => ∃ s, δ' = [sl x, sl n, sl (x ^ k), s] ∧ μ' = μ, ⟨_, by rw [Int.pow_zero]; rfl, rfl⟩, fun k δ' μ' hk hI => ?_, fun δ' μ' hI => ?_⟩))
  · obtain ⟨s, rfl, rfl⟩ := hI
    have b1 : (x ^ k).natAbs < 2 ^ 60000 := pow2_mono (pow_le' h1 (by decide) k) (by
      have : 9000 * k ≤ 9000 * 6 := Nat.mul_le_mul_left _ (by omega)
      omega)
    refine db_one (ds_set (i := 2) sc_law_raised.nd (de_mul (de_var (i := 2) rfl (de_var (i := 0) rfl ⟨mulx_of b1 h1 (by decide), ?_⟩))))
    exact ⟨_, by rw [Int.pow_succ]; rfl, rfl⟩
  obtain ⟨s, rfl, rfl⟩ := hI
  exact db_one (ds_ret (de_var (i := 2) rfl q))
theorem c_place (D : Dfn K mg "_law_place" s_law_place ["told"]) (T : Txt mg) (cn : Cal P w K mg base "_law_is_number" 2 ["x"] phIsNum) : Cal P w K mg base "_law_place" 3 ["told"] phPlace := by
  refine D.cal sc_law_place (fun as μ P h => ?_) fun f cdv A outer s H E hr as μ Pd h => ?_
  · obtain ⟨x, r, rfl, _⟩ := h; rfl
  obtain ⟨x, r, rfl, ⟨rfl, h2⟩, q⟩ := h
  have l1 : (lo r 64).1.natAbs < 2 ^ 5001 := Nat.lt_of_le_of_lt (lo_abs1 r 64) h2
  have l2p : 0 < (lo r 64).2 := lo_pos (by decide)
  have l2l : (lo r 64).2 ≤ 64 := lo_le2 (by decide)
  have l2 : (lo r 64).2.natAbs < 2 ^ 8000 := abs_lt_of_le (Int.le_of_lt l2p) l2l lt64
  have g0 := gcd_pos (t := r) (b := 64) (by decide)
  have e1 := lo_mul1 (t := r) (b := 64)
  have e2 := lo_mul2 (t := r) (b := 64)
  have e3 := lo_lo (t := r) (b := 64) (by decide)
  have gl : ((Nat.gcd r.natAbs (64 : Int).natAbs : Nat) : Int).natAbs < 2 ^ 8000 := abs_lt_of_le (Int.le_of_lt g0) (gcd_le (by decide)) lt64
  generalize ((Nat.gcd r.natAbs (64 : Int).natAbs : Nat) : Int) = g at g0 e1 e2 gl
  have hdiv : (64 : Int) / (lo r 64).2 = g := Int.ediv_eq_of_eq_mul_right (by omega) e2.symm
  have hmod : (64 : Int) % (lo r 64).2 = 0 := Int.emod_eq_zero_of_dvd ⟨g, e2.symm⟩
  refine db_cons (ds_if (dw_or (dt_not (dt_val (de_c1 cn hr (by decide) (da_cons (de_var (i := 0) rfl (da_nil ⟨[], _, parts_none, _, rfl, ⟨l2p, l2, e3⟩, ⟨fun h => (nomatch h), fun h => (dw_or (dt_gt (de_ix1 (de_var (i := 0) rfl (de_int ⟨fun h => ?_, fun h => (dw_or1 (dt_neI (de_mod (de_intI T.int (de_int (de_ix1 (de_var (i := 0) rfl ⟨l2p, (de_int ⟨fun h => ?_, fun h => ?_⟩)⟩)))))))⟩)))))⟩⟩))))))).dt)
  · exact absurd (of_decide_eq_true h) (by omega)
  · rw [hmod] at h
    exact absurd h (by decide)
  refine db_nil ?_
  refine db_one (ds_ret (de_some (de_mul (de_ix0 (de_var (i := 0) rfl (de_div (de_int (de_ix1 (de_var (i := 0) rfl ⟨divW_of l2p l2 (by decide) (by decide), ⟨?_, ?_⟩⟩)))))))))
  · rw [hdiv]; exact mulx_of l1 gl (by decide)
  · rw [hdiv, e1]; exact q
theorem c_side (D : Dfn K mg "_law_side" s_law_side ["place", "count", "number"]) (cr : Cal P w K mg base "_law_raised" 1 ["number", "count"] phRaised) : Cal P w K mg base "_law_side" 2 ["place", "count", "number"] phSide := by
  refine D.cal sc_law_side (fun as μ P h => ?_) fun f cdv A outer s H E hr as μ Pd h => ?_
  · obtain ⟨p, n, x, rfl, _⟩ := h; rfl
  obtain ⟨p, n, x, rfl, ⟨h1, h2, h3, h4, h5⟩, q⟩ := h
  have b1 : (p ^ n.toNat).natAbs < 2 ^ 60000 := pow2_mono (pow_le' h1 (by decide) _) (by
    have : 9000 * n.toNat ≤ 9000 * 6 := Nat.mul_le_mul_left _ (by omega)
    omega)
  obtain ⟨_, b2⟩ := p64 n.toNat (by omega)
  refine db_cons (ds_set (i := 3) sc_law_side.nd (de_mul (de_c1 cr hr (by decide) (da_cons (de_var (i := 0) rfl (da_cons (de_var (i := 1) rfl (da_nil ⟨[], _, parts_none, _, _, rfl, ⟨h1, h4, h5⟩, (de_ix1 (de_var (i := 2) rfl ⟨mulx_of b1 h3 (by decide), ?_⟩))⟩))))))))
  refine db_cons (ds_set (i := 4) sc_law_side.nd (de_mul (de_c1 cr hr (by decide) (da_cons (de_int (da_cons (de_var (i := 1) rfl (da_nil ⟨[], _, parts_none, _, _, rfl, ⟨lt64', h4, h5⟩, (de_ix0 (de_var (i := 2) rfl ⟨mulx_of b2 h2 (by decide), ?_⟩))⟩))))))))
  refine db_cons (ds_if (dt_lt (de_var (i := 3) rfl (de_var (i := 4) rfl ⟨fun h => ?_, fun h => ?_⟩))))
  · exact db_one (ds_ret (de_neg (de_int (q _ (.inl ⟨of_decide_eq_true h, rfl⟩)))))
  have ha := of_decide_eq_false h
  refine db_nil ?_
  refine db_cons (ds_if (dt_gt (de_var (i := 3) rfl (de_var (i := 4) rfl ⟨fun h => ?_, fun h => ?_⟩))))
  · exact db_one (ds_ret (de_int (q _ (.inr (.inl ⟨of_decide_eq_true h, rfl⟩)))))
  have hb := of_decide_eq_false h
  refine db_nil ?_
  exact db_one (ds_ret (de_int (q _ (.inr (.inr ⟨by omega, rfl⟩)))))
end
end K48
namespace K48
open PySem PySem.Spec PyProof.Rows L2 Dl
theorem six (n : Int) (h2 : 2 ≤ n) (h6 : n ≤ 6) : n = 2 ∨ n = 3 ∨ n = 4 ∨ n = 5 ∨ n = 6 := by omega
/-- what the case hands on ahead of the signs -/
def CaseB (t b : Int) : Prop := t.natAbs < 2 ^ 4000 ∧ 0 < b ∧ b.natAbs < 2 ^ 4000
theorem p10_40 : ((10 : Int) ^ 40).natAbs < 2 ^ 140 := by decide
theorem lo_rt {t b n : Int} (h : CaseB t b) (h2 : 2 ≤ n) (h6 : n ≤ 6) : RtIn (lo t b) n :=
  ⟨Nat.lt_of_le_of_lt (lo_abs1 t b) h.1, lo_pos h.2.1, abs_lt_of_le (Int.le_of_lt (lo_pos h.2.1)) (lo_le2 h.2.1) h.2.2, h2, h6⟩
theorem lo_neg1 {t b : Int} (hb : 0 < b) (h : (lo t b).1 < 0) : t < 0 := by
  have e := lo_mul1 (t := t) (b := b)
  have g := gcd_pos (t := t) hb
  rw [← e]
  exact Int.mul_neg_of_neg_of_pos h g
section
variable {P : Program} {w : World} {K : PySem.W.Frag} {mg : Str → Option Value} {base : Heap}
theorem c_long (D : Dfn K mg "_law_long" s_law_long ["jar"]) (cd : Cal P w K mg base "_law_draw" 1 ["jar", "many"] phDraw) : Cal P w K mg base "_law_long" 2 ["jar"] phLong := by
  refine D.cal sc_law_long (fun as μ P h => ?_) fun f cdv A outer s H E hr as μ Pd h => ?_
  · obtain ⟨j, g, rfl, _⟩ := h; rfl
  obtain ⟨j, g, rfl, rfl, q⟩ := h
  refine db_one (ds_ret (de_add (de_mulS (de_c1 cd hr (by decide) (da_cons (de_var (i := 0) rfl (da_cons (de_pow (de_int (de_int ⟨⟨by decide, by decide, by decide⟩, (da_nil ⟨_, _, parts_hd, _, _, _, rfl, rfl, ⟨by decide, by decide⟩, fun d h0 h1 => (de_pow (de_int (de_int ⟨⟨by decide, by decide, by decide⟩, ⟨.inr ⟨by decide, by decide⟩, (de_c1 cd hr (by decide) (da_cons (de_var (i := 0) rfl (da_cons (de_pow (de_int (de_int ⟨⟨by decide, by decide, by decide⟩, (da_nil ⟨_, _, parts_hd, _, _, _, rfl, rfl, ⟨by decide, by decide⟩, fun d' h0' h1' => ?_⟩)⟩)))))))⟩⟩)))⟩)⟩))))))))))
  have e6 : (10 : Int) ^ (6 : Int).toNat = 1000000 := by decide
  have e12 : (10 : Int) ^ 12 = 1000000000000 := by decide
  rw [e6] at h1 h1'
  rw [e6]
  exact q _ (by omega) (by rw [e12]; omega)
theorem c_case (D : Dfn K mg "_law_case" s_law_case ["jar", "count"]) (T : Txt mg) (cd : Cal P w K mg base "_law_draw" 1 ["jar", "many"] phDraw) (cg : Cal P w K mg base "_law_long" 2 ["jar"] phLong)
    (cr : Cal P w K mg base "_law_raised" 1 ["number", "count"] phRaised) (cl : Cal P w K mg base "_law_low" 1 ["top", "bottom"] phLow) : Cal P w K mg base "_law_case" 3 ["jar", "count"] phCase := by
  refine D.cal sc_law_case (fun as μ P h => ?_) fun f cdv A outer s H E hr as μ Pd h => ?_
  · obtain ⟨j, g, n, rfl, _⟩ := h; rfl
  obtain ⟨j, g, n, rfl, rfl, ⟨h2, h6⟩, q⟩ := h
  have e12 : (10 : Int) ^ 12 = 1000000000000 := by decide
  refine db_cons (ds_set (i := 2) sc_law_case.nd (de_ixL (de_lstF (da_cons (de_c1 cd hr (by decide) (da_cons (de_var (i := 0) rfl (da_cons (de_int (da_nil ⟨_, _, parts_hd, _, _, _, rfl, rfl, ⟨by decide, by decide⟩, fun d1 a0 a1 => (da_cons (de_c1 cd hr (by decide) (da_cons (de_var (i := 0) rfl (da_cons (de_int (da_nil ⟨_, _, parts_hd, _, _, _, rfl, rfl, ⟨by decide, by decide⟩, fun d2 b0 b1 => (da_cons (de_c1 cg hr (by decide) (da_cons (de_var (i := 0) rfl (da_nil ⟨_, _, parts_hd, _, _, rfl, rfl, fun d3 c0 c1 => (da_nil ⟨[d1, d2, d3], rfl, (by show 3 ≤ 1000; decide), (de_c1 cd hr (by decide) (da_cons (de_var (i := 0) rfl (da_cons (de_int (da_nil ⟨_, _, parts_hd, _, _, _, rfl, rfl, ⟨by decide, by decide⟩, fun d h0 h1 => ?_⟩))))))⟩)⟩)))))⟩)))))))⟩))))))))))
  obtain ⟨pl, e, hm⟩ := atI_mem (xs := [d1, d2, d3]) h0 (by exact h1)
  refine ⟨pl, e, ?_⟩
  have hp : 0 ≤ pl ∧ pl < 10 ^ 12 := by
    rw [e12] at c1 ⊢
    simp only [List.mem_cons, List.mem_nil_iff, or_false] at hm
    rcases hm with rfl | rfl | rfl <;> omega
  have hp1 : pl.natAbs < 2 ^ 40 := big64 hp.1 hp.2
  have t1 : (pl ^ n.toNat).natAbs < 2 ^ 300 := pow2_mono (pow_le' hp1 (by decide) _) (by
    have : 40 * n.toNat ≤ 40 * 6 := Nat.mul_le_mul_left _ (by omega)
    omega)
  obtain ⟨s1, s2⟩ := p64 n.toNat (by omega)
  refine db_cons (ds_set (i := 3) sc_law_case.nd (de_c1 cr hr (by decide) (da_cons (de_var (i := 2) rfl (da_cons (de_var (i := 1) rfl (da_nil ⟨[], _, parts_none, _, _, rfl, ⟨pow2_mono hp1 (by decide), by omega, h6⟩, ?_⟩)))))))
  refine db_cons (ds_set (i := 4) sc_law_case.nd (de_c1 cr hr (by decide) (da_cons (de_int (da_cons (de_var (i := 1) rfl (da_nil ⟨[], _, parts_none, _, _, rfl, ⟨lt64', by omega, h6⟩, ?_⟩)))))))
  refine db_cons (ds_set (i := 5) sc_law_case.nd (de_c1 cd hr (by decide) (da_cons (de_var (i := 0) rfl (da_cons (de_int (da_nil ⟨_, _, parts_hd, _, _, _, rfl, rfl, ⟨by decide, by decide⟩, fun ca k0 k1 => ?_⟩)))))))
  refine db_cons (DS.mid (fun δ' μ' => ∃ (t b : Int) (s : Slot), δ' = [sl (Ref.mk j), sl n, sl pl, sl t, sl b, sl ca, s] ∧ μ' = [JarC j g] ∧ CaseB t b) ?_ ?_)
  · refine ds_if (dt_eqI (de_var (i := 5) rfl (de_int ⟨fun h => ?_, fun h => ?_⟩)))
    · -- case 5
      refine db_one (ds_set (i := 3) sc_law_case.nd (de_int ?_))
      exact ⟨_, _, _, rfl, rfl, by show (0 : Int).natAbs < _; exact Nat.pow_pos (by decide), s1, pow2_mono s2 (by decide)⟩
    refine db_one (ds_if (dt_eqI (de_var (i := 5) rfl (de_int ⟨fun h => ?_, fun h => ?_⟩))))
    · -- case 6
      refine db_cons (ds_set (i := 3) sc_law_case.nd (de_c1 cg hr (by decide) (da_cons (de_var (i := 0) rfl (da_nil ⟨_, _, parts_hd, _, _, rfl, rfl, fun d h0 h1 => ?_⟩)))))
      refine db_one (ds_set (i := 4) sc_law_case.nd (de_add (de_int (de_mulS (de_c1 cd hr (by decide) (da_cons (de_var (i := 0) rfl (da_cons (de_pow (de_int (de_int ⟨⟨by decide, by decide, by decide⟩, (da_nil ⟨_, _, parts_hd, _, _, _, rfl, rfl, ⟨by decide, by decide⟩, fun d' h0' h1' => (de_int ⟨.inr ⟨by decide, by decide⟩, ?_⟩)⟩)⟩)))))))))))
      have e6 : (10 : Int) ^ (6 : Int).toNat = 1000000 := by decide
      rw [e6] at h1'
      refine ⟨_, _, _, rfl, rfl, pow2_mono (big64 h0 h1) (by decide), by omega, pow2_mono (big64 (x := 1 + d' * 999999) (by omega) (by rw [e12]; omega)) (by decide)⟩
    refine db_one (ds_if (dt_eqI (de_var (i := 5) rfl (de_int ⟨fun h => ?_, fun h => ?_⟩))))
    · -- case 7
      refine db_cons (ds_set (i := 3) sc_law_case.nd (de_c1 cd hr (by decide) (da_cons (de_var (i := 0) rfl (da_cons (de_int (da_nil ⟨_, _, parts_hd, _, _, _, rfl, rfl, ⟨by decide, by decide⟩, fun d h0 h1 => ?_⟩)))))))
      refine db_one (ds_set (i := 4) sc_law_case.nd (de_int ?_))
      exact ⟨_, _, _, rfl, rfl, pow2_mono (big64 h0 (by rw [e12]; omega)) (by decide), by decide, pow2_mono (big64 (x := 1) (by decide) (by decide)) (by decide)⟩
    refine db_one (ds_if (dt_gt (de_var (i := 5) rfl (de_int ⟨fun h => ?_, fun h => ?_⟩))))
    · -- 3, 4
      refine db_cons (ds_set (i := 6) sc_law_case.nd (de_ixL (de_lstF (da_cons (de_int (da_cons (de_int (da_cons (de_pow (de_int (de_int ⟨⟨by decide, by decide, by decide⟩, (da_cons (de_pow (de_int (de_int ⟨⟨by decide, by decide, by decide⟩, (da_nil ⟨[1, 7, 10 ^ 9, 10 ^ 40], rfl, by decide, (de_c1 cd hr (by decide) (da_cons (de_var (i := 0) rfl (da_cons (de_int (da_nil ⟨_, _, parts_hd, _, _, _, rfl, rfl, ⟨by decide, by decide⟩, fun d h0 h1 => ?_⟩))))))⟩)⟩))))⟩)))))))))))
      obtain ⟨sm, e, hm⟩ := atI_mem (xs := [(1 : Int), 7, 10 ^ 9, 10 ^ 40]) h0 (by exact h1)
      refine ⟨sm, e, ?_⟩
      have hs : 0 < sm ∧ sm.natAbs < 2 ^ 140 := by
        simp only [List.mem_cons, List.mem_nil_iff, or_false] at hm
        rcases hm with rfl | rfl | rfl | rfl <;> decide
      refine db_cons (ds_set (i := 3) sc_law_case.nd (de_sub (de_add (de_mul (de_var (i := 3) rfl (de_var (i := 6) rfl ⟨mulx_of t1 hs.2 (by decide), (de_int (de_mulS (de_int (de_intB T.int (de_eqI (de_var (i := 5) rfl (de_int ⟨.inl ⟨by decide, by decide⟩, ?_⟩)))))))⟩))))))
      refine db_one (ds_set (i := 4) sc_law_case.nd (de_mul (de_var (i := 4) rfl (de_var (i := 6) rfl ⟨mulx_of s2 hs.2 (by decide), ?_⟩))))
      refine ⟨_, _, _, rfl, rfl, ?_, Int.mul_pos s1 hs.1, pow2_mono (natAbs_lt_mul s2 hs.2) (by decide)⟩
      have m1 := natAbs_lt_mul t1 hs.2
      have m2 : (2 : Nat) ^ (300 + 140) + 10 < 2 ^ 4000 := Nat.lt_of_lt_of_le (m := 2 ^ 500) (by decide) (Nat.pow_le_pow_right (by decide) (by decide))
      split <;> omega
    · exact db_nil ⟨_, _, _, rfl, rfl, pow2_mono t1 (by decide), s1, pow2_mono s2 (by decide)⟩
  rintro δ' μ' ⟨t, b, s, rfl, rfl, hc⟩
  refine db_cons (DS.mid (fun δ' μ' => ∃ t : Int, δ' = [sl (Ref.mk j), sl n, sl pl, sl t, sl b, sl ca, s] ∧ μ' = [JarC j g] ∧ CaseB t b ∧ (t < 0 → n % 2 = 1)) ?_ ?_)
  · refine ds_if (dw_and (dt_lt (de_var (i := 3) rfl (de_int ⟨fun hneg => (dw_and1 (dt_eqI (de_mod (de_intI T.int (de_var (i := 1) rfl (de_int ⟨by decide, (de_int ⟨fun h => ?_, fun h => ?_⟩)⟩)))))), fun h => ⟨fun h => (nomatch h), fun _ => ?_⟩⟩)))).dt
    · refine db_one (ds_set (i := 3) sc_law_case.nd (de_neg (de_var (i := 3) rfl ?_)))
      have hneg := of_decide_eq_true hneg
      exact ⟨-t, rfl, rfl, ⟨by rw [Int.natAbs_neg]; exact hc.1, hc.2⟩, fun z => by omega⟩
    · have := of_decide_eq_false h
      exact db_nil ⟨t, rfl, rfl, hc, fun _ => by omega⟩
    · have := of_decide_eq_false h
      exact db_nil ⟨t, rfl, rfl, hc, fun _ => by omega⟩
  rintro δ' μ' ⟨t, rfl, rfl, hc, hodd⟩
  refine db_cons (DS.mid (fun δ' μ' => ∃ t : Int, δ' = [sl (Ref.mk j), sl n, sl pl, sl t, sl b, sl ca, s] ∧ μ' = [JarC j g] ∧ CaseB t b ∧ (t < 0 → n % 2 = 1)) ?_ ?_)
  · refine ds_if (dw_and (dt_eqI (de_mod (de_intI T.int (de_var (i := 1) rfl (de_int ⟨by decide, (de_int ⟨fun hn => (dw_and1 (dt_eqI (de_c1 cd hr (by decide) (da_cons (de_var (i := 0) rfl (da_cons (de_int (da_nil ⟨_, _, parts_hd, _, _, _, rfl, rfl, ⟨by decide, by decide⟩, fun d h0 h1 => (de_int ⟨fun h => ?_, fun h => ?_⟩)⟩)))))))), fun h => ⟨fun h => (nomatch h), fun _ => ?_⟩⟩)⟩)))))).dt
    · refine db_one (ds_set (i := 3) sc_law_case.nd (de_neg (de_var (i := 3) rfl ?_)))
      have hn := of_decide_eq_true hn
      exact ⟨-t, rfl, rfl, ⟨by rw [Int.natAbs_neg]; exact hc.1, hc.2⟩, fun _ => hn⟩
    · exact db_nil ⟨t, rfl, rfl, hc, hodd⟩
    · exact db_nil ⟨t, rfl, rfl, hc, hodd⟩
  rintro δ' μ' ⟨t, rfl, rfl, hc, hodd⟩
  refine db_one (ds_ret (de_c1 cl hr (by decide) (da_cons (de_var (i := 3) rfl (da_cons (de_var (i := 4) rfl (da_nil ⟨[], _, parts_none, _, _, rfl, ⟨hc.2.1, pow2_mono hc.2.2 (by decide)⟩, ?_⟩)))))))
  exact q _ (lo_rt hc h2 h6) fun z => hodd (lo_neg1 hc.2.1 z)
end
end K48
namespace K48
open PySem PySem.Spec PyProof.Rows L2 Dl
theorem de_unsome {X : Cx} {α : Type} [Enc α] [NN α] {e : Expr} {δ : List Slot} {μ : List Cell} {P : α → List Cell → Prop} (h : DE X e δ μ fun (x : Option α) μ' => ∃ y, x = some y ∧ P y μ') : DE X e δ μ P :=
  fun M σ H E Q q => h M σ H E Q fun x μ' M' v H' p s hh r => by
    obtain ⟨y, rfl, p⟩ := p
    exact q y μ' M' v H' p s hh r
theorem abs_add1 {r : Int} {n : Nat} (h : r.natAbs < 2 ^ 5001) (hn : 5002 ≤ n) (d : Int) (hd : d.natAbs ≤ 1) : (r + d).natAbs < 2 ^ n := by
  have : (2 : Nat) ^ 5002 = 2 ^ 5001 * 2 := Nat.pow_succ _ _
  have p1 : 0 < (2 : Nat) ^ 5001 := Nat.pow_pos (by decide)
  exact Nat.lt_of_lt_of_le (m := 2 ^ 5002) (by omega) (Nat.pow_le_pow_right (by decide) hn)
section
variable {P : Program} {w : World} {K : PySem.W.Frag} {mg : Str → Option Value} {base : Heap}
theorem c_neigh (D : Dfn K mg "_law_neighbours" s_law_neighbours ["count", "number", "one", "two"]) (T : Txt mg) (cp : Cal P w K mg base "_law_place" 3 ["told"] phPlace) (cs : Cal P w K mg base "_law_side" 2 ["place", "count", "number"] phSide) :
    Cal P w K mg base "_law_neighbours" 4 ["count", "number", "one", "two"] phNeigh := by
  refine D.cal sc_law_neighbours (fun as μ P h => ?_) fun f cdv A outer s H E hr as μ Pd h => ?_
  · obtain ⟨n, x, r1, r2, rfl, _⟩ := h; rfl
  obtain ⟨n, x, r1, r2, rfl, ⟨⟨h1, h2, h3, h4, h5⟩, n1, n2, n3, n4, n5, n6, n7, n8⟩, q⟩ := h
  refine db_cons (ds_set (i := 4) sc_law_neighbours.nd (de_unsome (de_c1 cp hr (by decide) (da_cons (de_var (i := 2) rfl (da_nil ⟨[], _, parts_none, _, r1, rfl, ⟨rfl, n1⟩, ⟨_, rfl, ?_⟩⟩))))))
  refine db_cons (ds_set (i := 5) sc_law_neighbours.nd (de_unsome (de_c1 cp hr (by decide) (da_cons (de_var (i := 3) rfl (da_nil ⟨[], _, parts_none, _, r2, rfl, ⟨rfl, n2⟩, ⟨_, rfl, ?_⟩⟩))))))
  refine db_cons (ds_if (dw_or (dt_isN (de_some (de_var (i := 4) rfl ⟨fun h => (nomatch h), fun _ => (dw_or1 (dt_isN (de_some (de_var (i := 5) rfl ⟨fun h => (nomatch h), fun _ => ?_⟩))))⟩)))).dt)
  refine db_nil ?_
  refine db_cons (ds_set (i := 6) sc_law_neighbours.nd (de_eqI (de_mod (de_intI T.int (de_var (i := 0) rfl (de_int ⟨by decide, (de_int ?_)⟩))))))
  have kodd : decide (n % 2 = 1) = false → n % 2 = 0 := fun h => by
    have := of_decide_eq_false h
    omega
  have sz : ∀ (r : Int), r.natAbs < 2 ^ 9000 → r.natAbs < 2 ^ 9000 ∧ x.1.natAbs < 2 ^ 4000 ∧ x.2.natAbs < 2 ^ 4000 ∧ 0 ≤ n ∧ n ≤ 6 := fun r h => ⟨h, h1, h3, by omega, h5⟩
  have go : DB (cxD P w K mg base ["count", "number", "one", "two", "low", "high", "odd"] "_law_neighbours" s_law_neighbours f cdv A outer s H E) ((defBody s_law_neighbours).drop 5)
      [sl n, sl x, sl (lo r1 64), sl (lo r2 64), sl r1, sl r2, sl (decide (n % 2 = 1))] μ (fun _ μ' => ∃ x : Bool, (∀ K M H, Enc.R K M H .non x) ∧ Pd x μ') Pd (fun _ _ => False) (fun _ _ => False) := by
    refine db_cons (ds_if (dw_or (dt_gt (de_c1 cs hr (by decide) (da_cons (de_var (i := 4) rfl (da_cons (de_var (i := 0) rfl (da_cons (de_var (i := 1) rfl (da_nil ⟨[], _, parts_none, _, _, _, rfl, sz r1 (pow2_mono n1 (by decide)), fun s1 hs1 => (de_int ⟨fun h => ?_, fun h => (dw_or1 (dt_le (de_c1 cs hr (by decide) (da_cons (de_add (de_var (i := 4) rfl (de_int (da_cons (de_var (i := 0) rfl (da_cons (de_var (i := 1) rfl (da_nil ⟨[], _, parts_none, _, _, _, rfl, sz _ (abs_add1 n1 (by decide) 1 (by decide)), fun s2 hs2 => (de_int ⟨fun h => ?_, fun h => ?_⟩)⟩))))))))))))⟩)⟩)))))))))).dt)
    · have h := of_decide_eq_true h
      rw [Int.mul_comm (64 ^ n.toNat)] at hs1
      omega
    · have h := of_decide_eq_true h
      rw [Int.mul_comm (64 ^ n.toNat)] at hs2
      omega
    refine db_nil ?_
    refine db_cons (ds_if (dt_lt (de_c1 cs hr (by decide) (da_cons (de_var (i := 5) rfl (da_cons (de_var (i := 0) rfl (da_cons (de_var (i := 1) rfl (da_nil ⟨[], _, parts_none, _, _, _, rfl, sz r2 (pow2_mono n2 (by decide)), fun s3 hs3 => (de_int ⟨fun h => ?_, fun h => ?_⟩)⟩))))))))))
    · have h := of_decide_eq_true h
      rw [Int.mul_comm (64 ^ n.toNat)] at hs3
      omega
    refine db_nil ?_
    refine db_one (ds_ret (de_or (de_and (de_not (de_var (i := 6) rfl ⟨fun ho => (de_one (de_eqI (de_var (i := 5) rfl (de_int ⟨fun h => ?_, fun h => (de_one (de_lt (de_c1 cs hr (by decide) (da_cons (de_sub (de_var (i := 5) rfl (de_int (da_cons (de_var (i := 0) rfl (da_cons (de_var (i := 1) rfl (da_nil ⟨[], _, parts_none, _, _, _, rfl, sz _ (abs_add1 n2 (by decide) (-1) (by decide)), fun s4 hs4 => (de_int ?_)⟩))))))))))))⟩)))), fun ho => ⟨fun h => (nomatch h), fun _ => (de_one (de_lt (de_c1 cs hr (by decide) (da_cons (de_sub (de_var (i := 5) rfl (de_int (da_cons (de_var (i := 0) rfl (da_cons (de_var (i := 1) rfl (da_nil ⟨[], _, parts_none, _, _, _, rfl, sz _ (abs_add1 n2 (by decide) (-1) (by decide)), fun s4 hs4 => (de_int ?_)⟩))))))))))))⟩⟩)))))
    · exact q
    · have h := of_decide_eq_false h
      rcases n7 with n7 | n7
      · exact absurd n7.2 h
      · rw [Int.mul_comm (64 ^ n.toNat)] at hs4
        rw [decide_eq_true (show s4 < 0 by
          have e : r2 - 1 = r2 + -1 := rfl
          rw [e] at n7 hs4
          omega)]
        exact q
    · rcases n7 with n7 | n7
      · have : decide (n % 2 = 1) = true := by
          cases hd : decide (n % 2 = 1) with
          | true => rfl
          | false => rw [hd] at ho; cases ho
        have := of_decide_eq_true this
        omega
      · rw [Int.mul_comm (64 ^ n.toNat)] at hs4
        rw [decide_eq_true (show s4 < 0 by
          have e : r2 - 1 = r2 + -1 := rfl
          rw [e] at n7 hs4
          omega)]
        exact q
  refine db_cons (ds_if (dw_and (dt_not (dt_val (de_var (i := 6) rfl ⟨fun ho => (dw_and1 (dw_or (dt_lt (de_var (i := 4) rfl (de_int ⟨fun h => ?_, fun h => (dw_or1 (dt_lt (de_var (i := 5) rfl (de_int ⟨fun h => ?_, fun h => ?_⟩))))⟩)))).dt), fun ho => ⟨fun h => (nomatch h), fun _ => db_nil go⟩⟩)))).dt)
  · have h := of_decide_eq_true h
    have := n3 (kodd (by cases hd : decide (n % 2 = 1) with | false => rfl | true => rw [hd] at ho; cases ho))
    omega
  · have h := of_decide_eq_true h
    have := n6 (kodd (by cases hd : decide (n % 2 = 1) with | false => rfl | true => rw [hd] at ho; cases ho))
    omega
  · exact db_nil go
end
end K48
namespace K48
open PySem PySem.Spec PyProof.Rows L2 Dl
section
variable {P : Program} {w : World} {K : PySem.W.Frag} {mg : Str → Option Value} {base : Heap}
theorem f_law {f : Addr} {fd : FuncData} {dvs : List V} (F : FunD K "law" "law" (defArgs s_law) (defBody s_law) (defScope s_law) dvs [] f fd) (T : Txt mg) (cj : Cal P w K mg base "_law_jar" 1 ["script"] phJar) (cd : Cal P w K mg base "_law_draw" 1 ["jar", "many"] phDraw) (cc : Cal P w K mg base "_law_case" 3 ["jar", "count"] phCase)
    (cn : Cal P w K mg base "_law_neighbours" 4 ["count", "number", "one", "two"] phNeigh) (cdn : Cal P w K mg base "root_down" 5 ["number", "n"] phDown) (cup : Cal P w K mg base "root_up" 5 ["number", "n"] phUp) :
    FnOk P w K mg base CX0 6 f fd ["script"] (spO K phLaw) := by
  refine fnD_ok F sc_law (fun as μ P h => ?_) fun f cdv A outer s H E hr as μ Pd h => ?_
  · obtain ⟨sc, rfl, _⟩ := h; rfl
  obtain ⟨sc, rfl, rfl, q⟩ := h
  refine db_cons (ds_set (i := 1) sc_law.nd (de_c1 cj hr (by decide) (da_cons (de_var (i := 0) rfl (da_nil ⟨[], _, parts_none, _, rfl, rfl, fun j g => ?_⟩)))))
  refine db_cons (ds_range1 (i := 2) PassesOwn.never rfl sc_law.nd T.range (de_int ⟨by decide, by decide, fun k δ' μ' => ∃ s2 s3 s4 : Slot, δ' = [sl sc, sl (Ref.mk j), s2, s3, s4] ∧ μ' = [JarC j g], ⟨_, _, _, rfl, rfl⟩, fun k δ' μ' hk hI => ?_, fun δ' μ' hI => ?_⟩))
  · obtain ⟨s2, s3, s4, rfl, rfl⟩ := hI
    refine db_cons (ds_set (i := 3) sc_law.nd (de_add (de_int (de_c1 cd hr (by decide) (da_cons (de_var (i := 1) rfl (da_cons (de_int (da_nil ⟨_, _, parts_hd, _, _, _, rfl, rfl, ⟨by decide, by decide⟩, fun d h0 h1 => ?_⟩)))))))))
    refine db_cons (ds_set (i := 4) sc_law.nd (de_c1 cc hr (by decide) (da_cons (de_var (i := 1) rfl (da_cons (de_var (i := 3) rfl (da_nil ⟨_, _, parts_hd, _, _, _, rfl, rfl, ⟨by omega, by omega⟩, fun x hx ho => ?_⟩)))))))
    refine db_cons (ds_if (dt_not (dt_val (de_c1 cn hr (by decide) (da_cons (de_var (i := 3) rfl (da_cons (de_var (i := 4) rfl (da_cons (de_c1 cdn hr (by decide) (da_cons (de_var (i := 4) rfl (da_cons (de_var (i := 3) rfl (da_nil ⟨[], _, parts_none, _, _, rfl, ⟨hx, ho⟩, fun r1 a1 a2 a3 a4 => (da_cons (de_c1 cup hr (by decide) (da_cons (de_var (i := 4) rfl (da_cons (de_var (i := 3) rfl (da_nil ⟨[], _, parts_none, _, _, rfl, ⟨hx, ho⟩, fun r2 b1 b2 b3 b4 => (da_nil ⟨[], _, parts_none, _, _, r1, r2, rfl, ⟨hx, a4, b4, a1, a2, a3, b1, b2, b3⟩, ⟨fun h => (nomatch h), fun h => ?_⟩⟩)⟩)))))))⟩)))))))))))))))
    exact db_nil (db_nil ⟨_, _, _, rfl, rfl⟩)
  obtain ⟨s2, s3, s4, rfl, rfl⟩ := hI
  exact db_one (ds_ret (de_bl (q _)))
end
/-! ### the head -/
def d_ratio : He.DefD := ⟨("ratio", none), "ratio", "ratio", defArgs s_ratio, defBody s_ratio, defScope s_ratio, [.int 1], []⟩
def d_negate : He.DefD := ⟨("negate", none), "negate", "negate", defArgs s_negate, defBody s_negate, defScope s_negate, [], []⟩
def d_power : He.DefD := ⟨("power", none), "power", "power", defArgs s_power, defBody s_power, defScope s_power, [], []⟩
def d_less : He.DefD := ⟨("less", none), "less", "less", defArgs s_less, defBody s_less, defScope s_less, [], []⟩
def d_whole_root : He.DefD := ⟨("whole_root", none), "whole_root", "whole_root", defArgs s_whole_root, defBody s_whole_root, defScope s_whole_root, [], []⟩
def d_root_under : He.DefD := ⟨("root_under", none), "root_under", "root_under", defArgs s_root_under, defBody s_root_under, defScope s_root_under, [], []⟩
def d_root_over : He.DefD := ⟨("root_over", none), "root_over", "root_over", defArgs s_root_over, defBody s_root_over, defScope s_root_over, [], []⟩
def d_root_down : He.DefD := ⟨("root_down", none), "root_down", "root_down", defArgs s_root_down, defBody s_root_down, defScope s_root_down, [], []⟩
def d_root_up : He.DefD := ⟨("root_up", none), "root_up", "root_up", defArgs s_root_up, defBody s_root_up, defScope s_root_up, [], []⟩
def d_law_jar : He.DefD := ⟨("_law_jar", none), "_law_jar", "_law_jar", defArgs s_law_jar, defBody s_law_jar, defScope s_law_jar, [], []⟩
def d_law_draw : He.DefD := ⟨("_law_draw", none), "_law_draw", "_law_draw", defArgs s_law_draw, defBody s_law_draw, defScope s_law_draw, [], []⟩
def d_law_low : He.DefD := ⟨("_law_low", none), "_law_low", "_law_low", defArgs s_law_low, defBody s_law_low, defScope s_law_low, [], []⟩
def d_law_is_number : He.DefD := ⟨("_law_is_number", none), "_law_is_number", "_law_is_number", defArgs s_law_is_number, defBody s_law_is_number, defScope s_law_is_number, [], []⟩
def d_law_long : He.DefD := ⟨("_law_long", none), "_law_long", "_law_long", defArgs s_law_long, defBody s_law_long, defScope s_law_long, [], []⟩
def d_law_raised : He.DefD := ⟨("_law_raised", none), "_law_raised", "_law_raised", defArgs s_law_raised, defBody s_law_raised, defScope s_law_raised, [], []⟩
def d_law_case : He.DefD := ⟨("_law_case", none), "_law_case", "_law_case", defArgs s_law_case, defBody s_law_case, defScope s_law_case, [], []⟩
def d_law_place : He.DefD := ⟨("_law_place", none), "_law_place", "_law_place", defArgs s_law_place, defBody s_law_place, defScope s_law_place, [], []⟩
def d_law_side : He.DefD := ⟨("_law_side", none), "_law_side", "_law_side", defArgs s_law_side, defBody s_law_side, defScope s_law_side, [], []⟩
def d_law_neighbours : He.DefD := ⟨("_law_neighbours", none), "_law_neighbours", "_law_neighbours", defArgs s_law_neighbours, defBody s_law_neighbours, defScope s_law_neighbours, [], []⟩
def d_law : He.DefD := ⟨("law", none), "law", "law", defArgs s_law, defBody s_law, defScope s_law, [], []⟩
def fnL : List He.DefD := [d_ratio, d_negate, d_power, d_less, d_whole_root, d_root_under, d_root_over, d_root_down, d_root_up, d_law_jar, d_law_draw, d_law_low, d_law_is_number, d_law_long, d_law_raised, d_law_case, d_law_place, d_law_side, d_law_neighbours, d_law]
def faL : List He.Fa := [.glo "ratio", .glo "negate", .glo "power", .glo "less", .glo "whole_root", .glo "root_under", .glo "root_over", .glo "root_down", .glo "root_up", .glo "_law_jar", .glo "_law_draw", .glo "_law_low", .glo "_law_is_number", .glo "_law_long", .glo "_law_raised", .glo "_law_case", .glo "_law_place", .glo "_law_side", .glo "_law_neighbours", .glo "law", .free "range", .free "abs", .free "int", .free "len", .free "isinstance", .free "tuple", .free "bool", .int "ROOT_PARTS" 64]
def biL : List (Str × String) := [("gcd", "math.gcd"), ("isqrt", "math.isqrt")]
abbrev R : PySem.W.OpenRow := PySem.W.OpenLaw.row PySem.Challenge.rw_leastinbox_k48_roots_next_to_exact
abbrev hk : PySem.W.Hook := hookZ 4 biL faL fnL
def ob (s : PySem.W.SharedT) : He.AlD := obsZG 4 biL faL fnL (HandSHeadRun.getT s)
theorem ob_eq (s : PySem.W.SharedT) : ob s = hk.obs s.abs := obsZG_eq (HandSHeadRun.getT_eq s)
theorem run (w : World) : HandSHeadRun.RunEqI R (PySem.W.view R.prog [0, 24]) hk ob 8000 ["ratio", "negate", "power", "less", "ROOT_PARTS", "whole_root", "root_under", "root_over", "root_down", "root_up", "_law_jar", "_law_draw", "_law_low", "_law_is_number", "_law_long", "_law_raised", "_law_case", "_law_place", "_law_side", "_law_neighbours"] w := by
  unfold HandSHeadRun.RunEqI
  kernel_rfl
section
variable {K : PySem.W.Frag} {h : Heap} {mg : Str → Option Value}
theorem at_ratio (X : K.In h) (G : h.Ns mainGlobals mg) (c : SaysZ biL faL fnL K) : Dfn K mg "ratio" s_ratio ["top", "bottom"] := by
  obtain ⟨fd, F⟩ := c.saysD.def_ 0 (d := d_ratio) rfl
  obtain ⟨ds, hv, hb⟩ := F.binds1 (ps := ["top", "bottom"]) 2 1 (by intro z; cases z) rfl fun T kV doc pm an cdv ct us its hu hi => match us, its, hu, hi with | [_, _], [_], _, _ => ⟨_, rfl, rfl⟩
  cases hv
  exact ⟨⟨_, fd, _, F, He.glo_ok X G (c.saysD.fact 0 (f := .glo "ratio") rfl), hb⟩⟩
theorem at_negate (X : K.In h) (G : h.Ns mainGlobals mg) (c : SaysZ biL faL fnL K) : Dfn K mg "negate" s_negate ["one"] := by
  obtain ⟨fd, F⟩ := c.saysD.def_ 1 (d := d_negate) rfl
  exact ⟨⟨_, fd, _, F, He.glo_ok X G (c.saysD.fact 1 (f := .glo "negate") rfl), F.bindsN fun _ _ _ _ _ _ us hl => match us, hl with | [_], _ => rfl⟩⟩
theorem at_power (X : K.In h) (G : h.Ns mainGlobals mg) (c : SaysZ biL faL fnL K) : Dfn K mg "power" s_power ["one", "count"] := by
  obtain ⟨fd, F⟩ := c.saysD.def_ 2 (d := d_power) rfl
  exact ⟨⟨_, fd, _, F, He.glo_ok X G (c.saysD.fact 2 (f := .glo "power") rfl), F.bindsN fun _ _ _ _ _ _ us hl => match us, hl with | [_, _], _ => rfl⟩⟩
theorem at_less (X : K.In h) (G : h.Ns mainGlobals mg) (c : SaysZ biL faL fnL K) : Dfn K mg "less" s_less ["one", "two"] := by
  obtain ⟨fd, F⟩ := c.saysD.def_ 3 (d := d_less) rfl
  exact ⟨⟨_, fd, _, F, He.glo_ok X G (c.saysD.fact 3 (f := .glo "less") rfl), F.bindsN fun _ _ _ _ _ _ us hl => match us, hl with | [_, _], _ => rfl⟩⟩
theorem at_whole_root (X : K.In h) (G : h.Ns mainGlobals mg) (c : SaysZ biL faL fnL K) : Dfn K mg "whole_root" s_whole_root ["number", "n"] := by
  obtain ⟨fd, F⟩ := c.saysD.def_ 4 (d := d_whole_root) rfl
  exact ⟨⟨_, fd, _, F, He.glo_ok X G (c.saysD.fact 4 (f := .glo "whole_root") rfl), F.bindsN fun _ _ _ _ _ _ us hl => match us, hl with | [_, _], _ => rfl⟩⟩
theorem at_root_under (X : K.In h) (G : h.Ns mainGlobals mg) (c : SaysZ biL faL fnL K) : Dfn K mg "root_under" s_root_under ["number", "n"] := by
  obtain ⟨fd, F⟩ := c.saysD.def_ 5 (d := d_root_under) rfl
  exact ⟨⟨_, fd, _, F, He.glo_ok X G (c.saysD.fact 5 (f := .glo "root_under") rfl), F.bindsN fun _ _ _ _ _ _ us hl => match us, hl with | [_, _], _ => rfl⟩⟩
theorem at_root_over (X : K.In h) (G : h.Ns mainGlobals mg) (c : SaysZ biL faL fnL K) : Dfn K mg "root_over" s_root_over ["number", "n"] := by
  obtain ⟨fd, F⟩ := c.saysD.def_ 6 (d := d_root_over) rfl
  exact ⟨⟨_, fd, _, F, He.glo_ok X G (c.saysD.fact 6 (f := .glo "root_over") rfl), F.bindsN fun _ _ _ _ _ _ us hl => match us, hl with | [_, _], _ => rfl⟩⟩
theorem at_root_down (X : K.In h) (G : h.Ns mainGlobals mg) (c : SaysZ biL faL fnL K) : Dfn K mg "root_down" s_root_down ["number", "n"] := by
  obtain ⟨fd, F⟩ := c.saysD.def_ 7 (d := d_root_down) rfl
  exact ⟨⟨_, fd, _, F, He.glo_ok X G (c.saysD.fact 7 (f := .glo "root_down") rfl), F.bindsN fun _ _ _ _ _ _ us hl => match us, hl with | [_, _], _ => rfl⟩⟩
theorem at_root_up (X : K.In h) (G : h.Ns mainGlobals mg) (c : SaysZ biL faL fnL K) : Dfn K mg "root_up" s_root_up ["number", "n"] := by
  obtain ⟨fd, F⟩ := c.saysD.def_ 8 (d := d_root_up) rfl
  exact ⟨⟨_, fd, _, F, He.glo_ok X G (c.saysD.fact 8 (f := .glo "root_up") rfl), F.bindsN fun _ _ _ _ _ _ us hl => match us, hl with | [_, _], _ => rfl⟩⟩
theorem at_law_jar (X : K.In h) (G : h.Ns mainGlobals mg) (c : SaysZ biL faL fnL K) : Dfn K mg "_law_jar" s_law_jar ["script"] := by
  obtain ⟨fd, F⟩ := c.saysD.def_ 9 (d := d_law_jar) rfl
  exact ⟨⟨_, fd, _, F, He.glo_ok X G (c.saysD.fact 9 (f := .glo "_law_jar") rfl), F.bindsN fun _ _ _ _ _ _ us hl => match us, hl with | [_], _ => rfl⟩⟩
theorem at_law_draw (X : K.In h) (G : h.Ns mainGlobals mg) (c : SaysZ biL faL fnL K) : Dfn K mg "_law_draw" s_law_draw ["jar", "many"] := by
  obtain ⟨fd, F⟩ := c.saysD.def_ 10 (d := d_law_draw) rfl
  exact ⟨⟨_, fd, _, F, He.glo_ok X G (c.saysD.fact 10 (f := .glo "_law_draw") rfl), F.bindsN fun _ _ _ _ _ _ us hl => match us, hl with | [_, _], _ => rfl⟩⟩
theorem at_law_low (X : K.In h) (G : h.Ns mainGlobals mg) (c : SaysZ biL faL fnL K) : Dfn K mg "_law_low" s_law_low ["top", "bottom"] := by
  obtain ⟨fd, F⟩ := c.saysD.def_ 11 (d := d_law_low) rfl
  exact ⟨⟨_, fd, _, F, He.glo_ok X G (c.saysD.fact 11 (f := .glo "_law_low") rfl), F.bindsN fun _ _ _ _ _ _ us hl => match us, hl with | [_, _], _ => rfl⟩⟩
theorem at_law_is_number (X : K.In h) (G : h.Ns mainGlobals mg) (c : SaysZ biL faL fnL K) : Dfn K mg "_law_is_number" s_law_is_number ["x"] := by
  obtain ⟨fd, F⟩ := c.saysD.def_ 12 (d := d_law_is_number) rfl
  exact ⟨⟨_, fd, _, F, He.glo_ok X G (c.saysD.fact 12 (f := .glo "_law_is_number") rfl), F.bindsN fun _ _ _ _ _ _ us hl => match us, hl with | [_], _ => rfl⟩⟩
theorem at_law_long (X : K.In h) (G : h.Ns mainGlobals mg) (c : SaysZ biL faL fnL K) : Dfn K mg "_law_long" s_law_long ["jar"] := by
  obtain ⟨fd, F⟩ := c.saysD.def_ 13 (d := d_law_long) rfl
  exact ⟨⟨_, fd, _, F, He.glo_ok X G (c.saysD.fact 13 (f := .glo "_law_long") rfl), F.bindsN fun _ _ _ _ _ _ us hl => match us, hl with | [_], _ => rfl⟩⟩
theorem at_law_raised (X : K.In h) (G : h.Ns mainGlobals mg) (c : SaysZ biL faL fnL K) : Dfn K mg "_law_raised" s_law_raised ["number", "count"] := by
  obtain ⟨fd, F⟩ := c.saysD.def_ 14 (d := d_law_raised) rfl
  exact ⟨⟨_, fd, _, F, He.glo_ok X G (c.saysD.fact 14 (f := .glo "_law_raised") rfl), F.bindsN fun _ _ _ _ _ _ us hl => match us, hl with | [_, _], _ => rfl⟩⟩
theorem at_law_case (X : K.In h) (G : h.Ns mainGlobals mg) (c : SaysZ biL faL fnL K) : Dfn K mg "_law_case" s_law_case ["jar", "count"] := by
  obtain ⟨fd, F⟩ := c.saysD.def_ 15 (d := d_law_case) rfl
  exact ⟨⟨_, fd, _, F, He.glo_ok X G (c.saysD.fact 15 (f := .glo "_law_case") rfl), F.bindsN fun _ _ _ _ _ _ us hl => match us, hl with | [_, _], _ => rfl⟩⟩
theorem at_law_place (X : K.In h) (G : h.Ns mainGlobals mg) (c : SaysZ biL faL fnL K) : Dfn K mg "_law_place" s_law_place ["told"] := by
  obtain ⟨fd, F⟩ := c.saysD.def_ 16 (d := d_law_place) rfl
  exact ⟨⟨_, fd, _, F, He.glo_ok X G (c.saysD.fact 16 (f := .glo "_law_place") rfl), F.bindsN fun _ _ _ _ _ _ us hl => match us, hl with | [_], _ => rfl⟩⟩
theorem at_law_side (X : K.In h) (G : h.Ns mainGlobals mg) (c : SaysZ biL faL fnL K) : Dfn K mg "_law_side" s_law_side ["place", "count", "number"] := by
  obtain ⟨fd, F⟩ := c.saysD.def_ 17 (d := d_law_side) rfl
  exact ⟨⟨_, fd, _, F, He.glo_ok X G (c.saysD.fact 17 (f := .glo "_law_side") rfl), F.bindsN fun _ _ _ _ _ _ us hl => match us, hl with | [_, _, _], _ => rfl⟩⟩
theorem at_law_neighbours (X : K.In h) (G : h.Ns mainGlobals mg) (c : SaysZ biL faL fnL K) : Dfn K mg "_law_neighbours" s_law_neighbours ["count", "number", "one", "two"] := by
  obtain ⟨fd, F⟩ := c.saysD.def_ 18 (d := d_law_neighbours) rfl
  exact ⟨⟨_, fd, _, F, He.glo_ok X G (c.saysD.fact 18 (f := .glo "_law_neighbours") rfl), F.bindsN fun _ _ _ _ _ _ us hl => match us, hl with | [_, _, _, _], _ => rfl⟩⟩
theorem at_law (X : K.In h) (G : h.Ns mainGlobals mg) (c : SaysZ biL faL fnL K) : Dfn K mg "law" s_law ["script"] := by
  obtain ⟨fd, F⟩ := c.saysD.def_ 19 (d := d_law) rfl
  exact ⟨⟨_, fd, _, F, He.glo_ok X G (c.saysD.fact 19 (f := .glo "law") rfl), F.bindsN fun _ _ _ _ _ _ us hl => match us, hl with | [_], _ => rfl⟩⟩
theorem fr_range (X : K.In h) (G : h.Ns mainGlobals mg) (c : SaysZ biL faL fnL K) : mg "range" = none := He.free_ok X G (c.saysD.fact 20 (f := .free "range") rfl)
theorem fr_abs (X : K.In h) (G : h.Ns mainGlobals mg) (c : SaysZ biL faL fnL K) : mg "abs" = none := He.free_ok X G (c.saysD.fact 21 (f := .free "abs") rfl)
theorem fr_int (X : K.In h) (G : h.Ns mainGlobals mg) (c : SaysZ biL faL fnL K) : mg "int" = none := He.free_ok X G (c.saysD.fact 22 (f := .free "int") rfl)
theorem fr_len (X : K.In h) (G : h.Ns mainGlobals mg) (c : SaysZ biL faL fnL K) : mg "len" = none := He.free_ok X G (c.saysD.fact 23 (f := .free "len") rfl)
theorem fr_isinstance (X : K.In h) (G : h.Ns mainGlobals mg) (c : SaysZ biL faL fnL K) : mg "isinstance" = none := He.free_ok X G (c.saysD.fact 24 (f := .free "isinstance") rfl)
theorem fr_tuple (X : K.In h) (G : h.Ns mainGlobals mg) (c : SaysZ biL faL fnL K) : mg "tuple" = none := He.free_ok X G (c.saysD.fact 25 (f := .free "tuple") rfl)
theorem fr_bool (X : K.In h) (G : h.Ns mainGlobals mg) (c : SaysZ biL faL fnL K) : mg "bool" = none := He.free_ok X G (c.saysD.fact 26 (f := .free "bool") rfl)
theorem in_ROOT_PARTS (X : K.In h) (G : h.Ns mainGlobals mg) (c : SaysZ biL faL fnL K) : ∃ t, mg "ROOT_PARTS" = some (.int 64 t) := He.int_ok X G (c.saysD.fact 27 (f := .int "ROOT_PARTS" 64) rfl)
theorem bi_gcd (X : K.In h) (G : h.Ns mainGlobals mg) (c : SaysZ biL faL fnL K) : mg "gcd" = some (.builtin "math.gcd") := PySem.W.mg_of X G (c.blt 0 (q := ("gcd", "math.gcd")) rfl)
theorem bi_isqrt (X : K.In h) (G : h.Ns mainGlobals mg) (c : SaysZ biL faL fnL K) : mg "isqrt" = some (.builtin "math.isqrt") := PySem.W.mg_of X G (c.blt 1 (q := ("isqrt", "math.isqrt")) rfl)
end
theorem facts {P : Program} {w : World} {K : PySem.W.Frag} {h : Heap} {mg : Str → Option Value} {f : Addr} (X : K.In h) (G : h.Ns mainGlobals mg) (hfa : mg ("law" : Str) = some (.ref f)) (c : SaysZ biL faL fnL K) :
    ∃ fd : FuncData, (∀ (s : Shared) (v : Value), BindsTo s fd ⟨[v], []⟩ [("script", v)]) ∧ ∀ base : Heap, K.In base → base.Ns mainGlobals mg → FnOk P w K mg base CX0 6 f fd ["script"] (spO K phLaw) := by
  obtain ⟨fd, F⟩ := c.saysD.def_ 19 (d := d_law) rfl
  have e := hfa.symm.trans (He.glo_ok X G (c.saysD.fact 19 (f := .glo "law") rfl))
  cases e
  have b := FunD.bindsA (ps := ["script"]) F fun _ _ _ _ _ _ us hl => match us, hl with | [_], _ => rfl
  have T : Txt mg := ⟨bi_gcd X G c, bi_isqrt X G c, in_ROOT_PARTS X G c, fr_range X G c, fr_abs X G c, fr_int X G c, fr_len X G c, fr_isinstance X G c, fr_tuple X G c, fr_bool X G c⟩
  refine ⟨fd, fun s v => b s [v] rfl, fun base _ _ => ?_⟩
  have cp := c_power (P := P) (w := w) (base := base) (at_power X G c) T
  have crt := c_ratio (P := P) (w := w) (base := base) (at_ratio X G c) T
  have cn := c_negate (P := P) (w := w) (base := base) (at_negate X G c)
  have cl := c_less (P := P) (w := w) (base := base) (at_less X G c)
  have cw := c_whole (at_whole_root X G c) T cp
  have cu := c_under (at_root_under X G c) T cp crt cw
  have co := c_over (at_root_over X G c) T cp crt cl cu
  have cdn := c_down (at_root_down X G c) cn cu co
  have cup := c_up (at_root_up X G c) cn cu co
  have cj := c_jar (P := P) (w := w) (base := base) (at_law_jar X G c) T.int
  have cd := c_draw (P := P) (w := w) (base := base) (at_law_draw X G c) T.len T.int
  have clow := c_low (P := P) (w := w) (base := base) (at_law_low X G c) T
  have cis := c_isnum (at_law_is_number X G c) T clow
  have clg := c_long (at_law_long X G c) cd
  have cra := c_raised (P := P) (w := w) (base := base) (at_law_raised X G c) T
  have cca := c_case (at_law_case X G c) T cd clg cra clow
  have cpl := c_place (at_law_place X G c) T cis
  have csd := c_side (at_law_side X G c) cra
  have cne := c_neigh (at_law_neighbours X G c) T cpl csd
  exact f_law F T cj cd cca cne cdn cup
end K48
open PySem PySem.W PySem.Calls PyProof.Rows
set_option maxRecDepth 100000 in
set_option maxHeartbeats 0 in
theorem PySem.Challenge.cw_leastinbox_k48_roots_next_to_exact_holds : PySem.Challenge.rw_leastinbox_k48_roots_next_to_exact.Holds := by
  w_on; o_law
  refine HandSHeadRun.head_imp (r := OpenLaw.row PySem.Challenge.rw_leastinbox_k48_roots_next_to_exact) (q := view (OpenLaw.row PySem.Challenge.rw_leastinbox_k48_roots_next_to_exact).prog [0, 24]) (H := K48.hk) (ob := K48.ob) (M := 8000) (loose := ["ratio", "negate", "power", "less", "ROOT_PARTS", "whole_root", "root_under", "root_over", "root_down", "root_up", "_law_jar", "_law_draw", "_law_low", "_law_is_number", "_law_long", "_law_raised", "_law_case", "_law_place", "_law_side", "_law_neighbours"]) (d := HandSHeadRun.topDef (OpenLaw.row PySem.Challenge.rw_leastinbox_k48_roots_next_to_exact).prog 24) (kwd := []) K48.ob_eq
    K48.run (by kernel_rfl) (by kernel_rfl) (by kernel_rfl) (by rfl) (by first | assumption | decide +kernel) (by decide +kernel) ⟨rfl, rfl, rfl, rfl, rfl, by decide +kernel⟩ ?hw ?hc
  case hw => w_witness2
  case hc =>
    refine L2.walk_ofE (l := PySem.Challenge.rw_leastinbox_k48_roots_next_to_exact) (n := 63) (k := 6) (x := "script") (CX := L2.CX0) rfl (by decide) (by kernel_rfl) ⟨rfl, by decide, by decide⟩ ?F (fun _ _ _ _ z => z)
    intro w mg fa h Y G hmg0
    obtain ⟨K, KX, c⟩ := Y
    have hmg : mg ("law" : PySem.Str) = some (.ref fa) := by
      have e : (HandSHeadRun.topDef (OpenLaw.row PySem.Challenge.rw_leastinbox_k48_roots_next_to_exact).prog 24).name = ("law" : PySem.Str) := by kernel_rfl
      rw [← e]
      exact hmg0
    obtain ⟨fd, hb, hF⟩ := K48.facts (P := (PySem.Challenge.rw_leastinbox_k48_roots_next_to_exact).prog) (w := w) KX G hmg c
    exact ⟨K, fd, Dl.spO K Dl.phLaw, KX, hb, fun H a ns hl hO hS => Dl.law_end hO hS, hF⟩
