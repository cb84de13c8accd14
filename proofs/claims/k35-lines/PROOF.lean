import PyProof.Rows.All
import Wide.All
import OpenK.AllK
import Wide.FinOn
import HandS.ForMost
import HandS.Wide
import HandS.WideBits
import HandS.WideMore
import HandS.Gcd
import HandS.IsInst
import HandS.EndBits
import HandS.Flow
import HandS.Conv
import HandS.Codes
import HandS.Style
import HandS.Head0
import HandS.Head1
import HandS.Head2
import HandS.Head3
import HandS.HeadEnd
import HandS.HeadHook1
import HandS.HeadHook2
import HandS.Defaults
import PyProof.P3Eq
import PyProof.DictRoadsH
import HandS.GenList
import HandS.GenYield
import Flt.RightSqrt
import KE.IntBitsLaws
import PySem.Challenge.RW_leastinbox_k35_lines_any_duals
set_option Elab.async false
set_option linter.all false
set_option maxRecDepth 100000
set_option maxHeartbeats 4000000
/-! Dl: a logic of data over HandS: values by what they stand for, cells for what may change. -/
namespace Dl
open PySem PySem.Spec PyProof.Rows L2

/-- objects that never change -/
def Fix : HO → Prop
  | .tup _ => True
  | .frz _ _ => True
  | _ => False
abbrev AS := Addr → Prop
def Keep (M : AS) (H H' : Hp) : Prop := ∀ a o, H a = some o → (¬ M a ∨ Fix o) → H' a = some o
theorem Keep.refl {M : AS} {H : Hp} : Keep M H H := fun _ _ h _ => h
theorem Keep.mono {M M' : AS} {H H' : Hp} (k : Keep M H H') (h : ∀ a, M a → M' a) : Keep M' H H' := fun a o e c => k a o e (c.imp (fun n z => n (h a z)) id)

/-- how a value stands for a datum -/
class Enc (α : Type) where
  R : PySem.W.Frag → AS → Hp → V → α → Prop
  mono : ∀ {K M H H' v x}, Keep M H H' → R K M H v x → R K M H' v x
  set : ∀ {K M M' H v x}, (∀ a, M' a → M a ∨ H a = none) → R K M H v x → R K M' H v x

instance : Enc Int := ⟨fun _ _ _ v x => v = .int x, fun _ h => h, fun _ h => h⟩
instance : Enc Bool := ⟨fun _ _ _ v x => v = .bl x, fun _ h => h, fun _ h => h⟩
instance : Enc Str := ⟨fun _ _ _ v x => v = .str x, fun _ h => h, fun _ h => h⟩
instance : Enc Unit := ⟨fun _ _ _ v _ => v = .non, fun _ h => h, fun _ h => h⟩
/-- a reference to a cell -/
structure Ref where
  a : Addr
instance : Enc Ref := ⟨fun _ _ _ v x => v = .ref x.a, fun _ h => h, fun _ h => h⟩
theorem sqT_keep {K : PySem.W.Frag} {M : AS} {H H' : Hp} {a : Addr} {xs : List V} (k : Keep M H H') (h : SqT K H a xs) : SqT K H' a xs := by
  rcases h with (h | ⟨o, h⟩) | h
  · exact .inl (.inl (k _ _ h (.inr trivial)))
  · exact .inl (.inr ⟨o, k _ _ h (.inr trivial)⟩)
  · exact .inr h
/-- a pair is a tuple of two -/
instance [A : Enc α] [B : Enc β] : Enc (α × β) where
  R K M H v x := ∃ a v1 v2, v = .ref a ∧ SqT K H a [v1, v2] ∧ A.R K M H v1 x.1 ∧ B.R K M H v2 x.2
  mono k h := by
    obtain ⟨a, v1, v2, e, s, r1, r2⟩ := h
    exact ⟨a, v1, v2, e, sqT_keep k s, A.mono k r1, B.mono k r2⟩
  set k h := by
    obtain ⟨a, v1, v2, e, s, r1, r2⟩ := h
    exact ⟨a, v1, v2, e, s, A.set k r1, B.set k r2⟩
theorem paired_map {α β : Type} {F G : α → β → Prop} (f : ∀ a b, F a b → G a b) : ∀ {l₁ : List α} {l₂ : List β}, Paired F l₁ l₂ → Paired G l₁ l₂ := fun h => Paired.mapP h f
/-- a list that nobody changes any more -/
instance [A : Enc α] : Enc (List α) where
  R K M H v x := ∃ a vs, v = .ref a ∧ ¬ M a ∧ Rd H a (.lst vs) ∧ Paired (A.R K M H) vs x
  mono k h := by
    obtain ⟨a, vs, e, n, s, r⟩ := h
    refine ⟨a, vs, e, n, ?_, paired_map (fun _ _ => A.mono k) r⟩
    rcases s with s | ⟨o, s⟩
    · exact .inl (k _ _ s (.inl n))
    · exact .inr ⟨o, k _ _ s (.inr trivial)⟩
  set k h := by
    obtain ⟨a, vs, e, n, s, r⟩ := h
    refine ⟨a, vs, e, fun z => ?_, s, paired_map (fun _ _ => A.set k) r⟩
    rcases k a z with z | z
    · exact n z
    · rcases s with s | ⟨o, s⟩
      · rw [z] at s; cases s
      · rw [z] at s; cases s
/-- a tuple of any length, its items of one kind -/
structure Tup (α : Type) where
  l : List α
instance [A : Enc α] : Enc (Tup α) where
  R K M H v x := ∃ a vs, v = .ref a ∧ SqT K H a vs ∧ Paired (A.R K M H) vs x.l
  mono k h := by
    obtain ⟨a, vs, e, s, r⟩ := h
    exact ⟨a, vs, e, sqT_keep k s, paired_map (fun _ _ => A.mono k) r⟩
  set k h := by
    obtain ⟨a, vs, e, s, r⟩ := h
    exact ⟨a, vs, e, s, paired_map (fun _ _ => A.set k) r⟩
/-- not None -/
class NN (α : Type) [Enc α] : Prop where
  nn : ∀ {K M H v} {x : α}, Enc.R K M H v x → v ≠ .non
instance : NN Int := ⟨fun h e => by cases h; cases e⟩
instance : NN Bool := ⟨fun h e => by cases h; cases e⟩
instance : NN Str := ⟨fun h e => by cases h; cases e⟩
instance [Enc α] [Enc β] : NN (α × β) := ⟨fun h e => by obtain ⟨a, v1, v2, rfl, _⟩ := h; cases e⟩
instance [Enc α] : NN (List α) := ⟨fun h e => by obtain ⟨a, v1, rfl, _⟩ := h; cases e⟩
instance [Enc α] : NN (Tup α) := ⟨fun h e => by obtain ⟨a, v1, rfl, _⟩ := h; cases e⟩
instance [A : Enc α] [NN α] : Enc (Option α) where
  R K M H v x := match x with | none => v = .non | some y => A.R K M H v y
  mono k h := by
    rename_i x
    cases x with
    | none => exact h
    | some y => exact A.mono k h
  set k h := by
    rename_i x
    cases x with
    | none => exact h
    | some y => exact A.set k h

/-- what a name may hold -/
inductive Slot : Type 1 where
  | any
  | val {α : Type} (e : Enc α) (x : α)
abbrev sl {α : Type} [e : Enc α] (x : α) : Slot := .val e x
def SlotV (K : PySem.W.Frag) (M : AS) (H : Hp) (v : V) : Slot → Prop
  | .any => True
  | .val e x => e.R K M H v x
def SlotO (K : PySem.W.Frag) (M : AS) (H : Hp) (v : Option V) : Slot → Prop
  | .any => True
  | .val e x => ∃ w, v = some w ∧ e.R K M H w x

/-- what may change, and how it stands now -/
structure Cell where
  foot : List Addr
  holds : PySem.W.Frag → AS → Hp → Prop
  mono : ∀ {K M H H'}, (∀ a o, H a = some o → (a ∈ foot ∨ ¬ M a ∨ Fix o) → H' a = some o) → holds K M H → holds K M H'
  set : ∀ {K M M' H}, (∀ a, M' a → M a ∨ H a = none) → holds K M H → holds K M' H
def foots (μ : List Cell) : AS := fun a => ∃ c ∈ μ, a ∈ c.foot
structure Holds (K : PySem.W.Frag) (M : AS) (μ : List Cell) (H : Hp) : Prop where
  cell : ∀ c ∈ μ, c.holds K M H
  inM : ∀ a, foots μ a → M a
  al : ∀ a, M a → H a ≠ none
  dj : μ.Pairwise fun c d => ∀ a, a ∈ c.foot → a ∉ d.foot
/-- a step: what stays -/
structure Ste (M : AS) (μ : List Cell) (H : Hp) (M' : AS) (μ' : List Cell) (H' : Hp) : Prop where
  keep : Keep (foots μ) H H'
  al : ∀ a, H a ≠ none → H' a ≠ none
  new : ∀ a, M' a → M a ∨ H a = none
  foo : ∀ a, foots μ' a → foots μ a ∨ H a = none
  up : ∀ a, M a → H a ≠ none → ¬ foots μ a → M' a
section
variable {K : PySem.W.Frag} {M M1 M2 M' : AS} {μ μ1 μ2 μ' : List Cell} {H H1 H2 H' : Hp} {v : V}
theorem Ste.refl : Ste M μ H M μ H := ⟨Keep.refl, fun _ h => h, fun _ h => .inl h, fun _ h => .inl h, fun _ h _ _ => h⟩
theorem Ste.trans (s : Ste M μ H M1 μ1 H1) (t : Ste M1 μ1 H1 M2 μ2 H2) : Ste M μ H M2 μ2 H2 where
  keep := fun a o e c => t.keep a o (s.keep a o e c) (c.imp (fun n z => by
    rcases s.foo a z with z | z
    · exact n z
    · rw [z] at e; cases e) id)
  al := fun a h => t.al a (s.al a h)
  new := fun a h => by
    rcases t.new a h with h | h
    · exact s.new a h
    · exact .inr (Classical.byContradiction fun n => s.al a n h)
  foo := fun a h => by
    rcases t.foo a h with h | h
    · exact s.foo a h
    · exact .inr (Classical.byContradiction fun n => s.al a n h)
  up := fun a h n f => t.up a (s.up a h n f) (s.al a n) fun z => by
    rcases s.foo a z with z | z
    · exact f z
    · exact n z
theorem tr {α : Type} [A : Enc α] {x : α} (s : Ste M μ H M' μ' H') (h : Holds K M μ H) (r : A.R K M H v x) : A.R K M' H' v x := by
  have r1 : A.R K (fun a => M a ∨ M' a) H v x := A.set (fun a z => z.elim .inl (s.new a)) r
  have k : Keep (fun a => M a ∨ M' a) H H' := s.keep.mono fun a z => .inl (h.inM a z)
  exact A.set (fun a z => .inl (.inr z)) (A.mono k r1)
theorem SlotV.tr {s' : Slot} (s : Ste M μ H M' μ' H') (h : Holds K M μ H) (r : SlotV K M H v s') : SlotV K M' H' v s' := by
  cases s' with
  | any => trivial
  | val e x => exact Dl.tr (A := e) s h r
theorem SlotO.tr {s' : Slot} {v : Option V} (s : Ste M μ H M' μ' H') (h : Holds K M μ H) (r : SlotO K M H v s') : SlotO K M' H' v s' := by
  cases s' with
  | any => trivial
  | val e x => obtain ⟨w, e1, r⟩ := r; exact ⟨w, e1, Dl.tr (A := e) s h r⟩
end
/-- the names, the cells, the heap -/
structure EnvOk (K : PySem.W.Frag) (M : AS) (μ : List Cell) (δ : List Slot) (σ : L2.St) (H : Hp) : Prop where
  h : Holds K M μ H
  len : σ.length = δ.length
  sl : ∀ (i : Nat) (s : Slot) (v : Option V), δ[i]? = some s → σ[i]? = some v → SlotO K M H v s
section
variable {K : PySem.W.Frag} {M M' : AS} {μ μ' : List Cell} {δ : List Slot} {σ : L2.St} {H H' : Hp} {v : V}
theorem EnvOk.step (E : EnvOk K M μ δ σ H) (s : Ste M μ H M' μ' H') (h : Holds K M' μ' H') : EnvOk K M' μ' δ σ H' :=
  ⟨h, E.len, fun i t v e1 e2 => (E.sl i t v e1 e2).tr s E.h⟩
theorem EnvOk.get {α : Type} {A : Enc α} {x : α} {i : Nat} (E : EnvOk K M μ δ σ H) (h : δ[i]? = some (.val A x)) : ∃ w, σ[i]? = some (some w) ∧ A.R K M H w x := by
  have hi : i < σ.length := by rw [E.len]; exact (List.getElem?_eq_some_iff.mp h).1
  obtain ⟨w, e, r⟩ := E.sl i _ _ h (List.getElem?_eq_getElem hi)
  exact ⟨w, by rw [List.getElem?_eq_getElem hi, e], r⟩
theorem EnvOk.put {s : Slot} {i : Nat} (E : EnvOk K M μ δ σ H) (r : SlotV K M H v s) : EnvOk K M μ (δ.set i s) (σ.set i (some v)) H := by
  refine ⟨E.h, by rw [List.length_set, List.length_set]; exact E.len, fun j t w e1 e2 => ?_⟩
  by_cases hj : i = j
  · subst hj
    have hi : i < σ.length := by
      have := (List.getElem?_eq_some_iff.mp e2).1
      rwa [List.length_set] at this
    rw [List.getElem?_set_self (by rw [← E.len]; exact hi)] at e1
    rw [List.getElem?_set_self hi] at e2
    cases e1; cases e2
    cases s with
    | any => trivial
    | val e x => exact ⟨v, rfl, r⟩
  · rw [List.getElem?_set_ne hj] at e1 e2
    exact E.sl j t w e1 e2
end

inductive SlVs (K : PySem.W.Frag) (M : AS) (H : Hp) : List V → List Slot → Prop
  | nil : SlVs K M H [] []
  | cons {v : V} {s : Slot} {vs : List V} {ss : List Slot} : SlotV K M H v s → SlVs K M H vs ss → SlVs K M H (v :: vs) (s :: ss)
theorem SlVs.length {K : PySem.W.Frag} {M : AS} {H : Hp} : ∀ {vs : List V} {ss : List Slot}, SlVs K M H vs ss → vs.length = ss.length
  | _, _, .nil => rfl
  | _, _, .cons _ t => by rw [List.length_cons, List.length_cons, t.length]
theorem SlVs.tr {K : PySem.W.Frag} {M M' : AS} {μ μ' : List Cell} {H H' : Hp} (s : Ste M μ H M' μ' H') (h : Holds K M μ H) : ∀ {vs : List V} {ss : List Slot}, SlVs K M H vs ss → SlVs K M' H' vs ss
  | _, _, .nil => .nil
  | _, _, .cons r t => .cons (r.tr s h) (t.tr s h)
theorem SlVs.at {K : PySem.W.Frag} {M : AS} {H : Hp} : ∀ {vs : List V} {ss : List Slot} {i : Nat} {v : V} {s : Slot}, SlVs K M H vs ss → vs[i]? = some v → ss[i]? = some s → SlotV K M H v s
  | _, _, 0, _, _, .cons r _, e1, e2 => by
    simp only [List.getElem?_cons_zero, Option.some.injEq] at e1 e2
    subst e1 e2
    exact r
  | _, _, i + 1, _, _, .cons _ t, e1, e2 => t.at (i := i) (by simpa using e1) (by simpa using e2)
/-! ### what an expression, a test, a list of arguments comes to -/
def WE {α : Type} [Enc α] (K : PySem.W.Frag) (te : TE) (δ : List Slot) (μ : List Cell) (P : α → List Cell → Prop) : Prop :=
  ∀ (M : AS) (σ : L2.St) (H : Hp), EnvOk K M μ δ σ H → ∀ Q : VK, (∀ x μ' M' v H', P x μ' → Ste M μ H M' μ' H' → Holds K M' μ' H' → Enc.R K M' H' v x → Q v H') → te σ H Q
def WT (K : PySem.W.Frag) (tt : TT) (δ : List Slot) (μ : List Cell) (P : Bool → List Cell → Prop) : Prop :=
  ∀ (M : AS) (σ : L2.St) (H : Hp), EnvOk K M μ δ σ H → ∀ Q : Bool → Hp → Prop, (∀ b μ' M' H', P b μ' → Ste M μ H M' μ' H' → Holds K M' μ' H' → Q b H') → tt σ H Q
def WA (K : PySem.W.Frag) (ta : TA) (δ : List Slot) (μ : List Cell) (P : List Slot → List Cell → Prop) : Prop :=
  ∀ (M : AS) (σ : L2.St) (H : Hp), EnvOk K M μ δ σ H → ∀ Q : List V → Hp → Prop, (∀ xs μ' M' vs H', P xs μ' → Ste M μ H M' μ' H' → Holds K M' μ' H' → SlVs K M' H' vs xs → Q vs H') → ta σ H Q
abbrev PN := List Slot → List Cell → Prop
def WS {ρ : Type} [Enc ρ] (K : PySem.W.Frag) (ts : TS) (δ : List Slot) (μ : List Cell) (N : PN) (R : ρ → List Cell → Prop) (B C : PN) : Prop :=
  ∀ (M : AS) (σ : L2.St) (H : Hp), EnvOk K M μ δ σ H → ∀ D : Ends,
    (∀ δ' μ' M' σ' H', N δ' μ' → Ste M μ H M' μ' H' → EnvOk K M' μ' δ' σ' H' → D.nx σ' H') →
    (∀ x μ' M' v H', R x μ' → Ste M μ H M' μ' H' → Holds K M' μ' H' → Enc.R K M' H' v x → D.rt v H') →
    (∀ δ' μ' M' σ' H', B δ' μ' → Ste M μ H M' μ' H' → EnvOk K M' μ' δ' σ' H' → D.bk σ' H') →
    (∀ δ' μ' M' σ' H', C δ' μ' → Ste M μ H M' μ' H' → EnvOk K M' μ' δ' σ' H' → D.ct σ' H') → ts D σ H
/-! ### the readings that are always right -/
section
variable (X : Cx)
def cE (e : Expr) : TE := fun σ H Q => ∀ pins s, Inv X pins σ H s → wpAny (model X.prog X.w) X.A (eval e X.env) (EP X pins σ Q) X.xe s
def cT (e : Expr) : TT := fun σ H Q => ∀ whole pins s, Inv X pins σ H s → wpAny (model X.prog X.w) X.A (isTrue e X.env whole) (TP X pins σ Q) X.xe s
def cV (e : Expr) : TT := fun σ H Q => ∀ pins s, Inv X pins σ H s → wpAny (model X.prog X.w) X.A (isTrue e X.env (eval e X.env)) (TP X pins σ Q) X.xe s
def cA (es : List Expr) : TA := fun σ H Q => ∀ pos pins s, Inv X pins σ H s → wpAny (model X.prog X.w) X.A (spliced (backTo pos (starEach es X.env))) (AP X pins σ Q) X.xe s
def cS (st : Stmt) : TS := fun D σ H => ∀ pins s, Inv X pins σ H s → wpAny (model X.prog X.w) X.A (exec st X.env) (SP X pins D) X.xe s
def cSs (st : List Stmt) : TS := fun D σ H => ∀ pins s, Inv X pins σ H s → wpAny (model X.prog X.w) X.A (execs st X.env) (SP X pins D) X.xe s
end
section
variable {X : Cx}
theorem cE_pe (e : Expr) : PE X e (cE X e) := ⟨fun pins s _ _ _ I h => h pins s I⟩
theorem cV_pt (e : Expr) : PT X e (cV X e) := ⟨fun pins s _ _ _ I h => h pins s I⟩
theorem cT_pw (e : Expr) : PW X e (cT X e) := ⟨fun wh pins s _ _ _ I h => h wh pins s I⟩
theorem cA_pa (es : List Expr) : PA X es (cA X es) := ⟨fun pos pins s _ _ _ I h => h pos pins s I⟩
theorem cS_ps (st : Stmt) : PS X st (cS X st) := ⟨fun pins s _ _ _ I h => h pins s I⟩
theorem cSs_pss (st : List Stmt) : PSs X st (cSs X st) := ⟨fun pins s _ _ _ I h => h pins s I⟩
end
section
variable (X : Cx)
def DE {α : Type} [Enc α] (e : Expr) (δ : List Slot) (μ : List Cell) (P : α → List Cell → Prop) : Prop := WE X.K (cE X e) δ μ P
def DT (e : Expr) (δ : List Slot) (μ : List Cell) (P : Bool → List Cell → Prop) : Prop := WT X.K (cV X e) δ μ P
def DW (e : Expr) (δ : List Slot) (μ : List Cell) (P : Bool → List Cell → Prop) : Prop := WT X.K (cT X e) δ μ P
def DA (es : List Expr) (δ : List Slot) (μ : List Cell) (P : List Slot → List Cell → Prop) : Prop := WA X.K (cA X es) δ μ P
def DS {ρ : Type} [Enc ρ] (st : Stmt) (δ : List Slot) (μ : List Cell) (N : PN) (R : ρ → List Cell → Prop) (B C : PN) : Prop := WS X.K (cS X st) δ μ N R B C
def DB {ρ : Type} [Enc ρ] (st : List Stmt) (δ : List Slot) (μ : List Cell) (N : PN) (R : ρ → List Cell → Prop) (B C : PN) : Prop := WS X.K (cSs X st) δ μ N R B C
end
section
variable {X : Cx} {α β γ ρ : Type} [Enc α] [Enc β] [Enc γ] [Enc ρ] {e a b : Expr} {es : List Expr} {t ta tb : TE} {tt : TT} {ts : TS} {tA : TA} {δ : List Slot} {μ : List Cell} {P : α → List Cell → Prop} {PB : Bool → List Cell → Prop} {PA' : List Slot → List Cell → Prop}
  {N B C : PN} {R : ρ → List Cell → Prop} {st : Stmt} {sts : List Stmt}
theorem of_pe (h : PE X e t) (w : WE X.K t δ μ P) : DE X e δ μ P := fun M σ H E Q q pins s I => h.run pins s σ H Q I (w M σ H E Q q)
theorem of_pt (h : PT X e tt) (w : WT X.K tt δ μ PB) : DT X e δ μ PB := fun M σ H E Q q pins s I => h.run pins s σ H Q I (w M σ H E Q q)
theorem of_pw (h : PW X e tt) (w : WT X.K tt δ μ PB) : DW X e δ μ PB := fun M σ H E Q q wh pins s I => h.run wh pins s σ H Q I (w M σ H E Q q)
theorem DW.dt (h : DW X e δ μ PB) : DT X e δ μ PB := fun M σ H E Q q pins s I => h M σ H E Q q _ pins s I
theorem of_pa (h : PA X es tA) (w : WA X.K tA δ μ PA') : DA X es δ μ PA' := fun M σ H E Q q pos pins s I => h.run pos pins s σ H Q I (w M σ H E Q q)
theorem of_ps (h : PS X st ts) (w : WS X.K ts δ μ N R B C) : DS X st δ μ N R B C := fun M σ H E D n r b c pins s I => h.run pins s σ H D I (w M σ H E D n r b c)
theorem of_pss (h : PSs X sts ts) (w : WS X.K ts δ μ N R B C) : DB X sts δ μ N R B C := fun M σ H E D n r b c pins s I => h.run pins s σ H D I (w M σ H E D n r b c)

/-! ### names, constants -/
theorem de_var {i : Nat} {x : Str} {pos : Pos} {A : Enc α} {v : α} {P : α → List Cell → Prop} (h : δ[i]? = some (.val A v)) (q : P v μ) (hN : X.N[i]? = some x := by rfl) (hv : Vis X.env.scope x := by first | exact Or.inl rfl | exact Or.inr (Or.inl rfl) | exact Or.inr (Or.inr rfl))
    (hd : (x == ("__debug__" : Str)) = false := by decide) (hcd : (x == ("__classdict__" : Str)) = false := by decide) : @DE X α A (.Name x pos) δ μ P :=
  @of_pe X α A _ _ _ _ _ (pe_var hN hv hd hcd) fun M σ H E Q k => by
    obtain ⟨w, e, r⟩ := E.get h
    exact ⟨w, e, k v μ M w H q Ste.refl E.h r⟩
theorem de_c {v : V} {x : α} (he : PE X e (tC v)) (r : ∀ K M H, Enc.R K M H v x) (q : P x μ) : DE X e δ μ P :=
  of_pe he fun M σ H E Q k => k x μ M v H q Ste.refl E.h (r _ _ _)
theorem de_int {i : Int} {j pos} {P : Int → List Cell → Prop} (q : P i μ) : DE X (.Constant (.int i) j pos) δ μ P := de_c pe_int (fun _ _ _ => rfl) q
theorem de_bl {i : Bool} {j pos} {P : Bool → List Cell → Prop} (q : P i μ) : DE X (.Constant (.bool i) j pos) δ μ P := de_c pe_bl (fun _ _ _ => rfl) q
theorem de_str {i : Str} {j pos} {P : Str → List Cell → Prop} (q : P i μ) : DE X (.Constant (.str i) j pos) δ μ P := de_c pe_str (fun _ _ _ => rfl) q
theorem de_non {j pos} {P : Unit → List Cell → Prop} (q : P () μ) : DE X (.Constant .none j pos) δ μ P := de_c pe_non (fun _ _ _ => rfl) q
theorem de_nonO [NN α] {j pos} {P : Option α → List Cell → Prop} (q : P none μ) : DE X (.Constant .none j pos) δ μ P := de_c pe_non (fun _ _ _ => rfl) q
theorem de_some [NN α] {P : Option α → List Cell → Prop} (h : DE X e δ μ (fun (x : α) μ' => P (some x) μ')) : DE X e δ μ P :=
  fun M σ H E Q k => h M σ H E Q fun x μ' M' v H' p s hh r => k (some x) μ' M' v H' p s hh r
theorem DE.mono {P P' : α → List Cell → Prop} (h : DE X e δ μ P) (k : ∀ x μ', P x μ' → P' x μ') : DE X e δ μ P' := fun M σ H E Q q => h M σ H E Q fun x μ' M' v H' p => q x μ' M' v H' (k x μ' p)

/-! ### two in a row -/
theorem we2 {r : R2} {ta tb : TE} {P1 : α → List Cell → Prop} {P2 : α → List Cell → β → List Cell → Prop} {P : γ → List Cell → Prop} (ha : WE X.K ta δ μ P1) (hb : ∀ x μ1, P1 x μ1 → WE X.K tb δ μ1 (P2 x μ1))
    (hr : ∀ x μ1 y μ2, P1 x μ1 → P2 x μ1 y μ2 → ∀ (M : AS) (H : Hp) (v w : V), Holds X.K M μ2 H → Enc.R X.K M H v x → Enc.R X.K M H w y → ∀ Q : VK, (∀ z μ' M' u H', P z μ' → Ste M μ2 H M' μ' H' → Holds X.K M' μ' H' → Enc.R X.K M' H' u z → Q u H') → r v w H Q) :
    WE X.K (tOp r ta tb) δ μ P := fun M σ H E Q k =>
  ha M σ H E _ fun x μ1 M1 v H1 p1 s1 h1 r1 => hb x μ1 p1 M1 σ H1 (E.step s1 h1) _ fun y μ2 M2 w H2 p2 s2 h2 r2 =>
    hr x μ1 y μ2 p1 p2 M2 H2 v w h2 (tr s2 h1 r1) r2 Q fun z μ' M' u H' p s3 h3 r3 => k z μ' M' u H' p ((s1.trans s2).trans s3) h3 r3
/-- an operation on two values that makes nothing -/
theorem de_op {op : Operator} {r : R2} {pos : Pos} {P : γ → List Cell → Prop} (ho : OpR X (binaryOp op) r)
    (h : DE X a δ μ fun (x : α) μ1 => DE X b δ μ1 fun (y : β) μ2 => ∃ z : γ, P z μ2 ∧ ∀ (K : PySem.W.Frag) (M : AS) (H : Hp) (v w : V), Enc.R K M H v x → Enc.R K M H w y → ∀ Q : VK, (∀ u, Enc.R K M H u z → Q u H) → r v w H Q) :
    DE X (.BinOp a op b pos) δ μ P :=
  of_pe (pe_op ho (cE_pe a) (cE_pe b)) (we2 (P2 := fun x μ1 y μ2 => ∃ z : γ, P z μ2 ∧ ∀ (K : PySem.W.Frag) (M : AS) (H : Hp) (v w : V), Enc.R K M H v x → Enc.R K M H w y → ∀ Q : VK, (∀ u, Enc.R K M H u z → Q u H) → r v w H Q) h (fun x μ1 p => p)
    fun x μ1 y μ2 _ p2 M H v w hh r1 r2 Q k => by
      obtain ⟨z, p, hz⟩ := p2
      exact hz X.K M H v w r1 r2 Q fun u ru => k z μ2 M u H p Ste.refl hh ru)
theorem de_cmp {op : CmpOp} {r : R2} {pos : Pos} {P : γ → List Cell → Prop} (ho : OpR X (compareOp op) r)
    (h : DE X a δ μ fun (x : α) μ1 => DE X b δ μ1 fun (y : β) μ2 => ∃ z : γ, P z μ2 ∧ ∀ (K : PySem.W.Frag) (M : AS) (H : Hp) (v w : V), Enc.R K M H v x → Enc.R K M H w y → ∀ Q : VK, (∀ u, Enc.R K M H u z → Q u H) → r v w H Q) (hm : behindInMarks op b = false) :
    DE X (.Compare a [op] [b] pos) δ μ P :=
  of_pe (pe_cmpR ho (cE_pe a) (cE_pe b) hm) (we2 (P2 := fun x μ1 y μ2 => ∃ z : γ, P z μ2 ∧ ∀ (K : PySem.W.Frag) (M : AS) (H : Hp) (v w : V), Enc.R K M H v x → Enc.R K M H w y → ∀ Q : VK, (∀ u, Enc.R K M H u z → Q u H) → r v w H Q) h (fun x μ1 p => p)
    fun x μ1 y μ2 _ p2 M H v w hh r1 r2 Q k => by
      obtain ⟨z, p, hz⟩ := p2
      exact hz X.K M H v w r1 r2 Q fun u ru => k z μ2 M u H p Ste.refl hh ru)
theorem iiI {g : Int → Int → Int} {x y : Int} : ∀ (K : PySem.W.Frag) (M : AS) (H : Hp) (v w : V), Enc.R K M H v x → Enc.R K M H w y → ∀ Q : VK, (∀ u, Enc.R K M H u (g x y) → Q u H) → rI0 (fun i j => .int (g i j)) v w H Q := fun K M H v w r1 r2 Q k => ⟨x, y, r1, r2, k _ rfl⟩
theorem iiC {C : Int → Int → Prop} {g : Int → Int → Int} {x y : Int} (c : C x y) : ∀ (K : PySem.W.Frag) (M : AS) (H : Hp) (v w : V), Enc.R K M H v x → Enc.R K M H w y → ∀ Q : VK, (∀ u, Enc.R K M H u (g x y) → Q u H) → rI C (fun i j => .int (g i j)) v w H Q := fun K M H v w r1 r2 Q k => ⟨x, y, r1, r2, c, k _ rfl⟩
theorem iiB {g : Int → Int → Bool} {x y : Int} : ∀ (K : PySem.W.Frag) (M : AS) (H : Hp) (v w : V), Enc.R K M H v x → Enc.R K M H w y → ∀ Q : VK, (∀ u, Enc.R K M H u (g x y) → Q u H) → rI0 (fun i j => .bl (g i j)) v w H Q := fun K M H v w r1 r2 Q k => ⟨x, y, r1, r2, k _ rfl⟩
section
variable {pos : Pos} {P : Int → List Cell → Prop} {PB : Bool → List Cell → Prop}
theorem de_add (h : DE X a δ μ fun (x : Int) μ1 => DE X b δ μ1 fun (y : Int) μ2 => P (x + y) μ2) : DE X (.BinOp a .Add b pos) δ μ P :=
  de_op op_add (h.mono fun x μ1 h => h.mono fun y μ2 p => ⟨_, p, iiI (g := fun i j => i + j)⟩)
theorem de_sub (h : DE X a δ μ fun (x : Int) μ1 => DE X b δ μ1 fun (y : Int) μ2 => P (x - y) μ2) : DE X (.BinOp a .Sub b pos) δ μ P :=
  de_op op_sub (h.mono fun x μ1 h => h.mono fun y μ2 p => ⟨_, p, iiI (g := fun i j => i - j)⟩)
theorem de_mul (h : DE X a δ μ fun (x : Int) μ1 => DE X b δ μ1 fun (y : Int) μ2 => CMulX x y ∧ P (x * y) μ2) : DE X (.BinOp a .Mult b pos) δ μ P :=
  de_op op_mulX (h.mono fun x μ1 h => h.mono fun y μ2 p => ⟨_, p.2, iiC (g := fun i j => i * j) p.1⟩)
/-- one side small -/
theorem de_mulS (h : DE X a δ μ fun (x : Int) μ1 => DE X b δ μ1 fun (y : Int) μ2 => CMul x y ∧ P (x * y) μ2) : DE X (.BinOp a .Mult b pos) δ μ P :=
  de_op op_mul (h.mono fun x μ1 h => h.mono fun y μ2 p => ⟨_, p.2, iiC (g := fun i j => i * j) p.1⟩)
theorem de_div (h : DE X a δ μ fun (x : Int) μ1 => DE X b δ μ1 fun (y : Int) μ2 => CDivW x y ∧ P (x / y) μ2) : DE X (.BinOp a .FloorDiv b pos) δ μ P :=
  de_op op_fdivW (h.mono fun x μ1 h => h.mono fun y μ2 p => ⟨_, p.2, iiC (g := fun i j => i / j) p.1⟩)
theorem de_mod (h : DE X a δ μ fun (x : Int) μ1 => DE X b δ μ1 fun (y : Int) μ2 => 0 < y ∧ P (x % y) μ2) : DE X (.BinOp a .Mod b pos) δ μ P :=
  de_op op_mod (h.mono fun x μ1 h => h.mono fun y μ2 p => ⟨_, p.2, iiC (C := fun _ j => 0 < j) (g := fun i j => i % j) p.1⟩)
theorem de_lt (h : DE X a δ μ fun (x : Int) μ1 => DE X b δ μ1 fun (y : Int) μ2 => PB (decide (x < y)) μ2) : DE X (.Compare a [.Lt] [b] pos) δ μ PB :=
  de_cmp op_lt (h.mono fun x μ1 h => h.mono fun y μ2 p => ⟨_, p, iiB (g := fun i j => decide (i < j))⟩) (nomark b)
theorem de_le (h : DE X a δ μ fun (x : Int) μ1 => DE X b δ μ1 fun (y : Int) μ2 => PB (decide (x ≤ y)) μ2) : DE X (.Compare a [.LtE] [b] pos) δ μ PB :=
  de_cmp op_le (h.mono fun x μ1 h => h.mono fun y μ2 p => ⟨_, p, iiB (g := fun i j => decide (i ≤ j))⟩) (nomark b)
theorem de_gt (h : DE X a δ μ fun (x : Int) μ1 => DE X b δ μ1 fun (y : Int) μ2 => PB (decide (y < x)) μ2) : DE X (.Compare a [.Gt] [b] pos) δ μ PB :=
  de_cmp op_gt (h.mono fun x μ1 h => h.mono fun y μ2 p => ⟨_, p, iiB (g := fun i j => decide (j < i))⟩) (nomark b)
theorem de_ge (h : DE X a δ μ fun (x : Int) μ1 => DE X b δ μ1 fun (y : Int) μ2 => PB (decide (y ≤ x)) μ2) : DE X (.Compare a [.GtE] [b] pos) δ μ PB :=
  de_cmp op_ge (h.mono fun x μ1 h => h.mono fun y μ2 p => ⟨_, p, iiB (g := fun i j => decide (j ≤ i))⟩) (nomark b)
theorem de_eqI (h : DE X a δ μ fun (x : Int) μ1 => DE X b δ μ1 fun (y : Int) μ2 => PB (decide (x = y)) μ2) : DE X (.Compare a [.Eq] [b] pos) δ μ PB :=
  de_cmp op_eq (h.mono fun x μ1 h => h.mono fun y μ2 p => ⟨_, p, fun K M H v w r1 r2 Q k => by
    cases r1; cases r2
    refine ⟨rfl, k _ ?_⟩
    show V.bl _ = V.bl _
    simp only [V.int.injEq]⟩) (nomark b)
theorem de_neI (h : DE X a δ μ fun (x : Int) μ1 => DE X b δ μ1 fun (y : Int) μ2 => PB (!decide (x = y)) μ2) : DE X (.Compare a [.NotEq] [b] pos) δ μ PB :=
  de_cmp op_ne (h.mono fun x μ1 h => h.mono fun y μ2 p => ⟨_, p, fun K M H v w r1 r2 Q k => by
    cases r1; cases r2
    refine ⟨rfl, k _ ?_⟩
    show V.bl _ = V.bl _
    simp only [V.int.injEq]⟩) (nomark b)
theorem we1 {r : V → Hp → VK → Prop} {ta : TE} {P1 : α → List Cell → Prop} {P : γ → List Cell → Prop} (ha : WE X.K ta δ μ P1)
    (hr : ∀ x μ1, P1 x μ1 → ∀ (M : AS) (H : Hp) (v : V), Holds X.K M μ1 H → Enc.R X.K M H v x → ∀ Q : VK, (∀ z μ' M' u H', P z μ' → Ste M μ1 H M' μ' H' → Holds X.K M' μ' H' → Enc.R X.K M' H' u z → Q u H') → r v H Q) :
    WE X.K (tUn r ta) δ μ P := fun M σ H E Q k =>
  ha M σ H E _ fun x μ1 M1 v H1 p1 s1 h1 r1 => hr x μ1 p1 M1 H1 v h1 r1 Q fun z μ' M' u H' p s3 h3 r3 => k z μ' M' u H' p (s1.trans s3) h3 r3
theorem de_neg (h : DE X a δ μ fun (x : Int) μ1 => P (-x) μ1) : DE X (.UnaryOp .USub a pos) δ μ P :=
  of_pe (pe_un un_neg (cE_pe a)) (we1 h fun x μ1 p M H v hh r1 Q k => by
    cases r1
    exact ⟨x, rfl, k _ μ1 M _ H p Ste.refl hh rfl⟩)
/-- is None, is not None -/
theorem de_isN [NN α] {j pos'} (h : DE X a δ μ fun (x : Option α) μ1 => PB x.isNone μ1) : DE X (.Compare a [.Is] [.Constant .none j pos'] pos) δ μ PB :=
  of_pe (pe_cmp (pc_isN (cE_pe a))) fun M σ H E Q k => h M σ H E _ fun x μ1 M1 v H1 p1 s1 h1 r1 => k x.isNone μ1 M1 _ H1 p1 s1 h1 (by
    cases x with
    | none => cases r1; rfl
    | some y =>
      have := NN.nn (x := y) r1
      show V.bl (decide (v = V.non)) = V.bl false
      rw [decide_eq_false this])
theorem de_isNot [NN α] {j pos'} (h : DE X a δ μ fun (x : Option α) μ1 => PB x.isSome μ1) : DE X (.Compare a [.IsNot] [.Constant .none j pos'] pos) δ μ PB :=
  of_pe (pe_cmp (pc_notN (cE_pe a))) fun M σ H E Q k => h M σ H E _ fun x μ1 M1 v H1 p1 s1 h1 r1 => k x.isSome μ1 M1 _ H1 p1 s1 h1 (by
    cases x with
    | none => cases r1; rfl
    | some y =>
      have := NN.nn (x := y) r1
      show V.bl (!decide (v = V.non)) = V.bl true
      rw [decide_eq_false this]
      rfl)
/-! ### tests -/
/-- a bool as a test -/
theorem dt_val (h : DE X a δ μ PB) (he : ∀ whole, isTrue a X.env whole = (do let v ← whole; standAt a.pos; holding [v] (truthy v)) := by intro _; rfl) : DT X a δ μ PB :=
  of_pt (pt_val (cE_pe a) he) fun M σ H E Q k => h M σ H E _ fun x μ1 M1 v H1 p1 s1 h1 r1 => ⟨x, r1, k x μ1 M1 H1 p1 s1 h1⟩
/-- a comparison as a test -/
theorem wt2 {r : R2} {ta tb : TE} {P1 : α → List Cell → Prop} {P2 : α → List Cell → β → List Cell → Prop} (ha : WE X.K ta δ μ P1) (hb : ∀ x μ1, P1 x μ1 → WE X.K tb δ μ1 (P2 x μ1))
    (hr : ∀ x μ1 y μ2, P1 x μ1 → P2 x μ1 y μ2 → ∀ (M : AS) (H : Hp) (v w : V), Holds X.K M μ2 H → Enc.R X.K M H v x → Enc.R X.K M H w y → ∀ Q : VK, (∀ z μ' M' H', PB z μ' → Ste M μ2 H M' μ' H' → Holds X.K M' μ' H' → Q (.bl z) H') → r v w H Q) :
    WT X.K (tTest (tOp r ta tb)) δ μ PB := fun M σ H E Q k =>
  ha M σ H E _ fun x μ1 M1 v H1 p1 s1 h1 r1 => hb x μ1 p1 M1 σ H1 (E.step s1 h1) _ fun y μ2 M2 w H2 p2 s2 h2 r2 =>
    hr x μ1 y μ2 p1 p2 M2 H2 v w h2 (tr s2 h1 r1) r2 _ fun z μ' M' H' p s3 h3 => ⟨z, rfl, k z μ' M' H' p ((s1.trans s2).trans s3) h3⟩
/-- any comparison whose value is known, as a test -/
theorem dt_cmp {op : CmpOp} {r : R2} (ho : OpR X (compareOp op) r)
    (h : DE X a δ μ fun (x : α) μ1 => DE X b δ μ1 fun (y : β) μ2 => ∃ z : Bool, PB z μ2 ∧ ∀ (K : PySem.W.Frag) (M : AS) (H : Hp) (v w : V), Enc.R K M H v x → Enc.R K M H w y → ∀ Q : VK, (∀ u, Enc.R K M H u z → Q u H) → r v w H Q) (hm : behindInMarks op b = false) :
    DT X (.Compare a [op] [b] pos) δ μ PB :=
  of_pt (pt_cmpR ho (cE_pe a) (cE_pe b) hm) (wt2 (P2 := fun x μ1 y μ2 => ∃ z : Bool, PB z μ2 ∧ ∀ (K : PySem.W.Frag) (M : AS) (H : Hp) (v w : V), Enc.R K M H v x → Enc.R K M H w y → ∀ Q : VK, (∀ u, Enc.R K M H u z → Q u H) → r v w H Q) h (fun x μ1 p => p)
    fun x μ1 y μ2 _ p2 M H v w hh r1 r2 Q k => by
      obtain ⟨z, p, hz⟩ := p2
      exact hz X.K M H v w r1 r2 Q fun u ru => by
        cases ru
        exact k z μ2 M H p Ste.refl hh)
theorem dt_lt (h : DE X a δ μ fun (x : Int) μ1 => DE X b δ μ1 fun (y : Int) μ2 => PB (decide (x < y)) μ2) : DT X (.Compare a [.Lt] [b] pos) δ μ PB :=
  dt_cmp op_lt (h.mono fun x μ1 h => h.mono fun y μ2 p => ⟨_, p, iiB (g := fun i j => decide (i < j))⟩) (nomark b)
theorem dt_le (h : DE X a δ μ fun (x : Int) μ1 => DE X b δ μ1 fun (y : Int) μ2 => PB (decide (x ≤ y)) μ2) : DT X (.Compare a [.LtE] [b] pos) δ μ PB :=
  dt_cmp op_le (h.mono fun x μ1 h => h.mono fun y μ2 p => ⟨_, p, iiB (g := fun i j => decide (i ≤ j))⟩) (nomark b)
theorem dt_gt (h : DE X a δ μ fun (x : Int) μ1 => DE X b δ μ1 fun (y : Int) μ2 => PB (decide (y < x)) μ2) : DT X (.Compare a [.Gt] [b] pos) δ μ PB :=
  dt_cmp op_gt (h.mono fun x μ1 h => h.mono fun y μ2 p => ⟨_, p, iiB (g := fun i j => decide (j < i))⟩) (nomark b)
theorem dt_ge (h : DE X a δ μ fun (x : Int) μ1 => DE X b δ μ1 fun (y : Int) μ2 => PB (decide (y ≤ x)) μ2) : DT X (.Compare a [.GtE] [b] pos) δ μ PB :=
  dt_cmp op_ge (h.mono fun x μ1 h => h.mono fun y μ2 p => ⟨_, p, iiB (g := fun i j => decide (j ≤ i))⟩) (nomark b)
theorem dt_eqI (h : DE X a δ μ fun (x : Int) μ1 => DE X b δ μ1 fun (y : Int) μ2 => PB (decide (x = y)) μ2) : DT X (.Compare a [.Eq] [b] pos) δ μ PB :=
  dt_cmp op_eq (h.mono fun x μ1 h => h.mono fun y μ2 p => ⟨_, p, fun K M H v w r1 r2 Q k => by
    cases r1; cases r2
    refine ⟨rfl, k _ ?_⟩
    show V.bl _ = V.bl _
    simp only [V.int.injEq]⟩) (nomark b)
theorem dt_neI (h : DE X a δ μ fun (x : Int) μ1 => DE X b δ μ1 fun (y : Int) μ2 => PB (!decide (x = y)) μ2) : DT X (.Compare a [.NotEq] [b] pos) δ μ PB :=
  dt_cmp op_ne (h.mono fun x μ1 h => h.mono fun y μ2 p => ⟨_, p, fun K M H v w r1 r2 Q k => by
    cases r1; cases r2
    refine ⟨rfl, k _ ?_⟩
    show V.bl _ = V.bl _
    simp only [V.int.injEq]⟩) (nomark b)
theorem dt_isN [NN α] {j pos'} (h : DE X a δ μ fun (x : Option α) μ1 => PB x.isNone μ1) : DT X (.Compare a [.Is] [.Constant .none j pos'] pos) δ μ PB :=
  of_pt (pt_cmp (pc_isN (cE_pe a))) fun M σ H E Q k => h M σ H E _ fun x μ1 M1 v H1 p1 s1 h1 r1 => ⟨x.isNone, by
    cases x with
    | none => cases r1; rfl
    | some y =>
      have := NN.nn (x := y) r1
      show V.bl (decide (v = V.non)) = V.bl false
      rw [decide_eq_false this], k x.isNone μ1 M1 H1 p1 s1 h1⟩
theorem dt_isNot [NN α] {j pos'} (h : DE X a δ μ fun (x : Option α) μ1 => PB x.isSome μ1) : DT X (.Compare a [.IsNot] [.Constant .none j pos'] pos) δ μ PB :=
  of_pt (pt_cmp (pc_notN (cE_pe a))) fun M σ H E Q k => h M σ H E _ fun x μ1 M1 v H1 p1 s1 h1 r1 => ⟨x.isSome, by
    cases x with
    | none => cases r1; rfl
    | some y =>
      have := NN.nn (x := y) r1
      show V.bl (!decide (v = V.non)) = V.bl true
      rw [decide_eq_false this]
      rfl, k x.isSome μ1 M1 H1 p1 s1 h1⟩
theorem dt_not (h : DT X a δ μ fun x μ1 => PB (!x) μ1) : DT X (.UnaryOp .Not a pos) δ μ PB :=
  of_pt (pt_not (cV_pt a)) fun M σ H E Q k => h M σ H E _ fun x μ1 M1 H1 p1 s1 h1 => k (!x) μ1 M1 H1 p1 s1 h1
theorem dw_and1 (h : DT X a δ μ PB) : DW X (.BoolOp .And [a] pos) δ μ PB := of_pw (pw_and1 (cV_pt a)) h
theorem dw_or1 (h : DT X a δ μ PB) : DW X (.BoolOp .Or [a] pos) δ μ PB := of_pw (pw_or1 (cV_pt a)) h
theorem dw_and {rest : List Expr} (h : DT X a δ μ fun x μ1 => (x = true → DW X (.BoolOp .And (b :: rest) pos) δ μ1 PB) ∧ (x = false → PB false μ1)) : DW X (.BoolOp .And (a :: b :: rest) pos) δ μ PB :=
  of_pw (pw_and (cV_pt a) (cT_pw _)) fun M σ H E Q k => h M σ H E _ fun x μ1 M1 H1 p1 s1 h1 => by
    cases x with
    | true => exact iteT (p1.1 rfl M1 σ H1 (E.step s1 h1) Q fun z μ' M' H' p s2 h2 => k z μ' M' H' p (s1.trans s2) h2)
    | false => exact iteF (k false μ1 M1 H1 (p1.2 rfl) s1 h1)
theorem dw_or {rest : List Expr} (h : DT X a δ μ fun x μ1 => (x = true → PB true μ1) ∧ (x = false → DW X (.BoolOp .Or (b :: rest) pos) δ μ1 PB)) : DW X (.BoolOp .Or (a :: b :: rest) pos) δ μ PB :=
  of_pw (pw_or (cV_pt a) (cT_pw _)) fun M σ H E Q k => h M σ H E _ fun x μ1 M1 H1 p1 s1 h1 => by
    cases x with
    | true => exact iteT (k true μ1 M1 H1 (p1.1 rfl) s1 h1)
    | false => exact iteF (p1.2 rfl M1 σ H1 (E.step s1 h1) Q fun z μ' M' H' p s2 h2 => k z μ' M' H' p (s1.trans s2) h2)
/-- and, or, not as values -/
theorem de_one {op} {P : α → List Cell → Prop} (h : DE X a δ μ P) : DE X (.BoolOp op [a] pos) δ μ P := of_pe (pe_one (cE_pe a)) h
theorem de_and {rest : List Expr} (h : DE X a δ μ fun (x : Bool) μ1 => (x = true → DE X (.BoolOp .And (b :: rest) pos) δ μ1 PB) ∧ (x = false → PB false μ1)) : DE X (.BoolOp .And (a :: b :: rest) pos) δ μ PB :=
  of_pe (pe_and (cE_pe a) (cE_pe _)) fun M σ H E Q k => h M σ H E _ fun x μ1 M1 v H1 p1 s1 h1 r1 => ⟨x, r1, by
    cases x with
    | true => exact iteT (p1.1 rfl M1 σ H1 (E.step s1 h1) Q fun z μ' M' u H' p s2 h2 => k z μ' M' u H' p (s1.trans s2) h2)
    | false => exact iteF (k false μ1 M1 _ H1 (p1.2 rfl) s1 h1 rfl)⟩
theorem de_or {rest : List Expr} (h : DE X a δ μ fun (x : Bool) μ1 => (x = true → PB true μ1) ∧ (x = false → DE X (.BoolOp .Or (b :: rest) pos) δ μ1 PB)) : DE X (.BoolOp .Or (a :: b :: rest) pos) δ μ PB :=
  of_pe (pe_or (cE_pe a) (cE_pe _)) fun M σ H E Q k => h M σ H E _ fun x μ1 M1 v H1 p1 s1 h1 r1 => ⟨x, r1, by
    cases x with
    | true => exact iteT (k true μ1 M1 _ H1 (p1.1 rfl) s1 h1 rfl)
    | false => exact iteF (p1.2 rfl M1 σ H1 (E.step s1 h1) Q fun z μ' M' u H' p s2 h2 => k z μ' M' u H' p (s1.trans s2) h2)⟩
theorem de_not (h : DE X a δ μ fun (x : Bool) μ1 => PB (!x) μ1) : DE X (.UnaryOp .Not a pos) δ μ PB :=
  of_pe (pe_not (cE_pe a)) fun M σ H E Q k => h M σ H E _ fun x μ1 M1 v H1 p1 s1 h1 r1 => ⟨x, r1, k (!x) μ1 M1 _ H1 p1 s1 h1 rfl⟩
theorem de_if {c : Expr} {P : α → List Cell → Prop} (h : DT X c δ μ fun x μ1 => (x = true → DE X a δ μ1 P) ∧ (x = false → DE X b δ μ1 P)) : DE X (.IfExp c a b pos) δ μ P :=
  of_pe (pe_ifExp (cV_pt c) (cE_pe a) (cE_pe b)) fun M σ H E Q k => h M σ H E _ fun x μ1 M1 H1 p1 s1 h1 => by
    cases x with
    | true => exact iteT (p1.1 rfl M1 σ H1 (E.step s1 h1) Q fun z μ' M' u H' p s2 h2 => k z μ' M' u H' p (s1.trans s2) h2)
    | false => exact iteF (p1.2 rfl M1 σ H1 (E.step s1 h1) Q fun z μ' M' u H' p s2 h2 => k z μ' M' u H' p (s1.trans s2) h2)
end
/-! ### arguments -/
theorem da_nil {P : List Slot → List Cell → Prop} (q : P [] μ) : DA X [] δ μ P := of_pa pa_nil fun M σ H E Q k => k [] μ M [] H q Ste.refl E.h .nil
theorem da_cons {P : List Slot → List Cell → Prop} {A : Enc α} (h : @DE X α A a δ μ fun x μ1 => DA X es δ μ1 fun xs μ2 => P (.val A x :: xs) μ2) (hs : starEach (a :: es) X.env = (false, eval a X.env) :: starEach es X.env := by rfl) : DA X (a :: es) δ μ P :=
  of_pa (pa_cons (cE_pe a) (cA_pa es) hs) fun M σ H E Q k => h M σ H E _ fun x μ1 M1 v H1 p1 s1 h1 r1 => p1 M1 σ H1 (E.step s1 h1) _ fun xs μ2 M2 vs H2 p2 s2 h2 r2 =>
    k _ μ2 M2 _ H2 p2 (s1.trans s2) h2 (.cons (Dl.tr (A := A) s2 h1 r1) r2)
end
end Dl
namespace Dl
open PySem PySem.Spec PyProof.Rows L2
theorem SlVs.ex : ∀ {K : PySem.W.Frag} {M : AS} {H : Hp} {α : Type} [A : Enc α] {vs : List V} {xs : List α}, SlVs K M H vs (xs.map fun x => Slot.val A x) → Paired (A.R K M H) vs xs
  | _, _, _, _, _, _, [], h => by cases h; exact .nil
  | _, _, _, _, _, _, x :: xs, h => by
    cases h with
    | cons r t => exact .cons r (SlVs.ex t)
section
variable {X : Cx} {α β γ ρ : Type} [Enc α] [Enc β] [Enc γ] [Enc ρ] {e a b : Expr} {es : List Expr} {δ : List Slot} {μ : List Cell} {P : α → List Cell → Prop} {PB : Bool → List Cell → Prop}
  {N B C : PN} {R : ρ → List Cell → Prop} {st : Stmt} {sts s1 s2 : List Stmt} {pos : Pos}
/-! ### statements -/
theorem db_nil (q : N δ μ) : DB X [] δ μ N R B C := of_pss pss_nil fun M σ H E D n r b c => n δ μ M σ H q Ste.refl E
theorem DS.mono {N' B' C' : PN} {R' : ρ → List Cell → Prop} (h : DS X st δ μ N R B C) (n : ∀ δ μ, N δ μ → N' δ μ) (r : ∀ x μ, R x μ → R' x μ) (b : ∀ δ μ, B δ μ → B' δ μ) (c : ∀ δ μ, C δ μ → C' δ μ) : DS X st δ μ N' R' B' C' :=
  fun M σ H E D n' r' b' c' => h M σ H E D (fun δ' μ' M' σ' H' p => n' δ' μ' M' σ' H' (n _ _ p)) (fun x μ' M' v H' p => r' x μ' M' v H' (r _ _ p)) (fun δ' μ' M' σ' H' p => b' δ' μ' M' σ' H' (b _ _ p)) (fun δ' μ' M' σ' H' p => c' δ' μ' M' σ' H' (c _ _ p))
theorem DB.mono {N' B' C' : PN} {R' : ρ → List Cell → Prop} (h : DB X sts δ μ N R B C) (n : ∀ δ μ, N δ μ → N' δ μ) (r : ∀ x μ, R x μ → R' x μ) (b : ∀ δ μ, B δ μ → B' δ μ) (c : ∀ δ μ, C δ μ → C' δ μ) : DB X sts δ μ N' R' B' C' :=
  fun M σ H E D n' r' b' c' => h M σ H E D (fun δ' μ' M' σ' H' p => n' δ' μ' M' σ' H' (n _ _ p)) (fun x μ' M' v H' p => r' x μ' M' v H' (r _ _ p)) (fun δ' μ' M' σ' H' p => b' δ' μ' M' σ' H' (b _ _ p)) (fun δ' μ' M' σ' H' p => c' δ' μ' M' σ' H' (c _ _ p))
theorem db_cons (h : DS X st δ μ (fun δ' μ' => DB X sts δ' μ' N R B C) R B C) : DB X (st :: sts) δ μ N R B C :=
  of_pss (pss_cons (cS_ps st) (cSs_pss sts)) fun M σ H E D n r b c => h M σ H E { D with nx := cSs X sts D }
    (fun δ' μ' M' σ' H' p s E' => p M' σ' H' E' D (fun _ _ _ _ _ p2 s2 E2 => n _ _ _ _ _ p2 (s.trans s2) E2) (fun _ _ _ _ _ p2 s2 h2 r2 => r _ _ _ _ _ p2 (s.trans s2) h2 r2)
      (fun _ _ _ _ _ p2 s2 E2 => b _ _ _ _ _ p2 (s.trans s2) E2) (fun _ _ _ _ _ p2 s2 E2 => c _ _ _ _ _ p2 (s.trans s2) E2)) r b c
theorem db_one (h : DS X st δ μ N R B C) : DB X [st] δ μ N R B C := of_pss (pss_one (cS_ps st)) h
theorem ds_pass (q : N δ μ) : DS X (.Pass pos) δ μ N R B C := of_ps ps_pass fun M σ H E D n r b c => n δ μ M σ H q Ste.refl E
theorem ds_break (q : B δ μ) : DS X (.Break pos) δ μ N R B C := of_ps ps_break fun M σ H E D n r b c => b δ μ M σ H q Ste.refl E
theorem ds_continue (q : C δ μ) : DS X (.Continue pos) δ μ N R B C := of_ps ps_continue fun M σ H E D n r b c => c δ μ M σ H q Ste.refl E
theorem ds_expr (h : DE X e δ μ fun (x : α) μ' => N δ μ') (hs : swapsWith e none pos.line X.env = pure false := by rfl) : DS X (.Expr e pos) δ μ N R B C :=
  of_ps (ps_expr (cE_pe e) hs) fun M σ H E D n r b c => h M σ H E _ fun x μ' M' v H' p s hh rr => n δ μ' M' σ H' p s (E.step s hh)
theorem ds_ret {R : α → List Cell → Prop} (h : DE X e δ μ R) : DS X (.Return (some e) pos) δ μ N R B C :=
  of_ps (ps_ret (cE_pe e)) fun M σ H E D n r b c => h M σ H E _ fun x μ' M' v H' p s hh rr => r x μ' M' v H' p s hh rr
theorem ds_retN {R : Unit → List Cell → Prop} (q : R () μ) : DS X (.Return none pos) δ μ N R B C :=
  of_ps ps_retN fun M σ H E D n r b c => r () μ M .non H q Ste.refl E.h rfl
theorem ds_if {c : Expr} (h : DT X c δ μ fun x μ1 => (x = true → DB X s1 δ μ1 N R B C) ∧ (x = false → DB X s2 δ μ1 N R B C)) : DS X (.If c s1 s2 pos) δ μ N R B C :=
  of_ps (ps_if (cV_pt c) (cSs_pss s1) (cSs_pss s2)) fun M σ H E D n r b c => h M σ H E _ fun x μ1 M1 H1 p s hh => by
    have go : ∀ {sts : List Stmt}, DB X sts δ μ1 N R B C → cSs X sts D σ H1 := fun p => p M1 σ H1 (E.step s hh) D (fun _ _ _ _ _ p2 s2 E2 => n _ _ _ _ _ p2 (s.trans s2) E2) (fun _ _ _ _ _ p2 s2 h2 r2 => r _ _ _ _ _ p2 (s.trans s2) h2 r2)
      (fun _ _ _ _ _ p2 s2 E2 => b _ _ _ _ _ p2 (s.trans s2) E2) (fun _ _ _ _ _ p2 s2 E2 => c _ _ _ _ _ p2 (s.trans s2) E2)
    cases x with
    | true => exact iteT (go (p.1 rfl))
    | false => exact iteF (go (p.2 rfl))
theorem ds_set {A : Enc α} {i : Nat} {x : Str} {pos' : Pos} (hN : X.N.Nodup) (h : @DE X α A e δ μ fun v μ' => N (δ.set i (.val A v)) μ') (hi : X.N[i]? = some x := by rfl) (hx : Loc X.env.scope x := by first | exact Or.inl rfl | exact Or.inr rfl) (hs : swapsWith e (some (.Name x pos')) pos.line X.env = pure false := by rfl)
    (hf : X.fn x = true ∨ X.env.scope.names.lookup x = some .local := by first | exact .inl rfl | exact .inr rfl) : DS X (.Assign [.Name x pos'] e pos) δ μ N R B C :=
  of_ps (ps_set hN hi hx (cE_pe e) hs hf) fun M σ H E D n r b c => h M σ H E _ fun x μ' M' v H' p s hh rr => n _ μ' M' _ H' p s ((E.step s hh).put rr)
theorem ds_par {A : Enc α} {B' : Enc β} {i j : Nat} {x y : Str} {px py pt : Pos} {kt k2 pt2} (hc : X.calm = true) (hN : X.N.Nodup) (hij : i ≠ j)
    (h : @DE X α A a δ μ fun v μ1 => @DE X β B' b δ μ1 fun w μ2 => N ((δ.set i (.val A v)).set j (.val B' w)) μ2)
    (hw : swappedStores [.Tuple [.Name x px, .Name y py] kt pt] (.Tuple [a, b] k2 pt2) X.env = pure (some [x, y])) (hi : X.N[i]? = some x := by rfl) (hj : X.N[j]? = some y := by rfl)
    (hx : X.env.scope.names.lookup x = some .local := by rfl) (hy : X.env.scope.names.lookup y = some .local := by rfl)
    (hs : swapsWithSole [.Tuple [.Name x px, .Name y py] kt pt] (.Tuple [a, b] k2 pt2) pos.line X.env = pure false := by rfl)
    (h1 : starEach [a, b] X.env = (false, eval a X.env) :: starEach [b] X.env := by rfl) (h2 : starEach [b] X.env = (false, eval b X.env) :: starEach [] X.env := by rfl) :
    DS X (.Assign [.Tuple [.Name x px, .Name y py] kt pt] (.Tuple [a, b] k2 pt2) pos) δ μ N R B C :=
  of_ps (ps_par hc hN hi hj hij hx hy (pa_cons (cE_pe a) (pa_cons (cE_pe b) pa_nil h2) h1) hw hs) fun M σ H E D n r b' c => h M σ H E _ fun v μ1 M1 v1 H1 p1 s1 hh1 r1 =>
    p1 M1 σ H1 (E.step s1 hh1) _ fun w μ2 M2 w1 H2 p2 s2 hh2 r2 => ⟨v1, w1, rfl, n _ μ2 M2 _ H2 p2 (s1.trans s2)
      (((E.step (s1.trans s2) hh2).put (s := .val A v) (Dl.tr (A := A) s2 hh1 r1)).put (s := .val B' w) r2)⟩
/-! ### tuples, lists -/
theorem foot_alloc {K : PySem.W.Frag} {M : AS} {H : Hp} (h : Holds K M μ H) {p : Addr} (hp : H p = none) (o : HO) : Ste M μ H M μ (upd H p o) where
  keep := fun a u e _ => by rw [upd_ne (ne_of_none e hp)]; exact e
  al := fun a n => by
    by_cases e : a = p
    · subst e; exact absurd hp n
    · rw [upd_ne e]; exact n
  new := fun a z => .inl z
  foo := fun a z => .inl z
  up := fun a z _ _ => z
theorem Holds.alloc {K : PySem.W.Frag} {M : AS} {H : Hp} (h : Holds K M μ H) {p : Addr} (hp : H p = none) (o : HO) : Holds K M μ (upd H p o) where
  cell := fun c hc => c.mono (fun a u e _ => by rw [upd_ne (ne_of_none e hp)]; exact e) (h.cell c hc)
  inM := h.inM
  al := fun a z => (foot_alloc h hp o).al a (h.al a z)
  dj := h.dj
/-- a tuple of two -/
theorem de_tup2 {k : Nat} {P : α × β → List Cell → Prop} (h : DE X a δ μ fun (x : α) μ1 => DE X b δ μ1 fun (y : β) μ2 => P (x, y) μ2)
    (h1 : starEach [a, b] X.env = (false, eval a X.env) :: starEach [b] X.env := by rfl) (h2 : starEach [b] X.env = (false, eval b X.env) :: starEach [] X.env := by rfl) : DE X (.Tuple [a, b] k pos) δ μ P :=
  of_pe (pe_tup (pa_cons (cE_pe a) (pa_cons (cE_pe b) pa_nil h2) h1)) fun M σ H E Q q => h M σ H E _ fun x μ1 M1 v1 H1 p1 s1 hh1 r1 =>
    p1 M1 σ H1 (E.step s1 hh1) _ fun y μ2 M2 v2 H2 p2 s2 hh2 r2 => ⟨by show 2 ≤ sizeLine; decide, fun p hp => by
      have s3 := foot_alloc hh2 hp (.tup [v1, v2])
      refine q (x, y) μ2 M2 _ _ p2 ((s1.trans s2).trans s3) (hh2.alloc hp _) ⟨p, v1, v2, rfl, SqT.of upd_same, ?_, ?_⟩
      · exact tr (s2.trans s3) hh1 r1
      · exact tr s3 hh2 r2⟩
/-- a list or tuple display: its items -/
theorem de_tupN {k : Nat} {P : Tup α → List Cell → Prop} (h : DA X es δ μ fun ss μ1 => ∃ xs : List α, ss = xs.map (fun x => sl x) ∧ xs.length ≤ 1000 ∧ P ⟨xs⟩ μ1) : DE X (.Tuple es k pos) δ μ P :=
  of_pe (pe_tup (cA_pa es)) fun M σ H E Q q => h M σ H E _ fun ss μ1 M1 vs H1 p1 s1 hh1 r1 => by
    obtain ⟨xs, rfl, hl, p⟩ := p1
    have r := SlVs.ex r1
    refine ⟨by rw [r.length]; exact Nat.le_trans hl (by decide), fun p' hp => ?_⟩
    have s3 := foot_alloc hh1 hp (.tup vs)
    exact q ⟨xs⟩ μ1 M1 _ _ p (s1.trans s3) (hh1.alloc hp _) ⟨p', vs, rfl, SqT.of upd_same, paired_map (fun _ _ r => tr s3 hh1 r) r⟩
/-- a list display that stays as it is -/
theorem de_lstF {P : List α → List Cell → Prop} (h : DA X es δ μ fun ss μ1 => ∃ xs : List α, ss = xs.map (fun x => sl x) ∧ xs.length ≤ 1000 ∧ P xs μ1) : DE X (.List es pos) δ μ P :=
  of_pe (pe_lst (cA_pa es)) fun M σ H E Q q => h M σ H E _ fun ss μ1 M1 vs H1 p1 s1 hh1 r1 => by
    obtain ⟨xs, rfl, hl, p⟩ := p1
    have r := SlVs.ex r1
    refine ⟨by rw [r.length]; exact Nat.le_trans hl (by decide), fun p' hp => ?_⟩
    have s3 := foot_alloc hh1 hp (.lst vs)
    exact q xs μ1 M1 _ _ p (s1.trans s3) (hh1.alloc hp _) ⟨p', vs, rfl, fun z => hh1.al _ z hp, .inl upd_same, paired_map (fun _ _ r => tr s3 hh1 r) r⟩
/-! ### items -/
theorem plainIx_int {i : Int} {j pos} : PlainIx (.Constant (.int i) j pos) := fun _ _ => rfl
theorem paired_get {α β : Type} {F : α → β → Prop} {y : β} : ∀ {xs : List α} {ys : List β} {j : Nat}, Paired F xs ys → ys[j]? = some y → ∃ x, xs[j]? = some x ∧ F x y := by
  intro xs ys j r
  induction r generalizing j with
  | nil => intro h; simp at h
  | cons r t ih =>
    intro h
    cases j with
    | zero => simp only [List.getElem?_cons_zero, Option.some.injEq] at h; subst h; exact ⟨_, by simp, r⟩
    | succ j => obtain ⟨x, e, f⟩ := ih (j := j) (by simpa using h); exact ⟨x, by simpa using e, f⟩
theorem paired_atI {α β : Type} {F : α → β → Prop} {xs : List α} {ys : List β} (r : Paired F xs ys) {i : Int} {y : β} (h : atI ys i = some y) : ∃ x, atI xs i = some x ∧ F x y := by
  unfold atI at h ⊢
  rw [r.length]
  cases q : ixN ys.length i with
  | none => rw [q] at h; cases h
  | some k =>
    rw [q] at h
    obtain ⟨x, e, f⟩ := paired_get (j := k) r h
    exact ⟨x, e, f⟩
theorem de_ix0 {j : _} {pos' : Pos} {P : α → List Cell → Prop} (h : DE X a δ μ fun (x : α × β) μ1 => P x.1 μ1) : DE X (.Subscript a (.Constant (.int 0) j pos') pos) δ μ P :=
  of_pe (pe_ix ix_tup (cE_pe a) pe_int plainIx_int) fun M σ H E Q q => h M σ H E _ fun x μ1 M1 v1 H1 p1 s1 hh1 r1 => by
    obtain ⟨p, v1', v2, rfl, hs, r1, r2⟩ := r1
    exact ⟨p, _, 0, v1', rfl, rfl, hs, rfl, q x.1 μ1 M1 _ H1 p1 s1 hh1 r1⟩
theorem de_ix1 {j : _} {pos' : Pos} {P : β → List Cell → Prop} (h : DE X a δ μ fun (x : α × β) μ1 => P x.2 μ1) : DE X (.Subscript a (.Constant (.int 1) j pos') pos) δ μ P :=
  of_pe (pe_ix ix_tup (cE_pe a) pe_int plainIx_int) fun M σ H E Q q => h M σ H E _ fun x μ1 M1 v1 H1 p1 s1 hh1 r1 => by
    obtain ⟨p, v1', v2, rfl, hs, r1, r2⟩ := r1
    exact ⟨p, _, 1, v2, rfl, rfl, hs, rfl, q x.2 μ1 M1 _ H1 p1 s1 hh1 r2⟩
theorem de_ixL {P : α → List Cell → Prop} (h : DE X a δ μ fun (xs : List α) μ1 => DE X b δ μ1 fun (i : Int) μ2 => ∃ y, atI xs i = some y ∧ P y μ2) (hs : PlainIx b := by exact fun _ _ => rfl) : DE X (.Subscript a b pos) δ μ P :=
  of_pe (pe_ix ix_list (cE_pe a) (cE_pe b) hs) fun M σ H E Q q => h M σ H E _ fun xs μ1 M1 v1 H1 p1 s1 hh1 r1 => p1 M1 σ H1 (E.step s1 hh1) _ fun i μ2 M2 w H2 p2 s2 hh2 r2 => by
    obtain ⟨y, hy, p⟩ := p2
    obtain ⟨ad, vs, rfl, nm, rd, r⟩ := tr s2 hh1 r1
    cases r2
    obtain ⟨v, hv, rv⟩ := paired_atI r hy
    exact ⟨ad, vs, i, v, rfl, rfl, .inl rd, hv, q y μ2 M2 v H2 p (s1.trans s2) hh2 rv⟩
theorem de_ixT {P : α → List Cell → Prop} (h : DE X a δ μ fun (xs : Tup α) μ1 => DE X b δ μ1 fun (i : Int) μ2 => ∃ y, atI xs.l i = some y ∧ P y μ2) (hs : PlainIx b := by exact fun _ _ => rfl) : DE X (.Subscript a b pos) δ μ P :=
  of_pe (pe_ix ix_tup (cE_pe a) (cE_pe b) hs) fun M σ H E Q q => h M σ H E _ fun xs μ1 M1 v1 H1 p1 s1 hh1 r1 => p1 M1 σ H1 (E.step s1 hh1) _ fun i μ2 M2 w H2 p2 s2 hh2 r2 => by
    obtain ⟨y, hy, p⟩ := p2
    obtain ⟨ad, vs, rfl, rd, r⟩ := tr s2 hh1 r1
    cases r2
    obtain ⟨v, hv, rv⟩ := paired_atI r hy
    exact ⟨ad, vs, i, v, rfl, rfl, rd, hv, q y μ2 M2 v H2 p (s1.trans s2) hh2 rv⟩
end
end Dl
namespace Dl
open PySem PySem.Spec PyProof.Rows L2
section
variable {X : Cx} {α β γ ρ : Type} [Enc α] [Enc β] [Enc γ] [Enc ρ] {e a b tg : Expr} {es : List Expr} {δ : List Slot} {μ : List Cell} {P : α → List Cell → Prop} {PB : Bool → List Cell → Prop}
  {N B C : PN} {R : ρ → List Cell → Prop} {st : Stmt} {sts s1 s2 body : List Stmt} {pos p : Pos}
/-! ### loops -/
/-- a target of a for -/
structure WG (K : PySem.W.Frag) (g : TG) (s : Slot) (δ : List Slot) (δ' : List Slot) : Prop where
  run : ∀ (M : AS) (μ : List Cell) (σ : L2.St) (H : Hp) (v : V), EnvOk K M μ δ σ H → SlotV K M H v s → ∀ Q : L2.St → Hp → Prop, (∀ σ', EnvOk K M μ δ' σ' H → Q σ' H) → g v σ H Q
theorem wg_name {K : PySem.W.Frag} {i : Nat} {s : Slot} : WG K (gName i) s δ (δ.set i s) := ⟨fun M μ σ H v E r Q k => k _ (E.put r)⟩
theorem wg_pair {K : PySem.W.Frag} {i j : Nat} {A : Enc α} {B : Enc β} {x : α × β} : WG K (gTup K 2 (gCons (gName i) (gCons (gName j) gNil))) (.val (@instEncProd α β A B) x) δ ((δ.set i (.val A x.1)).set j (.val B x.2)) :=
  ⟨fun M μ σ H v E r Q k => by
    obtain ⟨a, v1, v2, rfl, hs, r1, r2⟩ := r
    exact ⟨a, [v1, v2], rfl, hs, rfl, v1, [v2], rfl, v2, [], rfl, rfl, k _ ((E.put (s := .val A x.1) r1).put (s := .val B x.2) r2)⟩⟩
/-- the body of a loop, for any end behind it -/
theorem run_body {D : Ends} {N' : L2.St → Hp → Prop} {M0 M : AS} {μ0 μ' : List Cell} {H0 H : Hp} {σ : L2.St} {δ' : List Slot} {I : PN} (h : DB X body δ' μ' I R N I) (s : Ste M0 μ0 H0 M μ' H) (E : EnvOk X.K M μ' δ' σ H)
    (n : ∀ δ' μ' M' σ' H', N δ' μ' → Ste M0 μ0 H0 M' μ' H' → EnvOk X.K M' μ' δ' σ' H' → D.nx σ' H') (r : ∀ x μ' M' v H', R x μ' → Ste M0 μ0 H0 M' μ' H' → Holds X.K M' μ' H' → Enc.R X.K M' H' v x → D.rt v H')
    (nn : ∀ δ' μ' M' σ' H', I δ' μ' → Ste M0 μ0 H0 M' μ' H' → EnvOk X.K M' μ' δ' σ' H' → N' σ' H') : cSs X body { D with nx := N', ct := N', bk := D.nx } σ H :=
  h M σ H E { D with nx := N', ct := N', bk := D.nx } (fun _ _ _ _ _ p2 s2 E2 => nn _ _ _ _ _ p2 (s.trans s2) E2) (fun _ _ _ _ _ p2 s2 h2 r2 => r _ _ _ _ _ p2 (s.trans s2) h2 r2)
    (fun _ _ _ _ _ p2 s2 E2 => n _ _ _ _ _ p2 (s.trans s2) E2) (fun _ _ _ _ _ p2 s2 E2 => nn _ _ _ _ _ p2 (s.trans s2) E2)
/-- for over a range: n turns from lo; Inv by the turn -/
theorem ws_range {g : TG} {lo : Int} {n : Nat} {D : Ends} {M0 M : AS} {μ0 μ1 : List Cell} {H0 H : Hp} {σ : L2.St} (Inv : Nat → PN) (h0 : Inv 0 δ μ1) (dg : Nat → List Slot → List Slot) (hg : ∀ (i : Nat) δ', WG X.K g (sl (lo + (i : Int))) δ' (dg i δ'))
    (hs : ∀ i δ' μ', i < n → Inv i δ' μ' → DB X body (dg i δ') μ' (Inv (i + 1)) R N (Inv (i + 1))) (hd : ∀ δ' μ', Inv n δ' μ' → N δ' μ')
    (s : Ste M0 μ0 H0 M μ1 H) (E : EnvOk X.K M μ1 δ σ H)
    (nk : ∀ δ' μ' M' σ' H', N δ' μ' → Ste M0 μ0 H0 M' μ' H' → EnvOk X.K M' μ' δ' σ' H' → D.nx σ' H') (rk : ∀ x μ' M' v H', R x μ' → Ste M0 μ0 H0 M' μ' H' → Holds X.K M' μ' H' → Enc.R X.K M' H' v x → D.rt v H') :
    ∃ W : Nat → Nat → L2.St → Hp → Prop, (∃ m, W 0 m σ H) ∧ ∀ i m σ H, W i m σ H →
      ((Itr lo n).stop i H ∧ D.nx σ H) ∨ ((Itr lo n).go i H ∧ ∃ N : L2.St → Hp → Prop, (∀ σ' H', N σ' H' → ∃ m', m' < m ∧ W (i + 1) m' σ' H') ∧ ∀ x H', (Itr lo n).yld i H x H' → g x σ H' fun σ2 H2 => cSs X body { D with nx := N, ct := N, bk := D.nx } σ2 H2) := by
  refine for_range (fun i σ H => ∃ M μ' δ', Inv i δ' μ' ∧ Ste M0 μ0 H0 M μ' H ∧ EnvOk X.K M μ' δ' σ H) ⟨M, μ1, δ, h0, s, E⟩ ?_ ?_
  · rintro i σ H hi ⟨M, μ', δ', hI, s, E⟩
    refine (hg i δ').run M μ' σ H _ E rfl _ fun σ' E' => ?_
    exact run_body (hs i δ' μ' hi hI) s E' nk rk fun _ μ2 M2 _ _ p s2 E2 => ⟨M2, μ2, _, p, s2, E2⟩
  · rintro σ H ⟨M, μ', δ', hI, s, E⟩
    exact nk _ _ _ _ _ (hd _ _ hI) s E
theorem ds_range1 {i : Nat} {x : Str} {px pos' : Pos} (hp : PassesOwn (model X.prog X.w) X.A X.env X.xe) (hc : X.calm = true) (hN : X.N.Nodup) (hm : X.mg "range" = none)
    (h : DE X a δ μ fun (n : Int) μ1 => n < 2 ^ 62 ∧ -(2 ^ 62) ≤ n ∧ ∃ Inv : Nat → PN, Inv 0 δ μ1 ∧ (∀ (k : Nat) δ' μ', (k : Int) < n → Inv k δ' μ' → DB X body (δ'.set i (sl (k : Int))) μ' (Inv (k + 1)) R N (Inv (k + 1))) ∧ (∀ δ' μ', Inv n.toNat δ' μ' → N δ' μ'))
    (hi : X.N[i]? = some x := by rfl) (hx : Loc X.env.scope x := by first | exact Or.inl rfl | exact Or.inr rfl) (hf : X.fn x = true ∨ X.env.scope.names.lookup x = some .local := by first | exact .inl rfl | exact .inr rfl)
    (hg : Gl X "range" := by rfl) (hs : starEach [a] X.env = [(false, eval a X.env)] := by rfl) (hs2 : starEach [a] X.env = (false, eval a X.env) :: starEach [] X.env := by rfl)
    (hs3 : ∀ x, foldedSetIterable (.Call (.Name "range" p) [a] [] pos') X.env x = pure x := by intro _; rfl) :
    DS X (.For (.Name x px) (.Call (.Name "range" p) [a] [] pos') body [] pos) δ μ N R B C :=
  of_ps (ps_for hp hc (pi_range1 hg hm (pa_cons (cE_pe a) pa_nil hs2) hs) (pg_name (i := i) hN hi hx hf) (cSs_pss body) hs3) fun M σ H E D nk rk bk ck => h M σ H E _ fun n μ1 M1 v H1 p1 s1 h1 r1 => by
    obtain ⟨n1, n2, Inv, i0, ih, ie⟩ := p1
    cases r1
    refine ⟨n, rfl, n2, n1, ?_⟩
    refine ws_range (M0 := M) (μ0 := μ) (H0 := H) Inv i0 (fun (k : Nat) δ' => δ'.set i (sl (k : Int))) (fun k δ' => ?_) (fun k δ' μ' hk hI => ih k δ' μ' (by omega) hI) ie s1 (E.step s1 h1) nk rk
    rw [show (0 : Int) + (k : Int) = (k : Int) by omega]
    exact wg_name
theorem ds_range2 {i : Nat} {x : Str} {px pos' : Pos} (hp : PassesOwn (model X.prog X.w) X.A X.env X.xe) (hc : X.calm = true) (hN : X.N.Nodup) (hm : X.mg "range" = none)
    (h : DE X a δ μ fun (lo : Int) μ0 => DE X b δ μ0 fun (n : Int) μ1 => (n < 2 ^ 62 ∧ -(2 ^ 62) ≤ n ∧ lo < 2 ^ 62 ∧ -(2 ^ 62) ≤ lo) ∧ ∃ Inv : Nat → PN, Inv 0 δ μ1 ∧ (∀ (k : Nat) δ' μ', lo + (k : Int) < n → Inv k δ' μ' → DB X body (δ'.set i (sl (lo + (k : Int)))) μ' (Inv (k + 1)) R N (Inv (k + 1))) ∧ (∀ δ' μ', Inv (n - lo).toNat δ' μ' → N δ' μ'))
    (hi : X.N[i]? = some x := by rfl) (hx : Loc X.env.scope x := by first | exact Or.inl rfl | exact Or.inr rfl) (hf : X.fn x = true ∨ X.env.scope.names.lookup x = some .local := by first | exact .inl rfl | exact .inr rfl)
    (hg : Gl X "range" := by rfl) (hs : starEach [a, b] X.env = [(false, eval a X.env), (false, eval b X.env)] := by rfl) (hs2 : starEach [a, b] X.env = (false, eval a X.env) :: starEach [b] X.env := by rfl)
    (hs4 : starEach [b] X.env = [(false, eval b X.env)] := by rfl) (hs5 : starEach [b] X.env = (false, eval b X.env) :: starEach [] X.env := by rfl)
    (hs3 : ∀ x, foldedSetIterable (.Call (.Name "range" p) [a, b] [] pos') X.env x = pure x := by intro _; rfl) :
    DS X (.For (.Name x px) (.Call (.Name "range" p) [a, b] [] pos') body [] pos) δ μ N R B C :=
  of_ps (ps_for hp hc (pi_range2 hg hm (pa_cons (cE_pe a) (pa_cons (cE_pe b) pa_nil hs5) hs2) hs hs4) (pg_name (i := i) hN hi hx hf) (cSs_pss body) hs3) fun M σ H E D nk rk bk ck => h M σ H E _ fun lo μ0 M0 v0 H0 p0 s0 h0 r0 => p0 M0 σ H0 (E.step s0 h0) _ fun n μ1 M1 v H1 p1 s1 h1 r1 => by
    obtain ⟨⟨n1, n2, n3, n4⟩, Inv, i0, ih, ie⟩ := p1
    cases r1; cases r0
    refine ⟨lo, n, rfl, ⟨n4, n3, n2, n1⟩, ?_⟩
    exact ws_range (M0 := M) (μ0 := μ) (H0 := H) Inv i0 (fun (k : Nat) δ' => δ'.set i (sl (lo + (k : Int)))) (fun k δ' => wg_name) (fun k δ' μ' hk hI => ih k δ' μ' (by omega) hI) ie (s0.trans s1) (E.step (s0.trans s1) h1) nk rk
/-- for over a list that stays -/
theorem ds_forL {A : Enc α} {g : TG} (hp : PassesOwn (model X.prog X.w) X.A X.env X.xe) (hc : X.calm = true) (hgt : PG X tg g) (dg : α → List Slot → List Slot) (hg : ∀ x δ', WG X.K g (.val A x) δ' (dg x δ'))
    (h : DE X e δ μ fun (xs : List α) μ1 => ∃ Inv : Nat → PN, Inv 0 δ μ1 ∧ (∀ k x δ' μ', xs[k]? = some x → Inv k δ' μ' → DB X body (dg x δ') μ' (Inv (k + 1)) R N (Inv (k + 1))) ∧ (∀ δ' μ', Inv xs.length δ' μ' → N δ' μ'))
    (hs3 : ∀ x, foldedSetIterable e X.env x = pure x := by intro _; rfl) :
    DS X (.For tg e body [] pos) δ μ N R B C :=
  of_ps (ps_for hp hc (pi_list (cE_pe e)) hgt (cSs_pss body) hs3) fun M σ H E D nk rk bk ck => h M σ H E _ fun xs μ1 M1 v H1 p1 s1 h1 r1 => by
    obtain ⟨Inv, i0, ih, ie⟩ := p1
    have r0 := r1
    obtain ⟨ad, vs, rfl, nm, rd, r⟩ := r1
    refine ⟨ad, rfl, ⟨vs, .inl rd⟩, ?_⟩
    refine for_list (xs := vs) (fun i σ' H' => ∃ M' μ' δ', Inv i δ' μ' ∧ Ste M1 μ1 H1 M' μ' H' ∧ EnvOk X.K M' μ' δ' σ' H') ⟨M1, μ1, δ, i0, Ste.refl, E.step s1 h1⟩ ?_ ?_ ?_
    · rintro i σ' H' hi ⟨M', μ', δ', hI, s, E'⟩
      rcases rd with rd | ⟨o, rd⟩
      · exact .inl (.inl (s.keep _ _ rd (.inl fun z => nm (h1.inM _ z))))
      · exact .inl (.inr ⟨o, s.keep _ _ rd (.inr trivial)⟩)
    · rintro i y σ' H' hi ⟨M', μ', δ', hI, s, E'⟩
      have hl := r.length
      have hi' : i < xs.length := by rw [← hl]; exact (List.getElem?_eq_some_iff.mp hi).1
      obtain ⟨y', e1, ry⟩ := paired_get r (List.getElem?_eq_getElem hi')
      rw [hi] at e1; cases e1
      refine (hg xs[i] δ').run M' μ' σ' H' y E' (Dl.tr (A := A) s h1 ry) _ fun σ2 E2 => ?_
      exact run_body (M0 := M1) (μ0 := μ1) (H0 := H1) (ih i _ δ' μ' (List.getElem?_eq_getElem hi') hI) s E2 (fun δ' μ' M' σ' H' p s E => nk δ' μ' M' σ' H' p (s1.trans s) E) (fun x μ' M' v H' p s h r => rk x μ' M' v H' p (s1.trans s) h r) fun _ μ2 M2 _ _ p s2 E2 => ⟨M2, μ2, _, p, s2, E2⟩
    · rintro σ' H' ⟨M', μ', δ', hI, s, E'⟩
      rw [r.length] at hI
      exact nk _ _ _ _ _ (ie _ _ hI) (s1.trans s) E'
theorem ds_forT {A : Enc α} {g : TG} (hp : PassesOwn (model X.prog X.w) X.A X.env X.xe) (hc : X.calm = true) (hgt : PG X tg g) (dg : α → List Slot → List Slot) (hg : ∀ x δ', WG X.K g (.val A x) δ' (dg x δ'))
    (h : DE X e δ μ fun (xs : Tup α) μ1 => ∃ Inv : Nat → PN, Inv 0 δ μ1 ∧ (∀ k x δ' μ', xs.l[k]? = some x → Inv k δ' μ' → DB X body (dg x δ') μ' (Inv (k + 1)) R N (Inv (k + 1))) ∧ (∀ δ' μ', Inv xs.l.length δ' μ' → N δ' μ'))
    (hs3 : ∀ x, foldedSetIterable e X.env x = pure x := by intro _; rfl) :
    DS X (.For tg e body [] pos) δ μ N R B C :=
  of_ps (ps_for hp hc (pi_tup (cE_pe e)) hgt (cSs_pss body) hs3) fun M σ H E D nk rk bk ck => h M σ H E _ fun xs μ1 M1 v H1 p1 s1 h1 r1 => by
    obtain ⟨Inv, i0, ih, ie⟩ := p1
    obtain ⟨ad, vs, rfl, rd, r⟩ := r1
    refine ⟨ad, rfl, ⟨vs, rd⟩, ?_⟩
    refine for_tup (xs := vs) (fun i σ' H' => ∃ M' μ' δ', Inv i δ' μ' ∧ Ste M1 μ1 H1 M' μ' H' ∧ EnvOk X.K M' μ' δ' σ' H') ⟨M1, μ1, δ, i0, Ste.refl, E.step s1 h1⟩ ?_ ?_ ?_
    · rintro i σ' H' hi ⟨M', μ', δ', hI, s, E'⟩
      exact sqT_keep s.keep rd
    · rintro i y σ' H' hi ⟨M', μ', δ', hI, s, E'⟩
      have hl := r.length
      have hi' : i < xs.l.length := by rw [← hl]; exact (List.getElem?_eq_some_iff.mp hi).1
      obtain ⟨y', e1, ry⟩ := paired_get r (List.getElem?_eq_getElem hi')
      rw [hi] at e1; cases e1
      refine (hg xs.l[i] δ').run M' μ' σ' H' y E' (Dl.tr (A := A) s h1 ry) _ fun σ2 E2 => ?_
      exact run_body (M0 := M1) (μ0 := μ1) (H0 := H1) (ih i _ δ' μ' (List.getElem?_eq_getElem hi') hI) s E2 (fun δ' μ' M' σ' H' p s E => nk δ' μ' M' σ' H' p (s1.trans s) E) (fun x μ' M' v H' p s h r => rk x μ' M' v H' p (s1.trans s) h r) fun _ μ2 M2 _ _ p s2 E2 => ⟨M2, μ2, _, p, s2, E2⟩
    · rintro σ' H' ⟨M', μ', δ', hI, s, E'⟩
      rw [r.length] at hI
      exact nk _ _ _ _ _ (ie _ _ hI) (s1.trans s) E'
/-- while, by an invariant over a measure -/
theorem ds_while {c : Expr} (hp : PassesOwn (model X.prog X.w) X.A X.env X.xe) (Inv : Nat → PN) (n : Nat) (h0 : Inv n δ μ)
    (hs : ∀ k δ' μ', Inv k δ' μ' → DT X c δ' μ' fun x μ1 => (x = true → ∃ J : PN, (∀ δ' μ', J δ' μ' → ∃ j, j < k ∧ Inv j δ' μ') ∧ DB X body δ' μ1 J R N J) ∧ (x = false → N δ' μ1)) : DS X (.While c body [] pos) δ μ N R B C :=
  of_ps (ps_while hp (cV_pt c) (cSs_pss body)) fun M σ H E D nk rk bk ck => by
    refine ⟨fun m σ' H' => ∃ M' μ' δ', Inv m δ' μ' ∧ Ste M μ H M' μ' H' ∧ EnvOk X.K M' μ' δ' σ' H', ⟨n, M, μ, δ, h0, Ste.refl, E⟩, ?_⟩
    rintro m σ' H' ⟨M', μ', δ', hI, s, E'⟩
    refine hs m δ' μ' hI M' σ' H' E' _ fun x μ1 M1 H1 p1 s1 h1 => ?_
    cases x with
    | true =>
      obtain ⟨J, hJ, hb⟩ := p1.1 rfl
      refine iteT ⟨fun σ' H' => ∃ M' μ' δ', J δ' μ' ∧ Ste M μ H M' μ' H' ∧ EnvOk X.K M' μ' δ' σ' H', ?_, ?_⟩
      · rintro σ2 H2 ⟨M2, μ2, δ2, j, s2, E2⟩
        obtain ⟨k, hk, hI2⟩ := hJ _ _ j
        exact ⟨k, hk, M2, μ2, δ2, hI2, s2, E2⟩
      · exact run_body (M0 := M) (μ0 := μ) (H0 := H) hb (s.trans s1) (E'.step s1 h1) nk rk fun δ2 μ2 M2 _ _ p s2 E2 => ⟨M2, μ2, δ2, p, s2, E2⟩
    | false => exact iteF (nk _ _ _ _ _ (p1.2 rfl) (s.trans s1) (E'.step s1 h1))
end
/-! ### defs -/
/-- a promise: of the arguments, the cells -/
abbrev Pm (ρ : Type) := List Slot → List Cell → (ρ → List Cell → Prop) → Prop
def spO {ρ : Type} [Enc ρ] (K : PySem.W.Frag) (Φ : Pm ρ) : Sp := fun vs H Q _ => ∃ (M : AS) (μ : List Cell) (as : List Slot) (P : ρ → List Cell → Prop), Holds K M μ H ∧ SlVs K M H vs as ∧ Φ as μ P ∧
  ∀ x μ' M' v H', P x μ' → Ste M μ H M' μ' H' → Holds K M' μ' H' → Enc.R K M' H' v x → Q v H'
section
variable {P : Program} {w : World} {K : PySem.W.Frag} {mg : Str → Option Value} {base : Heap} {ρ : Type} [Enc ρ]
abbrev cx (P : Program) (w : World) (K : PySem.W.Frag) (mg : Str → Option Value) (base : Heap) (N : List Str) (qual : Str) (st : Stmt) (f : Addr) (cdv : Value) (A : Around) (outer : List Env) (s : Shared) (H : Hp) (E : XK) : Cx := (cxOf CX0 P w K mg base N qual (defScope st) f cdv A outer s H E).nox
theorem start_ok {M : AS} {μ : List Cell} {H : Hp} {N : List Str} {vs : List V} {as : List Slot} (h : Holds K M μ H) (r : SlVs K M H vs as) : EnvOk K M μ (as ++ List.replicate (N.length - as.length) .any) (L2.start N vs) H := by
  have hl := r.length
  refine ⟨h, by unfold L2.start; simp only [List.length_append, List.length_map, List.length_replicate]; omega, fun i s v e1 e2 => ?_⟩
  unfold L2.start at e2
  by_cases hi : i < vs.length
  · rw [List.getElem?_append_left (by simpa using hi), List.getElem?_map] at e2
    rw [List.getElem?_append_left (by rw [← hl]; exact hi)] at e1
    rw [List.getElem?_eq_getElem hi] at e2
    cases e2
    have := r.at (List.getElem?_eq_getElem hi) e1
    cases s with
    | any => trivial
    | val e x => exact ⟨_, rfl, this⟩
  · rw [List.getElem?_append_right (by rw [← hl]; omega)] at e1
    rw [List.getElem?_replicate] at e1
    split at e1
    · cases e1; trivial
    · cases e1
theorem fn_ok {x qual : Str} {st : Stmt} {f : Addr} {fd : FuncData} {N ps : List Str} {k : Nat} {Φ : Pm ρ} (F : Fun K x qual st f fd) (S : FnScope N ps (defScope st)) (len : ∀ as μ P, Φ as μ P → as.length = ps.length)
    (hN : N.length = N.length := rfl)
    (h : ∀ (cdv : Value) (A : Around) (outer : List Env) (s : Shared) (H : Hp) (E : XK), Room k (A.deeper (envOfC qual (defScope st) s.heap.objs.size f cdv)) → ∀ as μ Pd, Φ as μ Pd →
      DB (cx P w K mg base N qual st f cdv A outer s H E) (defBody st) (as ++ List.replicate (N.length - as.length) .any) μ (fun _ μ' => ∃ x : ρ, (∀ K M H, Enc.R K M H .non x) ∧ Pd x μ') Pd (fun _ _ => False) (fun _ _ => False)) :
    FnOk P w K mg base CX0 (k + 1) f fd ps (spO K Φ) := by
  refine F.ok S (fun vs H Q E h => ?_) (fun cdv A outer s H vs Q E hr hsp => ?_)
  · obtain ⟨M, μ, as, Pd, _, r, hp, _⟩ := h
    rw [r.length]; exact len _ _ _ hp
  · obtain ⟨M, μ, as, Pd, hh, r, hp, q⟩ := hsp
    refine ⟨_, cSs_pss _, h cdv A outer s H E hr as μ Pd hp M _ H (start_ok hh r) _ (fun δ' μ' M' σ' H' n s' E' => ?_) q (fun _ _ _ _ _ z => z.elim) (fun _ _ _ _ _ z => z.elim)⟩
    obtain ⟨x, hx, p⟩ := n
    exact q x μ' M' .non H' p s' E'.h (hx _ _ _)
end
section
variable {X : Cx} {ρ : Type} [Enc ρ] {e : Expr} {es : List Expr} {δ : List Slot} {μ : List Cell} {P : ρ → List Cell → Prop} {k : Nat} {f : Addr} {fd : FuncData} {ps : List Str} {Φ : Pm ρ} {x : Str} {p pos : Pos}
/-- the cells in two parts -/
structure Parts (μ μc μr : List Cell) : Prop where
  perm : μ.Perm (μc ++ μr)
theorem parts_none : Parts μ [] μ := ⟨List.Perm.refl _⟩
theorem parts_all : Parts μ μ [] := ⟨by rw [List.append_nil]⟩
theorem parts_hd {c : Cell} {r : List Cell} : Parts (c :: r) [c] r := ⟨List.Perm.refl _⟩
theorem foots_perm {μ ν : List Cell} (h : μ.Perm ν) (a : Addr) : foots μ a ↔ foots ν a := ⟨fun ⟨c, hc, ha⟩ => ⟨c, h.mem_iff.mp hc, ha⟩, fun ⟨c, hc, ha⟩ => ⟨c, h.mem_iff.mpr hc, ha⟩⟩
theorem foots_app {μ ν : List Cell} {a : Addr} : foots (μ ++ ν) a ↔ foots μ a ∨ foots ν a := by
  constructor
  · rintro ⟨c, hc, ha⟩
    rcases List.mem_append.mp hc with h | h
    · exact .inl ⟨c, h, ha⟩
    · exact .inr ⟨c, h, ha⟩
  · rintro (⟨c, hc, ha⟩ | ⟨c, hc, ha⟩)
    · exact ⟨c, List.mem_append_left _ hc, ha⟩
    · exact ⟨c, List.mem_append_right _ hc, ha⟩
theorem Holds.part {K : PySem.W.Frag} {M : AS} {H : Hp} {μc μr : List Cell} (h : Holds K M μ H) (s : Parts μ μc μr) : Holds K M μc H where
  cell := fun c hc => h.cell c (s.perm.mem_iff.mpr (List.mem_append_left _ hc))
  inM := fun a z => h.inM a ((foots_perm s.perm a).mpr (foots_app.mpr (.inl z)))
  al := h.al
  dj := by
    have : (μc ++ μr).Pairwise fun c d => ∀ a, a ∈ c.foot → a ∉ d.foot := h.dj.perm s.perm (fun {c d} q a h1 h2 => q a h2 h1)
    exact (List.pairwise_append.mp this).1
/-- a call that uses a part of the cells -/
theorem frame {K : PySem.W.Frag} {M M' : AS} {H H' : Hp} {μc μr μ' : List Cell} (h : Holds K M μ H) (sp : Parts μ μc μr) (s : Ste M μc H M' μ' H') (h' : Holds K M' μ' H') : Ste M μ H M' (μ' ++ μr) H' ∧ Holds K M' (μ' ++ μr) H' := by
  have dj : (μc ++ μr).Pairwise fun c d => ∀ a, a ∈ c.foot → a ∉ d.foot := h.dj.perm sp.perm (fun {c d} q a h1 h2 => q a h2 h1)
  have dj2 := List.pairwise_append.mp dj
  have apart : ∀ a, foots μr a → ¬ foots μc a := fun a ⟨c, hc, ha⟩ ⟨d, hd, hb⟩ => dj2.2.2 d hd c hc a hb ha
  have inm : ∀ a, foots μr a → M a := fun a z => h.inM a ((foots_perm sp.perm a).mpr (foots_app.mpr (.inr z)))
  have inc : ∀ a, foots μc a → foots μ a := fun a z => (foots_perm sp.perm a).mpr (foots_app.mpr (.inl z))
  refine ⟨⟨fun a o e c => s.keep a o e (c.imp (fun n z => n (inc a z)) id), s.al, s.new, fun a z => ?_, fun a z n f => s.up a z n fun q => f (inc a q)⟩, ⟨fun c hc => ?_, fun a z => ?_, h'.al, ?_⟩⟩
  · rcases foots_app.mp z with z | z
    · exact (s.foo a z).imp (inc a) id
    · exact .inl ((foots_perm sp.perm a).mpr (foots_app.mpr (.inr z)))
  · rcases List.mem_append.mp hc with hc | hc
    · exact h'.cell c hc
    · have q := h.cell c (sp.perm.mem_iff.mpr (List.mem_append_right _ hc))
      have q1 : c.holds K (fun a => M a ∨ M' a) H := c.set (fun a z => z.elim .inl (s.new a)) q
      have q2 : c.holds K (fun a => M a ∨ M' a) H' := c.mono (fun a o e cc => s.keep a o e (by
        rcases cc with cc | cc | cc
        · exact .inl (apart a ⟨c, hc, cc⟩)
        · exact .inl fun z => cc (.inl (h.inM a (inc a z)))
        · exact .inr cc)) q1
      exact c.set (fun a z => .inl (.inr z)) q2
  · rcases foots_app.mp z with z | z
    · exact h'.inM a z
    · exact s.up a (inm a z) (h.al a (inm a z)) (apart a z)
  · refine List.pairwise_append.mpr ⟨h'.dj, dj2.2.1, fun c hc d hd a ha hb => ?_⟩
    rcases s.foo a ⟨c, hc, ha⟩ with z | z
    · exact apart a ⟨d, hd, hb⟩ z
    · exact h.al a (inm a ⟨d, hd, hb⟩) z
theorem de_call (F : FnOk X.prog X.w X.K X.mg X.base CX0 k f fd ps (spO X.K Φ)) (hr : Room k X.A) (hm : X.mg x = some (.ref f)) (hk : PySem.W.keepIn X.K (.ref f) = true) (hb : Binds X.K fd ps [])
    (h : DA X (e :: es) δ μ fun as μ1 => ∃ μc μr, Parts μ1 μc μr ∧ Φ as μc fun y μ' => P y (μ' ++ μr)) (hg : Gl X x := by rfl) (hdb : (x == ("__debug__" : Str)) = false := by decide)
    (he : starEach (e :: es) X.env = (false, eval e X.env) :: starEach es X.env := by rfl) (hpl : (backTo pos (starEach es X.env)).any (·.1) = false := by rfl) : DE X (.Call (.Name x p) (e :: es) [] pos) δ μ P :=
  of_pe (pe_call F hr hg hm hk hb .nil pass0 (cA_pa _) hdb he hpl) fun M σ H E Q q => h M σ H E _ fun as μ1 M1 vs H1 p1 s1 h1 r1 => by
    obtain ⟨μc, μr, sp, ph⟩ := p1
    refine ⟨M1, μc, as, _, h1.part sp, by rw [List.append_nil]; exact r1, ph, fun y μ' M' v H' py s2 h2 r2 => ?_⟩
    obtain ⟨s3, h3⟩ := frame h1 sp s2 h2
    exact q y _ M' v H' py (s1.trans s3) h3 r2
/-- with a default for the last argument -/
theorem de_callD (F : FnOk X.prog X.w X.K X.mg X.base CX0 k f fd ps (spO X.K Φ)) (hr : Room k X.A) (hm : X.mg x = some (.ref f)) (hk : PySem.W.keepIn X.K (.ref f) = true) {dvs : List V} {ds : List Value} (hb : Binds X.K fd ps ds) (hd : Vals dvs ds) (das : List Slot) (hda : ∀ M H, SlVs X.K M H dvs das)
    (h : DA X (e :: es) δ μ fun as μ1 => ∃ μc μr, Parts μ1 μc μr ∧ Φ (as ++ das) μc fun y μ' => P y (μ' ++ μr)) (hg : Gl X x := by rfl) (hdb : (x == ("__debug__" : Str)) = false := by decide)
    (he : starEach (e :: es) X.env = (false, eval e X.env) :: starEach es X.env := by rfl) (hpl : (backTo pos (starEach es X.env)).any (·.1) = false := by rfl) : DE X (.Call (.Name x p) (e :: es) [] pos) δ μ P :=
  of_pe (pe_call F hr hg hm hk hb hd pass0 (cA_pa _) hdb he hpl) fun M σ H E Q q => h M σ H E _ fun as μ1 M1 vs H1 p1 s1 h1 r1 => by
    obtain ⟨μc, μr, sp, ph⟩ := p1
    refine ⟨M1, μc, as ++ das, _, h1.part sp, ?_, ph, fun y μ' M' v H' py s2 h2 r2 => ?_⟩
    · have : ∀ {vs : List V} {as : List Slot}, SlVs X.K M1 H1 vs as → SlVs X.K M1 H1 (vs ++ dvs) (as ++ das) := by
        intro vs as r
        induction r with
        | nil => exact hda M1 H1
        | cons r t ih => exact .cons r ih
      exact this r1
    · obtain ⟨s3, h3⟩ := frame h1 sp s2 h2
      exact q y _ M' v H' py (s1.trans s3) h3 r2
/-! ### built-in functions -/
theorem we_cb {α : Type} [Enc α] {r : List V → Hp → VK → Prop} {tA : TA} {P1 : List Slot → List Cell → Prop} {P : α → List Cell → Prop} (ha : WA X.K tA δ μ P1)
    (hr : ∀ as μ1, P1 as μ1 → ∀ (M : AS) (H : Hp) (vs : List V), Holds X.K M μ1 H → SlVs X.K M H vs as → ∀ Q : VK, (∀ z μ' M' u H', P z μ' → Ste M μ1 H M' μ' H' → Holds X.K M' μ' H' → Enc.R X.K M' H' u z → Q u H') → r vs H Q) :
    WE X.K (tCB r tA) δ μ P := fun M σ H E Q k =>
  ha M σ H E _ fun as μ1 M1 vs H1 p1 s1 h1 r1 => hr as μ1 p1 M1 H1 vs h1 r1 Q fun z μ' M' u H' p s3 h3 r3 => k z μ' M' u H' p (s1.trans s3) h3 r3
/-- a built-in function of pure values -/
theorem de_cb {α : Type} [Enc α] {id : String} {r : List V → Hp → VK → Prop} {P : α → List Cell → Prop} (hc : CallR X (.builtin id) r) (hm : X.mg x = none) (hv : bootBuiltins x = some (.builtin id))
    (h : DA X (e :: es) δ μ fun as μ1 => ∃ z : α, P z μ1 ∧ ∀ (M : AS) (H : Hp) (vs : List V), SlVs X.K M H vs as → ∀ Q : VK, (∀ u, Enc.R X.K M H u z → Q u H) → r vs H Q) (hg : Gl X x := by rfl) (hn : x ≠ "__name__" := by decide) (hdb : (x == ("__debug__" : Str)) = false := by decide)
    (he : starEach (e :: es) X.env = (false, eval e X.env) :: starEach es X.env := by rfl) (hpl : (backTo pos (starEach es X.env)).any (·.1) = false := by rfl) : DE X (.Call (.Name x p) (e :: es) [] pos) δ μ P :=
  of_pe (pe_callB hc hg hm hv (cA_pa _) hn hdb he hpl) (we_cb h fun as μ1 p1 M H vs hh r1 Q k => by
    obtain ⟨z, p, hz⟩ := p1
    exact hz M H vs r1 Q fun u ru => k z μ1 M u H p Ste.refl hh ru)
theorem de_ct {α : Type} [Enc α] {T : String} {r : List V → Hp → VK → Prop} {P : α → List Cell → Prop} (hc : CallR X (.type T) r) (hm : X.mg x = none) (hv : bootBuiltins x = some (.type T))
    (h : DA X (e :: es) δ μ fun as μ1 => ∃ z : α, P z μ1 ∧ ∀ (M : AS) (H : Hp) (vs : List V), SlVs X.K M H vs as → ∀ Q : VK, (∀ u, Enc.R X.K M H u z → Q u H) → r vs H Q) (hg : Gl X x := by rfl) (hn : x ≠ "__name__" := by decide) (hdb : (x == ("__debug__" : Str)) = false := by decide)
    (he : starEach (e :: es) X.env = (false, eval e X.env) :: starEach es X.env := by rfl) (hpl : (backTo pos (starEach es X.env)).any (·.1) = false := by rfl) : DE X (.Call (.Name x p) (e :: es) [] pos) δ μ P :=
  of_pe (pe_callTy hc hg hm hv (cA_pa _) hn hdb he hpl) (we_cb h fun as μ1 p1 M H vs hh r1 Q k => by
    obtain ⟨z, p, hz⟩ := p1
    exact hz M H vs r1 Q fun u ru => k z μ1 M u H p Ste.refl hh ru)
theorem de_cbf {α : Type} [Enc α] {id : String} {r : List V → Hp → VK → Prop} {P : α → List Cell → Prop} (hc : CallR X (.builtin id) r) (hm : X.mg x = some (.builtin id))
    (h : DA X (e :: es) δ μ fun as μ1 => ∃ z : α, P z μ1 ∧ ∀ (M : AS) (H : Hp) (vs : List V), SlVs X.K M H vs as → ∀ Q : VK, (∀ u, Enc.R X.K M H u z → Q u H) → r vs H Q) (hg : Gl X x := by rfl) (hdb : (x == ("__debug__" : Str)) = false := by decide)
    (he : starEach (e :: es) X.env = (false, eval e X.env) :: starEach es X.env := by rfl) (hpl : (backTo pos (starEach es X.env)).any (·.1) = false := by rfl) : DE X (.Call (.Name x p) (e :: es) [] pos) δ μ P :=
  of_pe (pe_callBfun hc hg hm (cA_pa _) hdb he hpl) (we_cb h fun as μ1 p1 M H vs hh r1 Q k => by
    obtain ⟨z, p, hz⟩ := p1
    exact hz M H vs r1 Q fun u ru => k z μ1 M u H p Ste.refl hh ru)
end
section
variable {X : Cx} {a b : Expr} {δ : List Slot} {μ : List Cell} {P : Int → List Cell → Prop} {x : Str} {p pos : Pos}
theorem de_gcd (hm : X.mg x = some (.builtin "math.gcd")) (h : DE X a δ μ fun (i : Int) μ1 => DE X b δ μ1 fun (j : Int) μ2 => P ((Nat.gcd i.natAbs j.natAbs : Nat) : Int) μ2) (hg : Gl X x := by rfl) (hdb : (x == ("__debug__" : Str)) = false := by decide)
    (he : starEach [a, b] X.env = (false, eval a X.env) :: starEach [b] X.env := by rfl) (he2 : starEach [b] X.env = (false, eval b X.env) :: starEach [] X.env := by rfl) (hpl : (backTo pos (starEach [b] X.env)).any (·.1) = false := by rfl) : DE X (.Call (.Name x p) [a, b] [] pos) δ μ P :=
  de_cbf cr_gcd hm (da_cons (h.mono fun i μ1 h => da_cons (h.mono fun j μ2 q => da_nil ⟨_, q, fun M H vs r Q k => by
    cases r with
    | cons r1 r =>
      cases r with
      | cons r2 r =>
        cases r
        cases r1; cases r2
        exact ⟨i, j, rfl, k _ rfl⟩⟩) he2) he) hg hdb he hpl
theorem de_abs (hm : X.mg "abs" = none) (h : DE X a δ μ fun (i : Int) μ1 => P ((i.natAbs : Nat) : Int) μ1) (hg : Gl X "abs" := by rfl)
    (he : starEach [a] X.env = (false, eval a X.env) :: starEach [] X.env := by rfl) (hpl : (backTo pos (starEach [] X.env)).any (·.1) = false := by rfl) : DE X (.Call (.Name "abs" p) [a] [] pos) δ μ P :=
  de_cb call_abs hm (by decide +kernel) (da_cons (h.mono fun i μ1 q => da_nil ⟨_, q, fun M H vs r Q k => by
    cases r with
    | cons r1 r =>
      cases r
      cases r1
      refine ⟨i, rfl, k _ ?_⟩
      show V.int _ = V.int _
      congr 1
      split <;> omega⟩) he) hg (by decide) (by decide) he hpl
theorem de_intI (hm : X.mg "int" = none) (h : DE X a δ μ P) (hg : Gl X "int" := by rfl)
    (he : starEach [a] X.env = (false, eval a X.env) :: starEach [] X.env := by rfl) (hpl : (backTo pos (starEach [] X.env)).any (·.1) = false := by rfl) : DE X (.Call (.Name "int" p) [a] [] pos) δ μ P :=
  de_ct call_int1 hm (by decide +kernel) (da_cons (h.mono fun i μ1 q => da_nil ⟨_, q, fun M H vs r Q k => by
    cases r with
    | cons r1 r =>
      cases r
      cases r1
      exact .inl ⟨i, rfl, k _ rfl⟩⟩) he) hg (by decide) (by decide) he hpl
theorem de_intB (hm : X.mg "int" = none) (h : DE X a δ μ fun (i : Bool) μ1 => P (if i then 1 else 0) μ1) (hg : Gl X "int" := by rfl)
    (he : starEach [a] X.env = (false, eval a X.env) :: starEach [] X.env := by rfl) (hpl : (backTo pos (starEach [] X.env)).any (·.1) = false := by rfl) : DE X (.Call (.Name "int" p) [a] [] pos) δ μ P :=
  de_ct call_int1 hm (by decide +kernel) (da_cons (h.mono fun i μ1 q => da_nil ⟨_, q, fun M H vs r Q k => by
    cases r with
    | cons r1 r =>
      cases r
      cases r1
      exact .inr ⟨i, rfl, k _ rfl⟩⟩) he) hg (by decide) (by decide) he hpl
end
end Dl
namespace Dl
open PySem PySem.Spec PyProof.Rows L2
/-! ### lists that change -/
/-- the list at a, as it stands now -/
def LstC (a : Addr) {α : Type} (A : Enc α) (xs : List α) : Cell where
  foot := [a]
  holds := fun K M H => ∃ vs, H a = some (.lst vs) ∧ Paired (A.R K M H) vs xs
  mono := fun k h => by
    obtain ⟨vs, e, r⟩ := h
    exact ⟨vs, k _ _ e (.inl (by simp)), paired_map (fun _ _ => A.mono fun a o e c => k a o e (.inr c)) r⟩
  set := fun k h => by
    obtain ⟨vs, e, r⟩ := h
    exact ⟨vs, e, paired_map (fun _ _ => A.set k) r⟩
abbrev lst (a : Addr) {α : Type} [A : Enc α] (xs : List α) : Cell := LstC a A xs
section
variable {K : PySem.W.Frag} {M M' : AS} {μ μ' : List Cell} {H H' : Hp} {a : Addr} {α : Type} [A : Enc α] {xs : List α} {vs : List V}
theorem foots_one {c : Cell} {a : Addr} : foots [c] a ↔ a ∈ c.foot := ⟨fun ⟨d, hd, ha⟩ => by rw [List.mem_singleton.mp hd] at ha; exact ha, fun h => ⟨c, List.mem_singleton.mpr rfl, h⟩⟩
theorem foots_snoc {c : Cell} {a : Addr} : foots (μ ++ [c]) a ↔ foots μ a ∨ a ∈ c.foot := by rw [foots_app, foots_one]
/-- a new list is laid as a cell -/
theorem new_cell (h : Holds K M μ H) {p : Addr} (hp : H p = none) (r : Paired (A.R K M H) vs xs) :
    Ste M μ H (fun a => M a ∨ a = p) (μ ++ [lst p xs]) (upd H p (.lst vs)) ∧ Holds K (fun a => M a ∨ a = p) (μ ++ [lst p xs]) (upd H p (.lst vs)) := by
  have s := foot_alloc h hp (.lst vs)
  have hh := h.alloc hp (.lst vs)
  have nm : ¬ M p := fun z => h.al p z hp
  have e1 : ∀ b, (M b ∨ b = p) → M b ∨ H b = none := fun b z => z.imp id fun e => by rw [e]; exact hp
  have k : Keep M H (upd H p (.lst vs)) := fun b o e _ => by rw [upd_ne (ne_of_none e hp)]; exact e
  refine ⟨⟨s.keep, s.al, e1, fun b z => ?_, fun b z _ _ => .inl z⟩, ⟨fun c hc => ?_, fun b z => ?_, fun b z => ?_, ?_⟩⟩
  · rcases foots_snoc.mp z with z | z
    · exact .inl z
    · rw [List.mem_singleton.mp z]; exact .inr hp
  · rcases List.mem_append.mp hc with hc | hc
    · exact (c.mono (M := fun a => M a ∨ a = p) (fun b o e _ => by rw [upd_ne (ne_of_none e hp)]; exact e) (c.set e1 (h.cell c hc)))
    · rw [List.mem_singleton.mp hc]
      exact ⟨vs, upd_same, paired_map (fun _ _ r => A.mono (M := fun a => M a ∨ a = p) (fun b o e _ => by rw [upd_ne (ne_of_none e hp)]; exact e) (A.set e1 r)) r⟩
  · rcases foots_snoc.mp z with z | z
    · exact .inl (h.inM b z)
    · exact .inr (List.mem_singleton.mp z)
  · rcases z with z | z
    · exact s.al b (h.al b z)
    · rw [z, upd_same]; exact fun q => nomatch q
  · refine List.pairwise_append.mpr ⟨h.dj, List.pairwise_singleton _ _, fun c hc d hd b hb hb2 => ?_⟩
    rw [List.mem_singleton.mp hd] at hb2
    rw [List.mem_singleton.mp hb2] at hb
    exact nm (h.inM p ⟨c, hc, hb⟩)
theorem foots_mid {c : Cell} {a : Addr} : foots (μ ++ c :: μ') a ↔ foots μ a ∨ a ∈ c.foot ∨ foots μ' a := by
  rw [show μ ++ c :: μ' = μ ++ ([c] ++ μ') from rfl, foots_app, foots_app, foots_one]
/-- a cell's list is changed -/
theorem put_cell {ys : List α} (h : Holds K M (μ ++ lst a xs :: μ') H) (r : Paired (A.R K M H) vs ys) : Ste M (μ ++ lst a xs :: μ') H M (μ ++ lst a ys :: μ') (upd H a (.lst vs)) ∧ Holds K M (μ ++ lst a ys :: μ') (upd H a (.lst vs)) := by
  obtain ⟨ws, ea, ra⟩ := h.cell (lst a xs) (by simp)
  have fa : foots (μ ++ lst a xs :: μ') a := foots_mid.mpr (.inr (.inl (by show a ∈ [a]; simp)))
  have ha : M a := h.inM a fa
  have k : ∀ b o, H b = some o → (b ≠ a ∨ Fix o) → upd H a (.lst vs) b = some o := fun b o e c => by
    by_cases hb : b = a
    · rcases c with c | c
      · exact absurd hb c
      · rw [hb] at e; rw [ea] at e; cases e; exact c.elim
    · rw [upd_ne hb]; exact e
  have al : ∀ b, H b ≠ none → upd H a (.lst vs) b ≠ none := fun b n => by
    by_cases hb : b = a
    · rw [hb, upd_same]; exact fun z => nomatch z
    · rw [upd_ne hb]; exact n
  have ff : ∀ b, foots (μ ++ lst a ys :: μ') b ↔ foots (μ ++ lst a xs :: μ') b := fun b => by rw [foots_mid, foots_mid]; rfl
  have dj := List.pairwise_append.mp h.dj
  have dj2 := List.pairwise_cons.mp dj.2.1
  have kM : Keep M H (upd H a (.lst vs)) := fun b o e c => k b o e (c.imp (fun n z => n (by rw [z]; exact ha)) id)
  refine ⟨⟨fun b o e c => k b o e (c.imp (fun n z => n (by rw [z]; exact fa)) id), al, fun b z => .inl z, fun b z => .inl ((ff b).mp z), fun b z _ _ => z⟩, ⟨fun c hc => ?_, fun b z => h.inM b ((ff b).mp z), fun b z => al b (h.al b z), ?_⟩⟩
  · have other : ∀ c, c ∈ μ ++ lst a xs :: μ' → a ∉ c.foot → c.holds K M (upd H a (.lst vs)) := fun c hc na => c.mono (fun b o e cc => k b o e (by
      rcases cc with cc | cc | cc
      · exact .inl fun z => na (by rw [← z]; exact cc)
      · exact .inl fun z => cc (by rw [z]; exact ha)
      · exact .inr cc)) (h.cell c hc)
    rcases List.mem_append.mp hc with hc | hc
    · exact other c (List.mem_append_left _ hc) fun z => dj.2.2 c hc (lst a xs) (by simp) a z (by show a ∈ [a]; simp)
    · rcases List.mem_cons.mp hc with hc | hc
      · rw [hc]
        exact ⟨vs, upd_same, paired_map (fun _ _ r => A.mono kM r) r⟩
      · exact other c (List.mem_append_right _ (List.mem_cons_of_mem _ hc)) fun z => dj2.1 c hc a (by show a ∈ [a]; simp) z
  · refine List.pairwise_append.mpr ⟨dj.1, List.pairwise_cons.mpr ⟨dj2.1, dj2.2⟩, fun c hc d hd => ?_⟩
    rcases List.mem_cons.mp hd with hd | hd
    · rw [hd]; exact dj.2.2 c hc (lst a xs) (by simp)
    · exact dj.2.2 c hc d (List.mem_cons_of_mem _ hd)
/-- a cell is read: its list -/
theorem get_cell {c : Cell} (h : Holds K M μ H) (hc : c ∈ μ) : c.holds K M H := h.cell c hc
/-- a list that nobody changes any more -/
theorem freeze (h : Holds K M (μ ++ lst a xs :: μ') H) : Ste M (μ ++ lst a xs :: μ') H (fun b => M b ∧ b ≠ a) (μ ++ μ') H ∧ Holds K (fun b => M b ∧ b ≠ a) (μ ++ μ') H ∧ Enc.R K (fun b => M b ∧ b ≠ a) H (.ref a) xs := by
  obtain ⟨ws, ea, ra⟩ := h.cell (lst a xs) (by simp)
  have dj := List.pairwise_append.mp h.dj
  have dj2 := List.pairwise_cons.mp dj.2.1
  have ff : ∀ b, foots (μ ++ μ') b → foots (μ ++ lst a xs :: μ') b := fun b z => by
    rw [foots_mid]
    exact (foots_app.mp z).imp id .inr
  have na : ¬ foots (μ ++ μ') a := fun z => by
    rcases foots_app.mp z with ⟨c, hc, ha⟩ | ⟨c, hc, ha⟩
    · exact dj.2.2 c hc (lst a xs) (by simp) a ha (by show a ∈ [a]; simp)
    · exact dj2.1 c hc a (by show a ∈ [a]; simp) ha
  have st : ∀ b, (M b ∧ b ≠ a) → M b ∨ H b = none := fun b z => .inl z.1
  refine ⟨⟨Keep.refl, fun _ n => n, st, fun b z => .inl (ff b z), fun b z _ n => ⟨z, fun e => n (foots_mid.mpr (.inr (.inl (by rw [e]; show a ∈ [a]; simp))))⟩⟩, ⟨fun c hc => c.set st (h.cell c ?_), fun b z => ⟨h.inM b (ff b z), fun e => na (by rw [← e]; exact z)⟩, fun b z => h.al b z.1, ?_⟩, ⟨a, ws, rfl, fun z => z.2 rfl, .inl ea, paired_map (fun _ _ r => A.set st r) ra⟩⟩
  · rcases List.mem_append.mp hc with hc | hc
    · exact List.mem_append_left _ hc
    · exact List.mem_append_right _ (List.mem_cons_of_mem _ hc)
  · exact List.pairwise_append.mpr ⟨dj.1, dj2.2, fun c hc d hd => dj.2.2 c hc d (List.mem_cons_of_mem _ hd)⟩
end
theorem split_at {μ : List Cell} {i : Nat} {c : Cell} (h : μ[i]? = some c) : μ = μ.take i ++ c :: μ.drop (i + 1) ∧ (∀ c', μ.set i c' = μ.take i ++ c' :: μ.drop (i + 1)) ∧ μ.eraseIdx i = μ.take i ++ μ.drop (i + 1) := by
  obtain ⟨hi, e⟩ := List.getElem?_eq_some_iff.mp h
  refine ⟨?_, fun c' => ?_, ?_⟩
  · rw [← e, List.getElem_cons_drop, List.take_append_drop]
  · rw [List.set_eq_take_append_cons_drop, if_pos hi]
  · rw [List.eraseIdx_eq_take_drop_succ]
section
variable {X : Cx} {α β γ ρ : Type} [Enc α] [Enc β] [Enc γ] [Enc ρ] {e a b tg : Expr} {es : List Expr} {δ : List Slot} {μ : List Cell} {P : α → List Cell → Prop} {PB : Bool → List Cell → Prop}
  {N B C : PN} {R : ρ → List Cell → Prop} {st : Stmt} {sts s1 s2 body : List Stmt} {pos p : Pos}
/-- a list display that is to change -/
theorem de_lstN {P : Ref → List Cell → Prop} (h : DA X es δ μ fun ss μ1 => ∃ xs : List α, ss = xs.map (fun x => sl x) ∧ xs.length ≤ 1000 ∧ ∀ l, P ⟨l⟩ (μ1 ++ [lst l xs])) : DE X (.List es pos) δ μ P :=
  of_pe (pe_lst (cA_pa es)) fun M σ H E Q q => h M σ H E _ fun ss μ1 M1 vs H1 p1 s1 hh1 r1 => by
    obtain ⟨xs, rfl, hl, p⟩ := p1
    have r := SlVs.ex r1
    refine ⟨by rw [r.length]; exact Nat.le_trans hl (by decide), fun p' hp => ?_⟩
    obtain ⟨s3, h3⟩ := new_cell hh1 hp r
    exact q ⟨p'⟩ _ _ _ _ (p p') (s1.trans s3) h3 rfl
/-- a changing list is left as it is, for good: i is its cell's place -/
theorem de_frz {P : List α → List Cell → Prop} (i : Nat) (h : DE X e δ μ fun (x : Ref) μ1 => ∃ xs : List α, μ1[i]? = some (lst x.a xs) ∧ P xs (μ1.eraseIdx i)) : DE X e δ μ P :=
  fun M σ H E Q q => h M σ H E _ fun x μ1 M1 v H1 p1 s1 hh1 r1 => by
    obtain ⟨xs, hi, p⟩ := p1
    obtain ⟨e1, e2, e3⟩ := split_at hi
    rw [e1] at hh1 s1
    obtain ⟨s2, h2, r2⟩ := freeze hh1
    cases r1
    rw [e3] at p
    exact q xs _ _ _ _ p (s1.trans s2) h2 r2
/-- xs.append(y) -/
theorem de_append {apos : Pos} {P : Unit → List Cell → Prop} (i : Nat)
    (h : DE X a δ μ fun (x : Ref) μ1 => (∃ zs : List α, μ1[i]? = some (lst x.a zs)) ∧ DE X b δ μ1 fun (y : α) μ2 => ∃ xs : List α, μ2[i]? = some (lst x.a xs) ∧ xs.length < 10000 ∧ P () (μ2.set i (lst x.a (xs ++ [y]))))
    (hbase : attributeBase a "append" X.env (eval a X.env) = eval a X.env := by rfl)
    (hfew : ((backTo pos (starEach (b :: []) X.env)).all (fun x => !x.1) && (backToKw pos (keywordEach [] X.env)).all (fun x => x.1.isSome)
      && decide ((b :: []).length + ([] : List Keyword).length + (if ([] : List Keyword).isEmpty then 0 else 1) < 30)) = true := by rfl)
    (hline : (apos.endLine == pos.line) = true := by rfl) (hst : starEach [b] X.env = (false, eval b X.env) :: starEach [] X.env := by rfl) (hplain : (backTo pos (starEach [] X.env)).any (·.1) = false := by rfl) :
    DE X (.Call (.Attribute a "append" apos) [b] [] pos) δ μ P :=
  of_pe (pe_bm PySem.F.plainAttrs_list PySem.F.slot_list_append PySem.F.type_list_append mt_append (cE_pe a) (pa_cons (cE_pe b) pa_nil hst) hbase hfew hline hst hplain) fun M σ H E Q q => h M σ H E _ fun x μ1 M1 v H1 p1 s1 hh1 r1 => by
    obtain ⟨⟨zs, hz⟩, p1⟩ := p1
    cases r1
    obtain ⟨ws, ew, _⟩ := hh1.cell _ (List.mem_of_getElem? hz)
    refine ⟨.inl ⟨rfl, ws, .inl (.inl ew)⟩, ?_⟩
    refine p1 M1 σ H1 (E.step s1 hh1) _ fun y μ2 M2 w H2 p2 s2 hh2 r2 => ?_
    obtain ⟨xs, hx, hl, p⟩ := p2
    obtain ⟨e1, e2, e3⟩ := split_at hx
    obtain ⟨vs, ev, rv⟩ := hh2.cell _ (List.mem_of_getElem? hx)
    have hh2' := hh2
    rw [e1] at hh2'
    have r3 : Paired (Enc.R X.K M2 H2) (vs ++ [w]) (xs ++ [y]) := by
      have : ∀ {vs : List V} {xs : List α}, Paired (Enc.R X.K M2 H2) vs xs → Paired (Enc.R X.K M2 H2) (vs ++ [w]) (xs ++ [y]) := by
        intro vs xs r
        induction r with
        | nil => exact .cons r2 .nil
        | cons r t ih => exact .cons r ih
      exact this rv
    obtain ⟨s3, h3⟩ := put_cell hh2' r3
    rw [← e1, ← e2] at s3
    rw [← e2] at h3
    exact ⟨x.a, vs, w, rfl, rfl, ev, by rw [rv.length]; exact Nat.lt_of_lt_of_le hl (by decide), q () _ _ .non _ p ((s1.trans s2).trans s3) h3 rfl⟩
/-- xs[i] of a changing list -/
theorem de_ixC {P : α → List Cell → Prop} (c : Nat) (h : DE X a δ μ fun (x : Ref) μ1 => DE X b δ μ1 fun (i : Int) μ2 => ∃ xs : List α, μ2[c]? = some (lst x.a xs) ∧ ∃ y, atI xs i = some y ∧ P y μ2) (hs : PlainIx b := by exact fun _ _ => rfl) : DE X (.Subscript a b pos) δ μ P :=
  of_pe (pe_ix ix_list (cE_pe a) (cE_pe b) hs) fun M σ H E Q q => h M σ H E _ fun x μ1 M1 v1 H1 p1 s1 hh1 r1 => p1 M1 σ H1 (E.step s1 hh1) _ fun i μ2 M2 w H2 p2 s2 hh2 r2 => by
    obtain ⟨xs, hx, y, hy, p⟩ := p2
    cases r1; cases r2
    obtain ⟨vs, ev, rv⟩ := hh2.cell _ (List.mem_of_getElem? hx)
    obtain ⟨v, hv, r⟩ := paired_atI rv hy
    exact ⟨x.a, vs, i, v, rfl, rfl, .inl (.inl ev), hv, q y μ2 M2 v H2 p (s1.trans s2) hh2 r⟩
/-- xs[i] = e -/
theorem ds_setItem {e : Expr} {tpos : Pos} (c : Nat) (h : DE X e δ μ fun (y : α) μ0 => DE X a δ μ0 fun (x : Ref) μ1 => DE X b δ μ1 fun (i : Int) μ2 => ∃ xs : List α, μ2[c]? = some (lst x.a xs) ∧ ∃ j, ixN xs.length i = some j ∧ N δ (μ2.set c (lst x.a (xs.set j y))))
    (ha : ∀ v, assign (.Subscript a b tpos) X.env v = (do
      let ov ← holding [v] (eval a X.env)
      let iv ← holding [v, ov] (eval b X.env)
      standAt tpos
      holding [v, ov, iv] (setItem ov iv v)
      release [v, ov, iv] []) := by intro _; rfl)
    (hs : swapsWithSole [.Subscript a b tpos] e pos.line X.env = pure false := by rfl) (hw : swappedStores [.Subscript a b tpos] e X.env = pure none := by rfl)
    (h1 : (assignEach [.Subscript a b tpos] X.env).map (·.2) = [assign (.Subscript a b tpos) X.env] := by rfl) :
    DS X (.Assign [.Subscript a b tpos] e pos) δ μ N R B C :=
  of_ps (ps_asg (cE_pe e) (pg_sub (cE_pe a) (cE_pe b) set_list ha) hs hw h1) fun M σ H E D nk rk bk ck => h M σ H E _ fun y μ0 M0 v0 H0 p0 s0 hh0 r0 => p0 M0 σ H0 (E.step s0 hh0) _ fun x μ1 M1 v1 H1 p1 s1 hh1 r1 =>
    p1 M1 σ H1 (E.step (s0.trans s1) hh1) _ fun i μ2 M2 w H2 p2 s2 hh2 r2 => by
    obtain ⟨xs, hx, j, hj, p⟩ := p2
    cases r1; cases r2
    obtain ⟨vs, ev, rv⟩ := hh2.cell _ (List.mem_of_getElem? hx)
    obtain ⟨e1, e2, e3⟩ := split_at hx
    have hh2' := hh2
    rw [e1] at hh2'
    have r3 : Paired (Enc.R X.K M2 H2) (vs.set j v0) (xs.set j y) := by
      have ry := tr (s1.trans s2) hh0 r0
      have : ∀ {vs : List V} {xs : List α} {j : Nat}, Paired (Enc.R X.K M2 H2) vs xs → Paired (Enc.R X.K M2 H2) (vs.set j v0) (xs.set j y) := by
        intro vs xs j r
        induction r generalizing j with
        | nil => exact .nil
        | cons r t ih =>
          cases j with
          | zero => exact .cons ry t
          | succ j => exact .cons r ih
      exact this rv
    obtain ⟨s3, h3⟩ := put_cell hh2' r3
    rw [← e1, ← e2] at s3
    rw [← e2] at h3
    exact ⟨x.a, vs, i, j, rfl, rfl, ev, by rw [rv.length]; exact hj, nk _ _ _ _ _ p (((s0.trans s1).trans s2).trans s3) (E.step (((s0.trans s1).trans s2).trans s3) h3)⟩
/-- len -/
theorem de_lenL {p : Pos} {P : Int → List Cell → Prop} (hm : X.mg "len" = none) (h : DE X a δ μ fun (xs : List α) μ1 => P xs.length μ1) (hg : Gl X "len" := by rfl)
    (he : starEach [a] X.env = (false, eval a X.env) :: starEach [] X.env := by rfl) (hpl : (backTo pos (starEach [] X.env)).any (·.1) = false := by rfl) : DE X (.Call (.Name "len" p) [a] [] pos) δ μ P :=
  de_cb call_len hm PySem.boot_len (da_cons (h.mono fun i μ1 q => da_nil ⟨_, q, fun M H vs r Q k => by
    cases r with
    | cons r1 r =>
      cases r
      obtain ⟨ad, vs, rfl, _, rd, rp⟩ := r1
      exact ⟨_, vs.length, rfl, .inl ⟨vs, .inl rd, rfl⟩, k _ (by rw [rp.length]; rfl)⟩⟩) he) hg (by decide) (by decide) he hpl
theorem de_lenT {p : Pos} {P : Int → List Cell → Prop} (hm : X.mg "len" = none) (h : DE X a δ μ fun (xs : Tup α) μ1 => P xs.l.length μ1) (hg : Gl X "len" := by rfl)
    (he : starEach [a] X.env = (false, eval a X.env) :: starEach [] X.env := by rfl) (hpl : (backTo pos (starEach [] X.env)).any (·.1) = false := by rfl) : DE X (.Call (.Name "len" p) [a] [] pos) δ μ P :=
  de_cb call_len hm PySem.boot_len (da_cons (h.mono fun i μ1 q => da_nil ⟨_, q, fun M H vs r Q k => by
    cases r with
    | cons r1 r =>
      cases r
      obtain ⟨ad, vs, rfl, rd, rp⟩ := r1
      exact ⟨_, vs.length, rfl, .inr ⟨vs, rd, rfl⟩, k _ (by rw [rp.length]; rfl)⟩⟩) he) hg (by decide) (by decide) he hpl
theorem de_len2 {p : Pos} {P : Int → List Cell → Prop} (hm : X.mg "len" = none) (h : DE X a δ μ fun (xs : α × β) μ1 => P 2 μ1) (hg : Gl X "len" := by rfl)
    (he : starEach [a] X.env = (false, eval a X.env) :: starEach [] X.env := by rfl) (hpl : (backTo pos (starEach [] X.env)).any (·.1) = false := by rfl) : DE X (.Call (.Name "len" p) [a] [] pos) δ μ P :=
  de_cb call_len hm PySem.boot_len (da_cons (h.mono fun i μ1 q => da_nil ⟨_, q, fun M H vs r Q k => by
    cases r with
    | cons r1 r =>
      cases r
      obtain ⟨ad, v1, v2, rfl, rd, rp⟩ := r1
      exact ⟨_, 2, rfl, .inr ⟨_, rd, rfl⟩, k _ rfl⟩⟩) he) hg (by decide) (by decide) he hpl
theorem de_lenC {p : Pos} {P : Int → List Cell → Prop} (c : Nat) (hm : X.mg "len" = none) (h : DE X a δ μ fun (x : Ref) μ1 => ∃ xs : List α, μ1[c]? = some (lst x.a xs) ∧ P xs.length μ1) (hg : Gl X "len" := by rfl)
    (he : starEach [a] X.env = (false, eval a X.env) :: starEach [] X.env := by rfl) (hpl : (backTo pos (starEach [] X.env)).any (·.1) = false := by rfl) : DE X (.Call (.Name "len" p) [a] [] pos) δ μ P :=
  of_pe (pe_callB call_len hg hm PySem.boot_len (pa_cons (cE_pe a) pa_nil he) (by decide) (by decide) he hpl) fun M σ H E Q q => h M σ H E _ fun x μ1 M1 v1 H1 p1 s1 hh1 r1 => by
    obtain ⟨xs, hx, p⟩ := p1
    cases r1
    obtain ⟨vs, ev, rv⟩ := hh1.cell _ (List.mem_of_getElem? hx)
    exact ⟨_, vs.length, rfl, .inl ⟨vs, .inl (.inl ev), rfl⟩, q _ μ1 M1 _ H1 p s1 hh1 (by rw [rv.length]; rfl)⟩
/-- tuple(xs) of a list -/
theorem de_tuple {p : Pos} {P : Tup α → List Cell → Prop} (hm : X.mg "tuple" = none) (h : DE X a δ μ fun (xs : List α) μ1 => P ⟨xs⟩ μ1) (hg : Gl X "tuple" := by rfl)
    (he : starEach [a] X.env = (false, eval a X.env) :: starEach [] X.env := by rfl) : DE X (.Call (.Name "tuple" p) [a] [] pos) δ μ P :=
  of_pe (pe_tupleOf hg hm (cE_pe a) he) fun M σ H E Q q => h M σ H E _ fun xs μ1 M1 v1 H1 p1 s1 hh1 r1 => by
    have r0 := r1
    obtain ⟨ad, vs, rfl, nm, rd, rp⟩ := r1
    refine .inl ⟨ad, vs, rfl, .inl rd, fun c hc => ?_⟩
    have s2 := foot_alloc hh1 hc (.tup vs)
    exact q ⟨xs⟩ μ1 M1 _ _ p1 (s1.trans s2) (hh1.alloc hc _) ⟨c, vs, rfl, SqT.of upd_same, paired_map (fun _ _ r => tr s2 hh1 r) rp⟩
/-- list(xs): a new list that is to change -/
theorem de_list {p : Pos} {P : Ref → List Cell → Prop} (hm : X.mg "list" = none) (h : DE X a δ μ fun (xs : Tup α) μ1 => ∀ l, P ⟨l⟩ (μ1 ++ [lst l xs.l])) (hg : Gl X "list" := by rfl)
    (he : starEach [a] X.env = (false, eval a X.env) :: starEach [] X.env := by rfl) (hpl : (backTo pos (starEach [] X.env)).any (·.1) = false := by rfl) : DE X (.Call (.Name "list" p) [a] [] pos) δ μ P :=
  of_pe (pe_callTy call_list_of hg hm (by decide +kernel) (pa_cons (cE_pe a) pa_nil he) (by decide) (by decide) he hpl) fun M σ H E Q q => h M σ H E _ fun xs μ1 M1 v1 H1 p1 s1 hh1 r1 => by
    obtain ⟨ad, vs, rfl, rd, rp⟩ := r1
    refine ⟨ad, vs, rfl, .inr rd, fun c hc => ?_⟩
    obtain ⟨s2, h2⟩ := new_cell hh1 hc rp
    exact q ⟨c⟩ _ _ _ _ (p1 c) (s1.trans s2) h2 rfl
end
end Dl
namespace Dl
open PySem PySem.Spec PyProof.Rows L2
/-! ### comprehensions -/
def wipeD (δ : List Slot) : List Nat → List Slot
  | [] => δ
  | v :: vs => (wipeD δ vs).set v .any
theorem wipe_at {σ : L2.St} : ∀ {vs : List Nat} {j : Nat}, (wipe σ vs)[j]? = if j ∈ vs ∧ j < σ.length then some none else σ[j]?
  | [], j => by simp [wipe]
  | v :: vs, j => by
    show ((wipe σ vs).set v none)[j]? = _
    rw [List.getElem?_set, wipe_at (vs := vs), wipe_length]
    by_cases h : v = j
    · subst h
      by_cases h2 : v < σ.length
      · simp [h2]
      · simp [h2]
    · have h' : ¬ j = v := fun e => h e.symm
      simp [h, h']
theorem wipe_set {σ : L2.St} {vs : List Nat} {i : Nat} {x : Option V} (h : i ∈ vs) : wipe ((wipe σ vs).set i x) vs = wipe σ vs := by
  apply List.ext_getElem?
  intro j
  rw [wipe_at, wipe_at, List.length_set, wipe_length]
  by_cases h1 : j ∈ vs ∧ j < σ.length
  · rw [if_pos h1, if_pos h1]
  · rw [if_neg h1, if_neg h1, List.getElem?_set, wipe_at, wipe_length]
    by_cases h2 : i = j
    · subst h2
      have : ¬ i < σ.length := fun z => h1 ⟨h, z⟩
      rw [if_pos rfl, if_neg this]
      exact (List.getElem?_eq_none (by omega)).symm
    · rw [if_neg h2, if_neg h1]
theorem wipe_set2 {σ : L2.St} {vs : List Nat} {i j : Nat} {x y : Option V} (h : i ∈ vs) (h' : j ∈ vs) : wipe (((wipe σ vs).set i x).set j y) vs = wipe σ vs := by
  apply List.ext_getElem?
  intro k
  rw [wipe_at, wipe_at, List.length_set, List.length_set, wipe_length]
  by_cases h1 : k ∈ vs ∧ k < σ.length
  · rw [if_pos h1, if_pos h1]
  · rw [if_neg h1, if_neg h1, List.getElem?_set, List.getElem?_set, wipe_at, List.length_set, wipe_length]
    by_cases h3 : j = k
    · subst h3
      have : ¬ j < σ.length := fun z => h1 ⟨h', z⟩
      rw [if_pos rfl, if_neg this]
      exact (List.getElem?_eq_none (by omega)).symm
    · rw [if_neg h3]
      by_cases h2 : i = k
      · subst h2
        have : ¬ i < σ.length := fun z => h1 ⟨h, z⟩
        rw [if_pos rfl, if_neg this]
        exact (List.getElem?_eq_none (by omega)).symm
      · rw [if_neg h2, if_neg h1]
section
variable {K : PySem.W.Frag} {M M' : AS} {μ μ' : List Cell} {δ : List Slot} {σ : L2.St} {H H' : Hp}
theorem EnvOk.wipe (E : EnvOk K M μ δ σ H) : ∀ vs : List Nat, EnvOk K M μ (wipeD δ vs) (L2.wipe σ vs) H
  | [] => E
  | v :: vs => by
    have E1 := E.wipe vs
    refine ⟨E1.h, by show ((L2.wipe σ vs).set v none).length = ((wipeD δ vs).set v .any).length; rw [List.length_set, List.length_set]; exact E1.len, fun i s w e1 e2 => ?_⟩
    have e1 : ((wipeD δ vs).set v .any)[i]? = some s := e1
    have e2 : ((L2.wipe σ vs).set v none)[i]? = some w := e2
    by_cases h : v = i
    · subst h
      rw [List.getElem?_set] at e1
      rw [if_pos rfl] at e1
      split at e1
      · cases e1; trivial
      · cases e1
    · rw [List.getElem?_set_ne h] at e1 e2
      exact E1.sl i s w e1 e2
theorem EnvOk.cells (E : EnvOk K M μ δ σ H) (h : Holds K M μ' H) : EnvOk K M μ' δ σ H := ⟨h, E.len, E.sl⟩
/-- a target within a block -/
structure WB (K : PySem.W.Frag) (g : TG) (vs : List Nat) (s : Slot) (dg : List Slot → List Slot) : Prop where
  run : ∀ (δ : List Slot) (M : AS) (μ : List Cell) (σ : L2.St) (H : Hp) (v : V), EnvOk K M μ δ σ H → SlotV K M H v s → ∀ Q : L2.St → Hp → Prop, (∀ σ', EnvOk K M μ (dg (wipeD δ vs)) σ' H → L2.wipe σ' vs = L2.wipe σ vs → Q σ' H) → g v (L2.wipe σ vs) H Q
theorem wb_name {i : Nat} {vs : List Nat} {s : Slot} (h : i ∈ vs := by decide) : WB K (gName i) vs s (fun δ => δ.set i s) := ⟨fun δ M μ σ H v E r Q k => k _ ((E.wipe vs).put r) (wipe_set h)⟩
theorem wb_pair {i j : Nat} {vs : List Nat} {α β : Type} {A : Enc α} {B : Enc β} {x : α × β} (h : i ∈ vs := by decide) (h' : j ∈ vs := by decide) : WB K (gTup K 2 (gCons (gName i) (gCons (gName j) gNil))) vs (.val (@instEncProd α β A B) x) (fun δ => (δ.set i (.val A x.1)).set j (.val B x.2)) :=
  ⟨fun δ M μ σ H v E r Q k => by
    obtain ⟨a, v1, v2, rfl, hs, r1, r2⟩ := r
    exact ⟨a, [v1, v2], rfl, hs, rfl, v1, [v2], rfl, v2, [], rfl, rfl, k _ (((E.wipe vs).put (s := .val A x.1) r1).put (s := .val B x.2) r2) (wipe_set2 h h')⟩⟩
end
section
variable {X : Cx} {α β γ ρ : Type} [Enc α] [Enc β] [Enc γ] [Enc ρ] {e a b tg iter elt : Expr} {es ifs : List Expr} {δ : List Slot} {μ : List Cell}
  {pos p : Pos} {scope : Scope} {own : List (Str × Nat)} {g : TG}
abbrev blk (X : Cx) (scope : Scope) (s : Shared) (H : Hp) (C : Addr) (cl : List (Str × Addr)) (fp : List Addr) : Cx := X.blk s H scope (compEnvC scope cl C X.env) fp
def cB (X : Cx) (scope : Scope) (e : Expr) : TE := fun σ H Q => ∀ s H0 C cl fp, cE (blk X scope s H0 C cl fp) e σ H Q
def cBT (X : Cx) (scope : Scope) (e : Expr) : TT := fun σ H Q => ∀ s H0 C cl fp, cV (blk X scope s H0 C cl fp) e σ H Q
theorem cB_pe (s H0 C cl fp) : PE (blk X scope s H0 C cl fp) e (cB X scope e) := ⟨fun pins st σ H Q I h => h s H0 C cl fp pins st I⟩
theorem cBT_pt (s H0 C cl fp) : PT (blk X scope s H0 C cl fp) e (cBT X scope e) := ⟨fun pins st σ H Q I h => h s H0 C cl fp pins st I⟩
/-- what a turn of the block does -/
def Turns (X : Cx) (scope : Scope) (elt : Expr) (ifs : List Expr) {β : Type} [Enc β] (δ : List Slot) (μ : List Cell) (Yes : β → List Cell → Prop) (No : List Cell → Prop) : Prop :=
  ∀ s H C cl fp, match ifs with
    | [] => DE (blk X scope s H C cl fp) elt δ μ Yes
    | c :: _ => DT (blk X scope s H C cl fp) c δ μ fun b μ1 => (b = true → ∀ s H C cl fp, DE (blk X scope s H C cl fp) elt δ μ1 Yes) ∧ (b = false → No μ1)
def ttOf (X : Cx) (scope : Scope) : List Expr → TT
  | [] => tYes
  | c :: _ => cBT X scope c
theorem Ste.swap_r {M M' : AS} {μ μ' : List Cell} {H H' : Hp} (s : Ste M μ H M' μ' H') : Ste M μ H M' μ' H' := s
/-- one turn: from the readings to the cells -/
theorem turn_ok {D : Addr} {M : AS} {H : Hp} {M1 : AS} {μ1 μ' : List Cell} {H1 : Hp} {ys : List β} {J : List β → List Cell → Prop} {δ' : List Slot} {σ2 : L2.St} {Nx : Hp → Prop}
    (ht : Turns X scope elt ifs δ' μ' (fun (y : β) μ3 => ys.length < 10000 ∧ J (ys ++ [y]) μ3) (fun μ3 => J ys μ3))
    (s : Ste M1 μ1 H1 M (μ' ++ [lst D ys]) H) (E : EnvOk X.K M (μ' ++ [lst D ys]) δ' σ2 H)
    (nx : ∀ ys' μ3 M3 H3, J ys' μ3 → Ste M1 μ1 H1 M3 (μ3 ++ [lst D ys']) H3 → Holds X.K M3 (μ3 ++ [lst D ys']) H3 → Nx H3) :
    ttOf X scope ifs σ2 H fun b H3 => if b = true then cB X scope elt σ2 H3 fun y H4 => ∃ acc, H4 D = some (.lst acc) ∧ acc.length < sizeLine ∧ Nx (upd H4 D (.lst (acc ++ [y]))) else Nx H3 := by
  have sp : Parts (μ' ++ [lst D ys]) μ' [lst D ys] := ⟨List.Perm.refl _⟩
  have yes : ∀ {M2 : AS} {μ2 : List Cell} {H2 : Hp}, (∀ s H C cl fp, DE (blk X scope s H C cl fp) elt δ' μ2 (fun (y : β) μ3 => ys.length < 10000 ∧ J (ys ++ [y]) μ3)) → Ste M1 μ1 H1 M2 (μ2 ++ [lst D ys]) H2 → EnvOk X.K M2 (μ2 ++ [lst D ys]) δ' σ2 H2 →
      cB X scope elt σ2 H2 fun y H4 => ∃ acc, H4 D = some (.lst acc) ∧ acc.length < sizeLine ∧ Nx (upd H4 D (.lst (acc ++ [y]))) := by
    intro M2 μ2 H2 hd s2 E2 sh H0 C cl fp
    have sp2 : Parts (μ2 ++ [lst D ys]) μ2 [lst D ys] := ⟨List.Perm.refl _⟩
    refine hd sh H0 C cl fp M2 σ2 H2 (E2.cells (E2.h.part sp2)) _ fun y μ3 M3 v H3 p3 s3 h3 r3 => ?_
    obtain ⟨s4, h4⟩ := frame E2.h sp2 s3 h3
    obtain ⟨acc, ea, ra⟩ := h4.cell (lst D ys) (by simp)
    have r4 : Paired (Enc.R X.K M3 H3) (acc ++ [v]) (ys ++ [y]) := by
      have : ∀ {vs : List V} {xs : List β}, Paired (Enc.R X.K M3 H3) vs xs → Paired (Enc.R X.K M3 H3) (vs ++ [v]) (xs ++ [y]) := by
        intro vs xs r
        induction r with
        | nil => exact .cons r3 .nil
        | cons r t ih => exact .cons r ih
      exact this ra
    obtain ⟨s5, h5⟩ := put_cell (μ' := []) h4 r4
    exact ⟨acc, ea, by rw [ra.length]; exact Nat.lt_of_lt_of_le p3.1 (by decide), nx _ _ _ _ p3.2 ((s2.trans s4).trans s5) h5⟩
  cases ifs with
  | nil => exact iteT (B := Nx H) (yes (fun s H C cl fp => ht s H C cl fp) s E)
  | cons c r =>
    intro sh H0 C cl fp
    refine ht sh H0 C cl fp M σ2 H (E.cells (E.h.part sp)) _ fun b μ2 M2 H2 p2 s2 h2 => ?_
    obtain ⟨s3, h3⟩ := frame E.h sp s2 h2
    cases b with
    | true => exact iteT (yes (p2.1 rfl) (s.trans s3) (E.step s3 h3))
    | false => exact iteF (nx _ _ _ _ (p2.2 rfl) (s.trans s3) h3)
theorem pts_of (hl : ifs.length ≤ 1) (s H0 C cl fp) : PTs (blk X scope s H0 C cl fp) ifs (ttOf X scope ifs) := by
  cases ifs with
  | nil => exact pts_nil
  | cons c r =>
    cases r with
    | nil => exact pts_one (cBT_pt s H0 C cl fp)
    | cons d r => simp at hl
/-- the whole comprehension over a list that stays: its reading -/
theorem we_lcLN {A : Enc α} (dg : α → List Slot → List Slot) (hw : ∀ x : α, WB X.K g (own.map (·.2)) (.val A x) (dg x))
    {P : Ref → List Cell → Prop} (h : DE X iter δ μ fun (xs : List α) μ1 => ∃ J : Nat → List β → List Cell → Prop, J 0 [] μ1 ∧
      (∀ k x ys μ', xs[k]? = some x → J k ys μ' → Turns X scope elt ifs (dg x (wipeD δ (own.map (·.2)))) μ' (fun (y : β) μ3 => ys.length < 10000 ∧ J (k + 1) (ys ++ [y]) μ3) (fun μ3 => J (k + 1) ys μ3)) ∧ (∀ ys μ', J xs.length ys μ' → ∀ D, P ⟨D⟩ (μ' ++ [lst D ys]))) :
    WE X.K (tLc (iList X.K (cE X iter)) g (ttOf X scope ifs) (cB X scope elt) (own.map (·.2))) δ μ P := fun M σ H E Q q => h M σ H E _ fun xs μ1 M1 v H1 p1 s1 hh1 r1 => by
  obtain ⟨J, j0, jh, je⟩ := p1
  obtain ⟨ad, vs, rfl, nm, rd, rp⟩ := r1
  have hl := rp.length
  have lt : ad < ad + 1 := Nat.lt_succ_self _
  refine ⟨ad, rfl, ⟨vs, .inl rd⟩, fun D hD => ?_⟩
  obtain ⟨s2, h2⟩ := new_cell (A := inferInstanceAs (Enc β)) (xs := ([] : List β)) hh1 hD .nil
  have E1 := E.step s1 hh1
  refine lc_list (xs := vs) (fun i H' => ∃ M' μ' ys, J i ys μ' ∧ Ste M1 μ1 H1 M' (μ' ++ [lst D ys]) H' ∧ Holds X.K M' (μ' ++ [lst D ys]) H') ⟨_, μ1, [], j0, s2, h2⟩ ?_ ?_ ?_
  · rintro i H' hi ⟨M', μ', ys, hJ, s, hh⟩
    rcases rd with rd | ⟨o, rd⟩
    · exact .inl (.inl (s.keep _ _ rd (.inl fun z => nm (hh1.inM _ z))))
    · exact .inl (.inr ⟨o, s.keep _ _ rd (.inr trivial)⟩)
  · rintro i y H' hi ⟨M', μ', ys, hJ, s, hh⟩
    have hi' : i < xs.length := by rw [← hl]; exact (List.getElem?_eq_some_iff.mp hi).1
    obtain ⟨y', e1, ry⟩ := paired_get rp (List.getElem?_eq_getElem hi')
    rw [hi] at e1; cases e1
    refine (hw xs[i]).run δ M' _ σ H' y (E1.step s hh) (Dl.tr (A := A) s hh1 ry) _ fun σ2 E2 ew => ⟨ew, ?_⟩
    exact turn_ok (J := fun ys μ3 => J (i + 1) ys μ3) (jh i _ ys μ' (List.getElem?_eq_getElem hi') hJ) s E2 fun ys' μ3 M3 H3 pj s3 h3 => ⟨M3, μ3, ys', pj, s3, h3⟩
  · rintro H' ⟨M', μ', ys, hJ, s, hh⟩
    rw [hl] at hJ
    exact q ⟨D⟩ _ _ _ _ (je _ _ hJ D) (s1.trans s) hh rfl
theorem we_lcL {A : Enc α} (dg : α → List Slot → List Slot) (hw : ∀ x : α, WB X.K g (own.map (·.2)) (.val A x) (dg x))
    {P : List β → List Cell → Prop} (h : DE X iter δ μ fun (xs : List α) μ1 => ∃ J : Nat → List β → List Cell → Prop, J 0 [] μ1 ∧
      (∀ k x ys μ', xs[k]? = some x → J k ys μ' → Turns X scope elt ifs (dg x (wipeD δ (own.map (·.2)))) μ' (fun (y : β) μ3 => ys.length < 10000 ∧ J (k + 1) (ys ++ [y]) μ3) (fun μ3 => J (k + 1) ys μ3)) ∧ (∀ ys μ', J xs.length ys μ' → P ys μ')) :
    WE X.K (tLc (iList X.K (cE X iter)) g (ttOf X scope ifs) (cB X scope elt) (own.map (·.2))) δ μ P := fun M σ H E Q q => h M σ H E _ fun xs μ1 M1 v H1 p1 s1 hh1 r1 => by
  obtain ⟨J, j0, jh, je⟩ := p1
  obtain ⟨ad, vs, rfl, nm, rd, rp⟩ := r1
  have hl := rp.length
  have lt : ad < ad + 1 := Nat.lt_succ_self _
  refine ⟨ad, rfl, ⟨vs, .inl rd⟩, fun D hD => ?_⟩
  obtain ⟨s2, h2⟩ := new_cell (A := inferInstanceAs (Enc β)) (xs := ([] : List β)) hh1 hD .nil
  have E1 := E.step s1 hh1
  refine lc_list (xs := vs) (fun i H' => ∃ M' μ' ys, J i ys μ' ∧ Ste M1 μ1 H1 M' (μ' ++ [lst D ys]) H' ∧ Holds X.K M' (μ' ++ [lst D ys]) H') ⟨_, μ1, [], j0, s2, h2⟩ ?_ ?_ ?_
  · rintro i H' hi ⟨M', μ', ys, hJ, s, hh⟩
    rcases rd with rd | ⟨o, rd⟩
    · exact .inl (.inl (s.keep _ _ rd (.inl fun z => nm (hh1.inM _ z))))
    · exact .inl (.inr ⟨o, s.keep _ _ rd (.inr trivial)⟩)
  · rintro i y H' hi ⟨M', μ', ys, hJ, s, hh⟩
    have hi' : i < xs.length := by rw [← hl]; exact (List.getElem?_eq_some_iff.mp hi).1
    obtain ⟨y', e1, ry⟩ := paired_get rp (List.getElem?_eq_getElem hi')
    rw [hi] at e1; cases e1
    refine (hw xs[i]).run δ M' _ σ H' y (E1.step s hh) (Dl.tr (A := A) s hh1 ry) _ fun σ2 E2 ew => ⟨ew, ?_⟩
    exact turn_ok (J := fun ys μ3 => J (i + 1) ys μ3) (jh i _ ys μ' (List.getElem?_eq_getElem hi') hJ) s E2 fun ys' μ3 M3 H3 pj s3 h3 => ⟨M3, μ3, ys', pj, s3, h3⟩
  · rintro H' ⟨M', μ', ys, hJ, s, hh⟩
    rw [hl] at hJ
    obtain ⟨s3, h3, r3⟩ := freeze (μ' := []) hh
    rw [List.append_nil] at s3 h3
    exact q ys _ _ _ _ (je _ _ hJ) ((s1.trans s).trans s3) h3 r3
theorem we_lcTN {A : Enc α} (dg : α → List Slot → List Slot) (hw : ∀ x : α, WB X.K g (own.map (·.2)) (.val A x) (dg x))
    {P : Ref → List Cell → Prop} (h : DE X iter δ μ fun (xs : Tup α) μ1 => ∃ J : Nat → List β → List Cell → Prop, J 0 [] μ1 ∧
      (∀ k x ys μ', xs.l[k]? = some x → J k ys μ' → Turns X scope elt ifs (dg x (wipeD δ (own.map (·.2)))) μ' (fun (y : β) μ3 => ys.length < 10000 ∧ J (k + 1) (ys ++ [y]) μ3) (fun μ3 => J (k + 1) ys μ3)) ∧ (∀ ys μ', J xs.l.length ys μ' → ∀ D, P ⟨D⟩ (μ' ++ [lst D ys]))) :
    WE X.K (tLc (iTup X.K (cE X iter)) g (ttOf X scope ifs) (cB X scope elt) (own.map (·.2))) δ μ P := fun M σ H E Q q => h M σ H E _ fun xs μ1 M1 v H1 p1 s1 hh1 r1 => by
  obtain ⟨J, j0, jh, je⟩ := p1
  obtain ⟨ad, vs, rfl, rd, rp⟩ := r1
  have hl := rp.length
  refine ⟨ad, rfl, ⟨vs, rd⟩, fun D hD => ?_⟩
  obtain ⟨s2, h2⟩ := new_cell (A := inferInstanceAs (Enc β)) (xs := ([] : List β)) hh1 hD .nil
  have E1 := E.step s1 hh1
  refine lc_tup (xs := vs) (fun i H' => ∃ M' μ' ys, J i ys μ' ∧ Ste M1 μ1 H1 M' (μ' ++ [lst D ys]) H' ∧ Holds X.K M' (μ' ++ [lst D ys]) H') ⟨_, μ1, [], j0, s2, h2⟩ ?_ ?_ ?_
  · rintro i H' hi ⟨M', μ', ys, hJ, s, hh⟩
    exact sqT_keep s.keep rd
  · rintro i y H' hi ⟨M', μ', ys, hJ, s, hh⟩
    have hi' : i < xs.l.length := by rw [← hl]; exact (List.getElem?_eq_some_iff.mp hi).1
    obtain ⟨y', e1, ry⟩ := paired_get rp (List.getElem?_eq_getElem hi')
    rw [hi] at e1; cases e1
    refine (hw xs.l[i]).run δ M' _ σ H' y (E1.step s hh) (Dl.tr (A := A) s hh1 ry) _ fun σ2 E2 ew => ⟨ew, ?_⟩
    exact turn_ok (J := fun ys μ3 => J (i + 1) ys μ3) (jh i _ ys μ' (List.getElem?_eq_getElem hi') hJ) s E2 fun ys' μ3 M3 H3 pj s3 h3 => ⟨M3, μ3, ys', pj, s3, h3⟩
  · rintro H' ⟨M', μ', ys, hJ, s, hh⟩
    rw [hl] at hJ
    exact q ⟨D⟩ _ _ _ _ (je _ _ hJ D) (s1.trans s) hh rfl
theorem we_lcT {A : Enc α} (dg : α → List Slot → List Slot) (hw : ∀ x : α, WB X.K g (own.map (·.2)) (.val A x) (dg x))
    {P : List β → List Cell → Prop} (h : DE X iter δ μ fun (xs : Tup α) μ1 => ∃ J : Nat → List β → List Cell → Prop, J 0 [] μ1 ∧
      (∀ k x ys μ', xs.l[k]? = some x → J k ys μ' → Turns X scope elt ifs (dg x (wipeD δ (own.map (·.2)))) μ' (fun (y : β) μ3 => ys.length < 10000 ∧ J (k + 1) (ys ++ [y]) μ3) (fun μ3 => J (k + 1) ys μ3)) ∧ (∀ ys μ', J xs.l.length ys μ' → P ys μ')) :
    WE X.K (tLc (iTup X.K (cE X iter)) g (ttOf X scope ifs) (cB X scope elt) (own.map (·.2))) δ μ P := fun M σ H E Q q => h M σ H E _ fun xs μ1 M1 v H1 p1 s1 hh1 r1 => by
  obtain ⟨J, j0, jh, je⟩ := p1
  obtain ⟨ad, vs, rfl, rd, rp⟩ := r1
  have hl := rp.length
  refine ⟨ad, rfl, ⟨vs, rd⟩, fun D hD => ?_⟩
  obtain ⟨s2, h2⟩ := new_cell (A := inferInstanceAs (Enc β)) (xs := ([] : List β)) hh1 hD .nil
  have E1 := E.step s1 hh1
  refine lc_tup (xs := vs) (fun i H' => ∃ M' μ' ys, J i ys μ' ∧ Ste M1 μ1 H1 M' (μ' ++ [lst D ys]) H' ∧ Holds X.K M' (μ' ++ [lst D ys]) H') ⟨_, μ1, [], j0, s2, h2⟩ ?_ ?_ ?_
  · rintro i H' hi ⟨M', μ', ys, hJ, s, hh⟩
    exact sqT_keep s.keep rd
  · rintro i y H' hi ⟨M', μ', ys, hJ, s, hh⟩
    have hi' : i < xs.l.length := by rw [← hl]; exact (List.getElem?_eq_some_iff.mp hi).1
    obtain ⟨y', e1, ry⟩ := paired_get rp (List.getElem?_eq_getElem hi')
    rw [hi] at e1; cases e1
    refine (hw xs.l[i]).run δ M' _ σ H' y (E1.step s hh) (Dl.tr (A := A) s hh1 ry) _ fun σ2 E2 ew => ⟨ew, ?_⟩
    exact turn_ok (J := fun ys μ3 => J (i + 1) ys μ3) (jh i _ ys μ' (List.getElem?_eq_getElem hi') hJ) s E2 fun ys' μ3 M3 H3 pj s3 h3 => ⟨M3, μ3, ys', pj, s3, h3⟩
  · rintro H' ⟨M', μ', ys, hJ, s, hh⟩
    rw [hl] at hJ
    obtain ⟨s3, h3, r3⟩ := freeze (μ' := []) hh
    rw [List.append_nil] at s3 h3
    exact q ys _ _ _ _ (je _ _ hJ) ((s1.trans s).trans s3) h3 r3
theorem we_lcRN {i0 : Nat} (hi0 : i0 ∈ own.map (·.2))
    {P : Ref → List Cell → Prop} (h : DE X a δ μ fun (n : Int) μ1 => (n < 2 ^ 62 ∧ -(2 ^ 62) ≤ n) ∧ ∃ J : Nat → List β → List Cell → Prop, J 0 [] μ1 ∧
      (∀ (k : Nat) ys μ', (k : Int) < n → J k ys μ' → Turns X scope elt ifs ((wipeD δ (own.map (·.2))).set i0 (sl (k : Int))) μ' (fun (y : β) μ3 => ys.length < 10000 ∧ J (k + 1) (ys ++ [y]) μ3) (fun μ3 => J (k + 1) ys μ3)) ∧ (∀ ys μ', J n.toNat ys μ' → ∀ D, P ⟨D⟩ (μ' ++ [lst D ys]))) :
    WE X.K (tLc (iRng1 (tCons (cE X a) tNil)) (gName i0) (ttOf X scope ifs) (cB X scope elt) (own.map (·.2))) δ μ P := fun M σ H E Q q => h M σ H E _ fun n μ1 M1 v H1 p1 s1 hh1 r1 => by
  obtain ⟨⟨n1, n2⟩, J, j0, jh, je⟩ := p1
  cases r1
  refine ⟨n, rfl, n2, n1, fun D hD => ?_⟩
  obtain ⟨s2, h2⟩ := new_cell (A := inferInstanceAs (Enc β)) (xs := ([] : List β)) hh1 hD .nil
  have E1 := E.step s1 hh1
  refine lc_range (fun i H' => ∃ M' μ' ys, J i ys μ' ∧ Ste M1 μ1 H1 M' (μ' ++ [lst D ys]) H' ∧ Holds X.K M' (μ' ++ [lst D ys]) H') ⟨_, μ1, [], j0, s2, h2⟩ ?_ ?_
  · rintro i H' hi ⟨M', μ', ys, hJ, s, hh⟩
    refine (wb_name (s := sl (i : Int)) hi0).run δ M' _ σ H' _ (E1.step s hh) (by show V.int (0 + (i : Int)) = V.int i; rw [Int.zero_add]) _ fun σ2 E2 ew => ⟨ew, ?_⟩
    exact turn_ok (J := fun ys μ3 => J (i + 1) ys μ3) (jh i ys μ' (by omega) hJ) s E2 fun ys' μ3 M3 H3 pj s3 h3 => ⟨M3, μ3, ys', pj, s3, h3⟩
  · rintro H' ⟨M', μ', ys, hJ, s, hh⟩
    exact q ⟨D⟩ _ _ _ _ (je _ _ hJ D) (s1.trans s) hh rfl
theorem we_lcR {i0 : Nat} (hi0 : i0 ∈ own.map (·.2))
    {P : List β → List Cell → Prop} (h : DE X a δ μ fun (n : Int) μ1 => (n < 2 ^ 62 ∧ -(2 ^ 62) ≤ n) ∧ ∃ J : Nat → List β → List Cell → Prop, J 0 [] μ1 ∧
      (∀ (k : Nat) ys μ', (k : Int) < n → J k ys μ' → Turns X scope elt ifs ((wipeD δ (own.map (·.2))).set i0 (sl (k : Int))) μ' (fun (y : β) μ3 => ys.length < 10000 ∧ J (k + 1) (ys ++ [y]) μ3) (fun μ3 => J (k + 1) ys μ3)) ∧ (∀ ys μ', J n.toNat ys μ' → P ys μ')) :
    WE X.K (tLc (iRng1 (tCons (cE X a) tNil)) (gName i0) (ttOf X scope ifs) (cB X scope elt) (own.map (·.2))) δ μ P := fun M σ H E Q q => h M σ H E _ fun n μ1 M1 v H1 p1 s1 hh1 r1 => by
  obtain ⟨⟨n1, n2⟩, J, j0, jh, je⟩ := p1
  cases r1
  refine ⟨n, rfl, n2, n1, fun D hD => ?_⟩
  obtain ⟨s2, h2⟩ := new_cell (A := inferInstanceAs (Enc β)) (xs := ([] : List β)) hh1 hD .nil
  have E1 := E.step s1 hh1
  refine lc_range (fun i H' => ∃ M' μ' ys, J i ys μ' ∧ Ste M1 μ1 H1 M' (μ' ++ [lst D ys]) H' ∧ Holds X.K M' (μ' ++ [lst D ys]) H') ⟨_, μ1, [], j0, s2, h2⟩ ?_ ?_
  · rintro i H' hi ⟨M', μ', ys, hJ, s, hh⟩
    refine (wb_name (s := sl (i : Int)) hi0).run δ M' _ σ H' _ (E1.step s hh) (by show V.int (0 + (i : Int)) = V.int i; rw [Int.zero_add]) _ fun σ2 E2 ew => ⟨ew, ?_⟩
    exact turn_ok (J := fun ys μ3 => J (i + 1) ys μ3) (jh i ys μ' (by omega) hJ) s E2 fun ys' μ3 M3 H3 pj s3 h3 => ⟨M3, μ3, ys', pj, s3, h3⟩
  · rintro H' ⟨M', μ', ys, hJ, s, hh⟩
    obtain ⟨s3, h3, r3⟩ := freeze (μ' := []) hh
    rw [List.append_nil] at s3 h3
    exact q ys _ _ _ _ (je _ _ hJ) ((s1.trans s).trans s3) h3 r3
/-- the comprehensions as expressions, and stored at a name -/
theorem de_lcL {A : Enc α} (hc : X.calm = true) (hN : X.N.Nodup) (ok : BlkOk X.N X.env.scope scope own) (dg : α → List Slot → List Slot) (hg : ∀ (s : Shared) (H : Hp) (C : Addr) (cl : List (Str × Addr)) (fp : List Addr), PG (blk X scope s H C cl fp) tg g) (hw : ∀ x : α, WB X.K g (own.map (·.2)) (.val A x) (dg x)) (hl : ifs.length ≤ 1)
    {P : List β → List Cell → Prop} (h : DE X iter δ μ fun (xs : List α) μ1 => ∃ J : Nat → List β → List Cell → Prop, J 0 [] μ1 ∧
      (∀ k x ys μ', xs[k]? = some x → J k ys μ' → Turns X scope elt ifs (dg x (wipeD δ (own.map (·.2)))) μ' (fun (y : β) μ3 => ys.length < 10000 ∧ J (k + 1) (ys ++ [y]) μ3) (fun μ3 => J (k + 1) ys μ3)) ∧ (∀ ys μ', J xs.length ys μ' → P ys μ'))
    (hs : ∀ x, foldedSetIterable iter X.env x = pure x := by intro _; rfl) : DE X (.ListComp elt [⟨tg, iter, ifs, 0⟩] scope pos) δ μ P :=
  of_pe (pe_lc hc hN (pi_list (cE_pe iter)) ok hg (pts_of hl) cB_pe hs) (we_lcL dg hw h)
theorem de_lcT {A : Enc α} (hc : X.calm = true) (hN : X.N.Nodup) (ok : BlkOk X.N X.env.scope scope own) (dg : α → List Slot → List Slot) (hg : ∀ (s : Shared) (H : Hp) (C : Addr) (cl : List (Str × Addr)) (fp : List Addr), PG (blk X scope s H C cl fp) tg g) (hw : ∀ x : α, WB X.K g (own.map (·.2)) (.val A x) (dg x)) (hl : ifs.length ≤ 1)
    {P : List β → List Cell → Prop} (h : DE X iter δ μ fun (xs : Tup α) μ1 => ∃ J : Nat → List β → List Cell → Prop, J 0 [] μ1 ∧
      (∀ k x ys μ', xs.l[k]? = some x → J k ys μ' → Turns X scope elt ifs (dg x (wipeD δ (own.map (·.2)))) μ' (fun (y : β) μ3 => ys.length < 10000 ∧ J (k + 1) (ys ++ [y]) μ3) (fun μ3 => J (k + 1) ys μ3)) ∧ (∀ ys μ', J xs.l.length ys μ' → P ys μ'))
    (hs : ∀ x, foldedSetIterable iter X.env x = pure x := by intro _; rfl) : DE X (.ListComp elt [⟨tg, iter, ifs, 0⟩] scope pos) δ μ P :=
  of_pe (pe_lc hc hN (pi_tup (cE_pe iter)) ok hg (pts_of hl) cB_pe hs) (we_lcT dg hw h)
theorem de_lcR {i0 : Nat} {x0 : Str} {px pos' : Pos} (hc : X.calm = true) (hN : X.N.Nodup) (ok : BlkOk X.N X.env.scope scope own) (hi0 : i0 ∈ own.map (·.2)) (hg : ∀ (s : Shared) (H : Hp) (C : Addr) (cl : List (Str × Addr)) (fp : List Addr), PG (blk X scope s H C cl fp) (.Name x0 px) (gName i0)) (hl : ifs.length ≤ 1) (hm : X.mg "range" = none)
    {P : List β → List Cell → Prop} (h : DE X a δ μ fun (n : Int) μ1 => (n < 2 ^ 62 ∧ -(2 ^ 62) ≤ n) ∧ ∃ J : Nat → List β → List Cell → Prop, J 0 [] μ1 ∧
      (∀ (k : Nat) ys μ', (k : Int) < n → J k ys μ' → Turns X scope elt ifs ((wipeD δ (own.map (·.2))).set i0 (sl (k : Int))) μ' (fun (y : β) μ3 => ys.length < 10000 ∧ J (k + 1) (ys ++ [y]) μ3) (fun μ3 => J (k + 1) ys μ3)) ∧ (∀ ys μ', J n.toNat ys μ' → P ys μ'))
    (hgl : Gl X "range" := by rfl) (hs1 : starEach [a] X.env = [(false, eval a X.env)] := by rfl) (hs2 : starEach [a] X.env = (false, eval a X.env) :: starEach [] X.env := by rfl)
    (hs : ∀ x, foldedSetIterable (.Call (.Name "range" p) [a] [] pos') X.env x = pure x := by intro _; rfl) : DE X (.ListComp elt [⟨.Name x0 px, .Call (.Name "range" p) [a] [] pos', ifs, 0⟩] scope pos) δ μ P :=
  of_pe (pe_lc hc hN (pi_range1 hgl hm (pa_cons (cE_pe a) pa_nil hs2) hs1) ok hg (pts_of hl) cB_pe hs) (we_lcR hi0 h)
theorem de_lcRN {i0 : Nat} {x0 : Str} {px pos' : Pos} (hc : X.calm = true) (hN : X.N.Nodup) (ok : BlkOk X.N X.env.scope scope own) (hi0 : i0 ∈ own.map (·.2)) (hg : ∀ (s : Shared) (H : Hp) (C : Addr) (cl : List (Str × Addr)) (fp : List Addr), PG (blk X scope s H C cl fp) (.Name x0 px) (gName i0)) (hl : ifs.length ≤ 1) (hm : X.mg "range" = none)
    {P : Ref → List Cell → Prop} (h : DE X a δ μ fun (n : Int) μ1 => (n < 2 ^ 62 ∧ -(2 ^ 62) ≤ n) ∧ ∃ J : Nat → List β → List Cell → Prop, J 0 [] μ1 ∧
      (∀ (k : Nat) ys μ', (k : Int) < n → J k ys μ' → Turns X scope elt ifs ((wipeD δ (own.map (·.2))).set i0 (sl (k : Int))) μ' (fun (y : β) μ3 => ys.length < 10000 ∧ J (k + 1) (ys ++ [y]) μ3) (fun μ3 => J (k + 1) ys μ3)) ∧ (∀ ys μ', J n.toNat ys μ' → ∀ D, P ⟨D⟩ (μ' ++ [lst D ys])))
    (hgl : Gl X "range" := by rfl) (hs1 : starEach [a] X.env = [(false, eval a X.env)] := by rfl) (hs2 : starEach [a] X.env = (false, eval a X.env) :: starEach [] X.env := by rfl)
    (hs : ∀ x, foldedSetIterable (.Call (.Name "range" p) [a] [] pos') X.env x = pure x := by intro _; rfl) : DE X (.ListComp elt [⟨.Name x0 px, .Call (.Name "range" p) [a] [] pos', ifs, 0⟩] scope pos) δ μ P :=
  of_pe (pe_lc hc hN (pi_range1 hgl hm (pa_cons (cE_pe a) pa_nil hs2) hs1) ok hg (pts_of hl) cB_pe hs) (we_lcRN hi0 h)
section
variable {N B C : PN} {R : ρ → List Cell → Prop} {i : Nat} {y : Str} {py spos : Pos}
/-- x = [..]: the list is to change -/
theorem ds_lcLN {A : Enc α} (hc : X.calm = true) (hN : X.N.Nodup) (ok : BlkOk X.N X.env.scope scope own) (dg : α → List Slot → List Slot) (hg : ∀ (s : Shared) (H : Hp) (C : Addr) (cl : List (Str × Addr)) (fp : List Addr), PG (blk X scope s H C cl fp) tg g) (hw : ∀ x : α, WB X.K g (own.map (·.2)) (.val A x) (dg x)) (hl : ifs.length ≤ 1)
    (h : DE X iter δ μ fun (xs : List α) μ1 => ∃ J : Nat → List β → List Cell → Prop, J 0 [] μ1 ∧
      (∀ k x ys μ', xs[k]? = some x → J k ys μ' → Turns X scope elt ifs (dg x (wipeD δ (own.map (·.2)))) μ' (fun (y : β) μ3 => ys.length < 10000 ∧ J (k + 1) (ys ++ [y]) μ3) (fun μ3 => J (k + 1) ys μ3)) ∧ (∀ ys μ', J xs.length ys μ' → ∀ D, N (δ.set i (sl (Ref.mk D))) (μ' ++ [lst D ys])))
    (hsw : swapsWith (.ListComp elt [⟨tg, iter, ifs, 0⟩] scope pos) (some (.Name y py)) spos.line X.env = pure true) (hy : X.N[i]? = some y := by rfl) (hyl : X.env.scope.names.lookup y = some .local := by rfl)
    (hs : ∀ x, foldedSetIterable iter X.env x = pure x := by intro _; rfl) : DS X (.Assign [.Name y py] (.ListComp elt [⟨tg, iter, ifs, 0⟩] scope pos) spos) δ μ N R B C :=
  of_ps (ps_setLc hc hN hy hyl hsw (pi_list (cE_pe iter)) ok hg (pts_of hl) cB_pe hs) fun M σ H E D n r b c => we_lcLN (P := fun x μ' => N (δ.set i (sl x)) μ') dg hw h M σ H E _ fun x μ' M' v H' p s hh rr => n _ μ' M' _ H' p s ((E.step s hh).put rr)
/-- x = [..]: the list stays -/
theorem ds_lcL {A : Enc α} (hc : X.calm = true) (hN : X.N.Nodup) (ok : BlkOk X.N X.env.scope scope own) (dg : α → List Slot → List Slot) (hg : ∀ (s : Shared) (H : Hp) (C : Addr) (cl : List (Str × Addr)) (fp : List Addr), PG (blk X scope s H C cl fp) tg g) (hw : ∀ x : α, WB X.K g (own.map (·.2)) (.val A x) (dg x)) (hl : ifs.length ≤ 1)
    (h : DE X iter δ μ fun (xs : List α) μ1 => ∃ J : Nat → List β → List Cell → Prop, J 0 [] μ1 ∧
      (∀ k x ys μ', xs[k]? = some x → J k ys μ' → Turns X scope elt ifs (dg x (wipeD δ (own.map (·.2)))) μ' (fun (y : β) μ3 => ys.length < 10000 ∧ J (k + 1) (ys ++ [y]) μ3) (fun μ3 => J (k + 1) ys μ3)) ∧ (∀ ys μ', J xs.length ys μ' → N (δ.set i (sl ys)) μ'))
    (hsw : swapsWith (.ListComp elt [⟨tg, iter, ifs, 0⟩] scope pos) (some (.Name y py)) spos.line X.env = pure true) (hy : X.N[i]? = some y := by rfl) (hyl : X.env.scope.names.lookup y = some .local := by rfl)
    (hs : ∀ x, foldedSetIterable iter X.env x = pure x := by intro _; rfl) : DS X (.Assign [.Name y py] (.ListComp elt [⟨tg, iter, ifs, 0⟩] scope pos) spos) δ μ N R B C :=
  of_ps (ps_setLc hc hN hy hyl hsw (pi_list (cE_pe iter)) ok hg (pts_of hl) cB_pe hs) fun M σ H E D n r b c => we_lcL (P := fun ys μ' => N (δ.set i (sl ys)) μ') dg hw h M σ H E _ fun x μ' M' v H' p s hh rr => n _ μ' M' _ H' p s ((E.step s hh).put rr)
theorem ds_lcT {A : Enc α} (hc : X.calm = true) (hN : X.N.Nodup) (ok : BlkOk X.N X.env.scope scope own) (dg : α → List Slot → List Slot) (hg : ∀ (s : Shared) (H : Hp) (C : Addr) (cl : List (Str × Addr)) (fp : List Addr), PG (blk X scope s H C cl fp) tg g) (hw : ∀ x : α, WB X.K g (own.map (·.2)) (.val A x) (dg x)) (hl : ifs.length ≤ 1)
    (h : DE X iter δ μ fun (xs : Tup α) μ1 => ∃ J : Nat → List β → List Cell → Prop, J 0 [] μ1 ∧
      (∀ k x ys μ', xs.l[k]? = some x → J k ys μ' → Turns X scope elt ifs (dg x (wipeD δ (own.map (·.2)))) μ' (fun (y : β) μ3 => ys.length < 10000 ∧ J (k + 1) (ys ++ [y]) μ3) (fun μ3 => J (k + 1) ys μ3)) ∧ (∀ ys μ', J xs.l.length ys μ' → N (δ.set i (sl ys)) μ'))
    (hsw : swapsWith (.ListComp elt [⟨tg, iter, ifs, 0⟩] scope pos) (some (.Name y py)) spos.line X.env = pure true) (hy : X.N[i]? = some y := by rfl) (hyl : X.env.scope.names.lookup y = some .local := by rfl)
    (hs : ∀ x, foldedSetIterable iter X.env x = pure x := by intro _; rfl) : DS X (.Assign [.Name y py] (.ListComp elt [⟨tg, iter, ifs, 0⟩] scope pos) spos) δ μ N R B C :=
  of_ps (ps_setLc hc hN hy hyl hsw (pi_tup (cE_pe iter)) ok hg (pts_of hl) cB_pe hs) fun M σ H E D n r b c => we_lcT (P := fun ys μ' => N (δ.set i (sl ys)) μ') dg hw h M σ H E _ fun x μ' M' v H' p s hh rr => n _ μ' M' _ H' p s ((E.step s hh).put rr)
end
/-! ### types, equality, powers -/
end
/-- a kind whose values are of one built-in type -/
class Ty (α : Type) [Enc α] (n : outParam String) : Prop where
  ty : ∀ {K M H v} {x : α}, Enc.R K M H v x → TyX K H v (.type n)
instance : Ty Int "int" := ⟨fun h => by cases h; exact .base (.int _)⟩
instance : Ty Bool "bool" := ⟨fun h => by cases h; exact .base (.bl _)⟩
instance : Ty Str "str" := ⟨fun h => by cases h; exact .base (.str _)⟩
theorem ty_sqT {K : PySem.W.Frag} {H : Hp} {a : Addr} {xs : List V} (h : SqT K H a xs) : TyX K H (.ref a) (.type "tuple") := by
  rcases h with (h | ⟨o, h⟩) | ⟨o, its, n, h, c, _⟩
  · exact .base (.tup h)
  · exact .fTuple h
  · exact .kTuple h c
instance [Enc α] [Enc β] : Ty (α × β) "tuple" := ⟨fun h => by obtain ⟨a, v1, v2, rfl, s, _⟩ := h; exact ty_sqT s⟩
instance [Enc α] : Ty (Tup α) "tuple" := ⟨fun h => by obtain ⟨a, vs, rfl, s, _⟩ := h; exact ty_sqT s⟩
/-- data that == compares by what it stands for -/
class Deep (α : Type) [Enc α] where
  d : α → PyData
  dp : ∀ {K M H v} {x : α}, Enc.R K M H v x → Dp K H v (d x)
  n : Nat
  sh : ∀ x : α, (d x).canLay0 = true ∧ (d x).depth ≤ n
  eq : ∀ x y : α, PyData.eqv (d x) (d y) = true ↔ x = y
section
variable {X : Cx} {α β : Type} [Enc α] [Enc β] {e a b : Expr} {δ : List Slot} {μ : List Cell} {PB : Bool → List Cell → Prop} {pos p : Pos}
/-- isinstance(x, T), T a built-in type by its name -/
theorem de_isi {n T : String} {x : Str} [Ty α n] {p1 p2 : Pos} {r : Bool} (hk : kitB n T = some r) (hm : X.mg "isinstance" = none) (hm2 : X.mg x = none) (hv : bootBuiltins x = some (.type T)) (h : DE X a δ μ fun (_ : α) μ1 => PB r μ1)
    (hg : Gl X "isinstance" := by rfl) (hg2 : Gl X x := by rfl) (hn2 : x ≠ "__name__" := by decide) (hdb2 : (x == ("__debug__" : Str)) = false := by decide)
    (he : starEach [a, .Name x p2] X.env = (false, eval a X.env) :: starEach [.Name x p2] X.env := by rfl) (he2 : starEach [.Name x p2] X.env = (false, eval (.Name x p2) X.env) :: starEach [] X.env := by rfl) (hpl : (backTo pos (starEach [.Name x p2] X.env)).any (·.1) = false := by rfl) :
    DE X (.Call (.Name "isinstance" p1) [a, .Name x p2] [] pos) δ μ PB :=
  of_pe (pe_callB call_isi hg hm (by decide +kernel) (pa_cons (cE_pe a) (pa_cons (pe_bltn (v := .ty T) hg2 hm2 hv rfl hn2 hdb2) pa_nil he2) he) (by decide) (by decide) he hpl) fun M σ H E Q q => h M σ H E _ fun x μ1 M1 v1 H1 p1 s1 hh1 r1 =>
    ⟨v1, .ty T, _, _, r, rfl, .ty T, Ty.ty r1, kit_ty hk, q r μ1 M1 _ H1 p1 s1 hh1 rfl⟩
theorem de_eqD [D : Deep α] (hu : X.A.units + 64 < cLine) (hD : D.n ≤ 64 := by decide) (h : DE X a δ μ fun (x : α) μ1 => DE X b δ μ1 fun (y : α) μ2 => ∀ r : Bool, (r = true ↔ x = y) → PB r μ2) : DE X (.Compare a [.Eq] [b] pos) δ μ PB :=
  of_pe (pe_cmpR (op_eqD hu) (cE_pe a) (cE_pe b) (nomark b)) (we2 h (fun x μ1 p => p) fun x μ1 y μ2 _ p2 M H v w hh r1 r2 Q k => by
    have s : ∀ x : α, SeqAt.shaped (D.d x) = true := fun x => by
      unfold SeqAt.shaped
      rw [(D.sh x).1, Bool.true_and]
      exact decide_eq_true (Nat.le_trans (D.sh x).2 hD)
    exact ⟨_, _, D.dp r1, D.dp r2, s x, s y, k _ μ2 M _ H (p2 _ (D.eq x y)) Ste.refl hh rfl⟩)
theorem dt_eqD [D : Deep α] (hu : X.A.units + 64 < cLine) (hD : D.n ≤ 64 := by decide) (h : DE X a δ μ fun (x : α) μ1 => DE X b δ μ1 fun (y : α) μ2 => ∀ r : Bool, (r = true ↔ x = y) → PB r μ2) : DT X (.Compare a [.Eq] [b] pos) δ μ PB :=
  of_pt (pt_cmpR (op_eqD hu) (cE_pe a) (cE_pe b) (nomark b)) (wt2 h (fun x μ1 p => p) fun x μ1 y μ2 _ p2 M H v w hh r1 r2 Q k => by
    have s : ∀ x : α, SeqAt.shaped (D.d x) = true := fun x => by
      unfold SeqAt.shaped
      rw [(D.sh x).1, Bool.true_and]
      exact decide_eq_true (Nat.le_trans (D.sh x).2 hD)
    exact ⟨_, _, D.dp r1, D.dp r2, s x, s y, k _ μ2 M H (p2 _ (D.eq x y)) Ste.refl hh⟩)
theorem dt_neD [D : Deep α] (hu : X.A.units + 64 < cLine) (hD : D.n ≤ 64 := by decide) (h : DE X a δ μ fun (x : α) μ1 => DE X b δ μ1 fun (y : α) μ2 => ∀ r : Bool, (r = true ↔ x ≠ y) → PB r μ2) : DT X (.Compare a [.NotEq] [b] pos) δ μ PB :=
  of_pt (pt_cmpR (op_neD hu) (cE_pe a) (cE_pe b) (nomark b)) (wt2 h (fun x μ1 p => p) fun x μ1 y μ2 _ p2 M H v w hh r1 r2 Q k => by
    have s : ∀ x : α, SeqAt.shaped (D.d x) = true := fun x => by
      unfold SeqAt.shaped
      rw [(D.sh x).1, Bool.true_and]
      exact decide_eq_true (Nat.le_trans (D.sh x).2 hD)
    refine ⟨_, _, D.dp r1, D.dp r2, s x, s y, k _ μ2 M H (p2 _ ?_) Ste.refl hh⟩
    have e := D.eq x y
    cases q : PyData.eqv (D.d x) (D.d y) with
    | true => simp [q] at e; simp [e]
    | false => simp [q] at e; simp [e])
theorem de_neD [D : Deep α] (hu : X.A.units + 64 < cLine) (hD : D.n ≤ 64 := by decide) (h : DE X a δ μ fun (x : α) μ1 => DE X b δ μ1 fun (y : α) μ2 => ∀ r : Bool, (r = true ↔ x ≠ y) → PB r μ2) : DE X (.Compare a [.NotEq] [b] pos) δ μ PB :=
  of_pe (pe_cmpR (op_neD hu) (cE_pe a) (cE_pe b) (nomark b)) (we2 h (fun x μ1 p => p) fun x μ1 y μ2 _ p2 M H v w hh r1 r2 Q k => by
    have s : ∀ x : α, SeqAt.shaped (D.d x) = true := fun x => by
      unfold SeqAt.shaped
      rw [(D.sh x).1, Bool.true_and]
      exact decide_eq_true (Nat.le_trans (D.sh x).2 hD)
    refine ⟨_, _, D.dp r1, D.dp r2, s x, s y, k _ μ2 M _ H (p2 _ ?_) Ste.refl hh rfl⟩
    have e := D.eq x y
    cases q : PyData.eqv (D.d x) (D.d y) with
    | true => simp [q] at e; simp [e]
    | false => simp [q] at e; simp [e])
theorem de_pow {P : Int → List Cell → Prop} (h : DE X a δ μ fun (x : Int) μ1 => DE X b δ μ1 fun (y : Int) μ2 => CPow x y ∧ P (x ^ y.toNat) μ2) : DE X (.BinOp a .Pow b pos) δ μ P :=
  de_op op_pow (h.mono fun x μ1 h => h.mono fun y μ2 p => ⟨_, p.2, iiC (g := fun i j => i ^ j.toNat) p.1⟩)
end
instance : Deep Int where
  d x := .int x
  dp h := by cases h; exact .int _
  n := 0
  sh x := ⟨rfl, Nat.le_refl _⟩
  eq x y := by show (x == y) = true ↔ _; simp
instance [Enc α] [Enc β] [A : Deep α] [B : Deep β] : Deep (α × β) where
  d x := .tuple [A.d x.1, B.d x.2]
  dp h := by
    obtain ⟨a, v1, v2, rfl, s, r1, r2⟩ := h
    exact .tup s (.cons (A.dp r1) (.cons (B.dp r2) .nil))
  n := max A.n B.n + 1
  sh x := by
    have a := A.sh x.1
    have b := B.sh x.2
    refine ⟨by show (PyData.canLay0 (A.d x.1) && (PyData.canLay0 (B.d x.2) && true)) = true; rw [a.1, b.1]; rfl, ?_⟩
    have h1 := a.2
    have h2 := b.2
    show max (PyData.depth (A.d x.1)) (max (PyData.depth (B.d x.2)) 0) + 1 ≤ max A.n B.n + 1
    omega
  eq x y := by
    show (PyData.eqv (A.d x.1) (A.d y.1) && (PyData.eqv (B.d x.2) (B.d y.2) && true)) = true ↔ _
    rw [Bool.and_true, Bool.and_eq_true, A.eq, B.eq]
    exact ⟨fun h => Prod.ext h.1 h.2, fun h => by rw [h]; exact ⟨rfl, rfl⟩⟩
end Dl
namespace Dl
open PySem PySem.Spec PyProof.Rows L2
/-! ### the jar of drawn numbers -/
/-- the jar: its list at j, the great numbers' list at g -/
def JarC (j g : Addr) : Cell where
  foot := [j, g]
  holds := fun K M H => j ≠ g ∧ ∃ (gs : List Int) (a b c : Int), H j = some (.lst [.ref g, .int a, .int b, .int c]) ∧ H g = some (.lst (gs.map V.int))
  mono := fun k h => by
    obtain ⟨ne, gs, a, b, c, h1, h2⟩ := h
    exact ⟨ne, gs, a, b, c, k _ _ h1 (.inl (by simp)), k _ _ h2 (.inl (by simp))⟩
  set := fun _ h => h
/-- a draw below many: any number from 0 on -/
def phDraw : Pm Int := fun as μ P => ∃ (j g : Addr) (many : Int), as = [sl (Ref.mk j), sl many] ∧ μ = [JarC j g] ∧ (0 < many ∧ many.natAbs.log2 < 9000) ∧ ∀ d : Int, 0 ≤ d → d < many → P d [JarC j g]
section
variable {P : Program} {w : World} {K : PySem.W.Frag} {mg : Str → Option Value} {base : Heap}
theorem jar_ste {M : AS} {H H' : Hp} {j g : Addr} (h : Holds K M [JarC j g] H) (gs : List Int) (a b c : Int) (hj : H' j = some (.lst [.ref g, .int a, .int b, .int c])) (hg : H' g = some (.lst (gs.map V.int))) (ne : j ≠ g) (k : ∀ b o, H b = some o → b ≠ j → b ≠ g → H' b = some o) :
    Ste M [JarC j g] H M [JarC j g] H' ∧ Holds K M [JarC j g] H' := by
  have fj : ∀ b, foots [JarC j g] b ↔ b = j ∨ b = g := fun b => by rw [foots_one]; show b ∈ [j, g] ↔ _; simp
  obtain ⟨_, gs0, a0, b0, c0, e1, e2⟩ := h.cell _ (List.mem_singleton.mpr rfl)
  have al : ∀ b, H b ≠ none → H' b ≠ none := fun b n => by
    by_cases h1 : b = j
    · rw [h1, hj]; exact fun z => nomatch z
    · by_cases h2 : b = g
      · rw [h2, hg]; exact fun z => nomatch z
      · cases e : H b with
        | none => exact absurd e n
        | some o => rw [k b o e h1 h2]; exact fun z => nomatch z
  refine ⟨⟨fun b o e cc => ?_, al, fun b z => .inl z, fun b z => .inl z, fun b z _ _ => z⟩, ⟨fun d hd => ?_, h.inM, fun b z => al b (h.al b z), h.dj⟩⟩
  · rcases cc with cc | cc
    · exact k b o e (fun z => cc ((fj b).mpr (.inl z))) (fun z => cc ((fj b).mpr (.inr z)))
    · refine k b o e (fun z => ?_) (fun z => ?_)
      · rw [z] at e; rw [e1] at e; cases e; exact cc.elim
      · rw [z] at e; rw [e2] at e; cases e; exact cc.elim
  · rw [List.mem_singleton.mp hd]
    exact ⟨ne, gs, a, b, c, hj, hg⟩
end
section
variable {X : Cx} {es : List Expr} {δ : List Slot} {μ : List Cell} {pos : Pos}
/-- [great, 0, mix, 0]: a jar is made -/
theorem de_jarLit {P : Ref → List Cell → Prop} (h : DA X es δ μ fun ss μ1 => ∃ (g : Addr) (gs : List Int) (a b c : Int), ss = [sl (Ref.mk g), sl a, sl b, sl c] ∧ μ1 = [lst g gs] ∧ ∀ j, P ⟨j⟩ [JarC j g]) : DE X (.List es pos) δ μ P :=
  of_pe (pe_lst (cA_pa es)) fun M σ H E Q q => h M σ H E _ fun ss μ1 M1 vs H1 p1 s1 hh1 r1 => by
    obtain ⟨g, gs, a, b, c, rfl, rfl, p⟩ := p1
    cases r1 with
    | cons r0 r1 => cases r1 with
      | cons ra r1 => cases r1 with
        | cons rb r1 => cases r1 with
          | cons rc r1 =>
            cases r1; cases r0; cases ra; cases rb; cases rc
            refine ⟨by show 4 ≤ sizeLine; decide, fun j hj => ?_⟩
            obtain ⟨ws, eg, rg⟩ := hh1.cell _ (List.mem_singleton.mpr rfl)
            have gj : g ≠ j := ne_of_none eg hj
            have ew : ws = gs.map V.int := by
              have : ∀ {ws : List V} {gs : List Int}, Paired (Enc.R X.K M1 H1) ws gs → ws = gs.map V.int := by
                intro ws gs r
                induction r with
                | nil => rfl
                | cons r t ih => cases r; rw [ih]; rfl
              exact this rg
            have mg : M1 g := hh1.inM g ⟨_, List.mem_singleton.mpr rfl, by show g ∈ [g]; simp⟩
            have fj : ∀ x, foots [JarC j g] x ↔ x = j ∨ x = g := fun x => by rw [foots_one]; show x ∈ [j, g] ↔ _; simp
            have al : ∀ x, H1 x ≠ none → upd H1 j (.lst [.ref g, .int a, .int b, .int c]) x ≠ none := fun x n => by
              by_cases e : x = j
              · rw [e, upd_same]; exact fun z => nomatch z
              · rw [upd_ne e]; exact n
            refine q ⟨j⟩ _ (fun x => M1 x ∨ x = j) _ _ (p j) (s1.trans ⟨fun x o e _ => by rw [upd_ne (ne_of_none e hj)]; exact e, al, fun x z => z.imp id fun e => by rw [e]; exact hj, fun x z => ?_, fun x z _ _ => .inl z⟩)
              ⟨fun d hd => ?_, fun x z => ?_, fun x z => ?_, List.pairwise_singleton _ _⟩ rfl
            · rcases (fj x).mp z with z | z
              · rw [z]; exact .inr hj
              · rw [z]; exact .inl ⟨_, List.mem_singleton.mpr rfl, by show g ∈ [g]; simp⟩
            · rw [List.mem_singleton.mp hd]
              exact ⟨gj.symm, gs, a, b, c, upd_same, by rw [upd_ne gj, eg, ew]⟩
            · rcases (fj x).mp z with z | z
              · exact .inr z
              · rw [z]; exact .inl mg
            · rcases z with z | z
              · exact al x (hh1.al x z)
              · rw [z, upd_same]; exact fun q => nomatch q
end
theorem un_of {A : Around} {k : Nat} (hr : Room k A) : A.units + 64 < cLine := hr.units
section
variable {X : Cx} {α β γ ρ : Type} [Enc α] [Enc β] [Enc γ] [Enc ρ] {e a b : Expr} {es : List Expr} {δ : List Slot} {μ : List Cell} {P : Int → List Cell → Prop} {PB : Bool → List Cell → Prop}
  {N B C : PN} {R : ρ → List Cell → Prop} {st : Stmt} {sts s1 s2 : List Stmt} {pos p : Pos}
theorem DS.mid (Mid : PN) (h : DS X st δ μ Mid R B C) (k : ∀ δ' μ', Mid δ' μ' → N δ' μ') : DS X st δ μ N R B C := h.mono k (fun _ _ h => h) (fun _ _ h => h) (fun _ _ h => h)
/-- // by a divisor of either sign, below 2 ^ 9000 -/
def CDivZ (_ j : Int) : Prop := j ≠ 0 ∧ j.natAbs.log2 < 9000
theorem op_fdivZ : OpR X (binaryOp .FloorDiv) (rI CDivZ fun i j => .int (i.fdiv j)) := opI fun _ _ _ _ _ _ _ hc q => floordiv_int hc.1 q (.inl (PyProof.noPylong_of_log2 hc.2))
theorem de_divZ (h : DE X a δ μ fun (x : Int) μ1 => DE X b δ μ1 fun (y : Int) μ2 => CDivZ x y ∧ P (x.fdiv y) μ2) : DE X (.BinOp a .FloorDiv b pos) δ μ P :=
  de_op op_fdivZ (h.mono fun x μ1 h => h.mono fun y μ2 p => ⟨_, p.2, iiC (g := fun i j => i.fdiv j) p.1⟩)
theorem de_shl (h : DE X a δ μ fun (x : Int) μ1 => DE X b δ μ1 fun (y : Int) μ2 => CShl x y ∧ P (x * 2 ^ y.toNat) μ2) : DE X (.BinOp a .LShift b pos) δ μ P :=
  de_op op_shlW (h.mono fun x μ1 h => h.mono fun y μ2 p => ⟨_, p.2, iiC (g := fun i j => i * 2 ^ j.toNat) p.1⟩)
theorem de_bits {apos : Pos} (h : DE X a δ μ fun (x : Int) μ1 => P (Builtin.Int.intBits x : Nat) μ1) (hbase : attributeBase a "bit_length" X.env (eval a X.env) = eval a X.env := by rfl) (hline : (apos.endLine == pos.line) = true := by rfl) :
    DE X (.Call (.Attribute a "bit_length" apos) [] [] pos) δ μ P :=
  of_pe (pe_bits (cE_pe a) hbase hline) fun M σ H E Q q => h M σ H E _ fun x μ1 M1 v1 H1 p1 s1 hh1 r1 => ⟨x, r1, q _ μ1 M1 _ H1 p1 s1 hh1 rfl⟩
def rIsqrt : List V → Hp → VK → Prop := fun vs H Q => ∃ a : Int, vs = [.int a] ∧ (0 ≤ a ∧ a.toNat.log2 / 30 + 1 ≤ 450) ∧ Q (.int ((Float64.isqrt a.toNat : Nat) : Int)) H
theorem cr_isqrt : CallR X (.builtin "math.isqrt") rIsqrt := by
  intro pins s σ H vs us Q I r h
  obtain ⟨a, rfl, ⟨h0, h1⟩, q⟩ := h
  cases r with
  | cons r1 r =>
    cases r
    obtain ⟨t, rfl⟩ := r1
    exact call_function_meets PySem.W.MGF.kind_isqrt PySem.W.MGF.plain_isqrt PySem.W.MGF.entry_isqrt (PySem.W.MGF.args_isqrt _) (PySem.W.mg_run_isqrt a t (by omega) (by omega) (by omega)).meets ⟨.int _, H, I.tok _, ⟨_, rfl⟩, q⟩
theorem de_isqrt {x : Str} (hm : X.mg x = some (.builtin "math.isqrt")) (h : DE X a δ μ fun (i : Int) μ1 => (0 ≤ i ∧ i.toNat.log2 / 30 + 1 ≤ 450) ∧ P ((Float64.isqrt i.toNat : Nat) : Int) μ1) (hg : Gl X x := by rfl) (hdb : (x == ("__debug__" : Str)) = false := by decide)
    (he : starEach [a] X.env = (false, eval a X.env) :: starEach [] X.env := by rfl) (hpl : (backTo pos (starEach [] X.env)).any (·.1) = false := by rfl) : DE X (.Call (.Name x p) [a] [] pos) δ μ P :=
  de_cbf cr_isqrt hm (da_cons (h.mono fun i μ1 q => da_nil ⟨_, q.2, fun M H vs r Q k => by
    cases r with
    | cons r1 r =>
      cases r
      cases r1
      exact ⟨i, rfl, q.1, k _ rfl⟩⟩) he) hg hdb he hpl
/-- x = y = e -/
theorem ds_set2 {A : Enc α} {i j : Nat} {x y : Str} {px py : Pos} (hN : X.N.Nodup) (h : @DE X α A e δ μ fun v μ' => N ((δ.set i (.val A v)).set j (.val A v)) μ') (hi : X.N[i]? = some x := by rfl) (hj : X.N[j]? = some y := by rfl)
    (hx : Loc X.env.scope x := by first | exact Or.inl rfl | exact Or.inr rfl) (hy : Loc X.env.scope y := by first | exact Or.inl rfl | exact Or.inr rfl)
    (hf : X.fn x = true ∨ X.env.scope.names.lookup x = some .local := by first | exact .inl rfl | exact .inr rfl) (hf2 : X.fn y = true ∨ X.env.scope.names.lookup y = some .local := by first | exact .inl rfl | exact .inr rfl)
    (ha : (assignEach [.Name x px, .Name y py] X.env).map (·.2) = [assign (.Name x px) X.env, assign (.Name y py) X.env] := by rfl) (hw : swappedStores [.Name x px, .Name y py] e X.env = pure none := by rfl) :
    DS X (.Assign [.Name x px, .Name y py] e pos) δ μ N R B C :=
  of_ps (ps_asg2 (cE_pe e) (pg_name (i := i) hN hi hx hf) (pg_name (i := j) hN hj hy hf2) ha hw) fun M σ H E D n r b c => h M σ H E _ fun v μ' M' w H' p s hh rr => n _ μ' M' _ H' p s (((E.step s hh).put (s := .val A v) rr).put (s := .val A v) rr)
/-- x, y = e, e a tuple of two -/
theorem ds_unpack2 {A : Enc α} {A2 : Enc β} {i j : Nat} {x y : Str} {px py pt : Pos} {kt : _} (hc : X.calm = true) (hN : X.N.Nodup) (h : @DE X (α × β) (@instEncProd α β A A2) e δ μ fun v μ' => N ((δ.set i (.val A v.1)).set j (.val A2 v.2)) μ')
    (hs : swapsWithSole [.Tuple [.Name x px, .Name y py] kt pt] e pos.line X.env = pure false := by rfl) (hw : swappedStores [.Tuple [.Name x px, .Name y py] kt pt] e X.env = pure none := by rfl)
    (h1 : (assignEach [.Tuple [.Name x px, .Name y py] kt pt] X.env).map (·.2) = [assign (.Tuple [.Name x px, .Name y py] kt pt) X.env] := by rfl)
    (hi : X.N[i]? = some x := by rfl) (hj : X.N[j]? = some y := by rfl)
    (hx : Loc X.env.scope x := by first | exact Or.inl rfl | exact Or.inr rfl) (hy : Loc X.env.scope y := by first | exact Or.inl rfl | exact Or.inr rfl)
    (hf : X.fn x = true ∨ X.env.scope.names.lookup x = some .local := by first | exact .inl rfl | exact .inr rfl) (hf2 : X.fn y = true ∨ X.env.scope.names.lookup y = some .local := by first | exact .inl rfl | exact .inr rfl)
    (hn : (assignEach [.Name x px, .Name y py] X.env).length = 2 := by rfl) (hst : (assignEach [.Name x px, .Name y py] X.env).findIdx? (·.1) = none := by rfl)
    (hs1 : (assignEach [.Name x px, .Name y py] X.env).map (·.2) = assign (.Name x px) X.env :: (assignEach [.Name y py] X.env).map (·.2) := by rfl) (hs2 : (assignEach [.Name y py] X.env).map (·.2) = assign (.Name y py) X.env :: (assignEach [] X.env).map (·.2) := by rfl) :
    DS X (.Assign [.Tuple [.Name x px, .Name y py] kt pt] e pos) δ μ N R B C :=
  of_ps (ps_asg (cE_pe e) (pg_tup hc (pgs_cons (pg_name (i := i) hN hi hx hf) (pgs_cons (pg_name (i := j) hN hj hy hf2) pgs_nil hs2) hs1) hn hst) hs hw h1) fun M σ H E D n r b c => h M σ H E _ fun v μ' M' w H' p s hh rr =>
    (wg_pair (A := A) (B := A2)).run M' μ' σ H' w (E.step s hh) rr _ fun σ' E' => n _ μ' M' σ' H' p s E'
/-- a module's constant that is an int -/
theorem de_globI {x : Str} {i : Int} {t : Tok} {pos : Pos} (hm : X.mg x = some (.int i t)) (q : P i μ) (hg : Gl X x := by rfl) (hd : (x == ("__debug__" : Str)) = false := by decide) : DE X (.Name x pos) δ μ P :=
  de_c (pe_glob (v := .int i) hg hm ⟨t, rfl⟩ hd) (fun _ _ _ => rfl) q
end
end Dl
namespace Dl
open PySem PySem.Spec PyProof.Rows L2
/-! ### the script -/
structure Scr where
  l : List Int
instance : Enc Scr where
  R K M H v x := ∃ a, v = .ref a ∧ ((∃ o, H a = some (.frz o (.lst (x.l.map V.int)))) ∨ ∀ H, SqL K H a (x.l.map V.int))
  mono k h := by
    obtain ⟨a, e, s⟩ := h
    exact ⟨a, e, s.imp (fun ⟨o, s⟩ => ⟨o, k _ _ s (.inr trivial)⟩) id⟩
  set k h := h
theorem scr_sq {K : PySem.W.Frag} {H : Hp} {a : Addr} {xs : List V} (h : (∃ o, H a = some (.frz o (.lst xs))) ∨ ∀ H, SqL K H a xs) : SqL K H a xs := h.elim (fun ⟨o, s⟩ => .inl (.inr ⟨o, s⟩)) fun s => s H
theorem scr_of {K : PySem.W.Frag} {M : AS} {H : Hp} {a : Addr} {ns : List Int} (hO : Only H) (h : SqL K H a (ns.map V.int)) : Enc.R K M H (.ref a) (Scr.mk ns) := by
  refine ⟨a, rfl, ?_⟩
  rcases h with (h | h) | h
  · rcases hO a with e | ⟨o, xs, e⟩
    · rw [e] at h; cases h
    · rw [e] at h; cases h
  · exact .inl h
  · exact .inr fun _ => .inr h
theorem paired_ints {K : PySem.W.Frag} {M : AS} {H : Hp} : ∀ xs : List Int, Paired (Enc.R K M H) (xs.map V.int) xs
  | [] => .nil
  | x :: xs => .cons rfl (paired_ints xs)
theorem cut_to (xs : List V) (n : Nat) : cutV xs none (some (n : Int)) = xs.take n := by
  unfold cutV
  rw [HT.sIx_none, HT.sIx_nat, List.drop_zero, Nat.sub_zero]
  rcases Nat.le_total n xs.length with h | h
  · rw [Nat.min_eq_left h]
  · rw [Nat.min_eq_right h, List.take_of_length_le (Nat.le_refl _), List.take_of_length_le h]
section
variable {X : Cx} {a : Expr} {δ : List Slot} {μ : List Cell} {pos p2 p3 : Pos} {j : _}
theorem de_sliceScr {n : Nat} {P : List Int → List Cell → Prop} (h : DE X a δ μ fun (x : Scr) μ1 => P (x.l.take n) μ1) : DE X (.Subscript a (.Slice none (some (.Constant (.int (n : Int)) j p3)) none p2) pos) δ μ P :=
  of_pe (pe_slice sl_list (cE_pe a) po_none (po_some pe_int)) fun M σ H E Q q => h M σ H E _ fun x μ1 M1 v1 H1 p1 s1 hh1 r1 => by
    obtain ⟨ad, rfl, s⟩ := r1
    refine ⟨(n : Int), rfl, ad, _, rfl, scr_sq s, fun p' hp => ?_⟩
    have s3 := foot_alloc hh1 hp (.lst (cutV (x.l.map V.int) none (some (n : Int))))
    refine q _ μ1 M1 _ _ p1 (s1.trans s3) (hh1.alloc hp _) ⟨p', _, rfl, fun z => hh1.al _ z hp, .inl upd_same, ?_⟩
    rw [cut_to, ← List.map_take]
    exact paired_ints _
end
/-- the law's own promise: a script in, True out -/
def phLaw : Pm Bool := fun as μ P => ∃ s : Scr, as = [sl s] ∧ μ = [] ∧ ∀ μ', P true μ'
theorem law_end {K : PySem.W.Frag} {H : Hp} {a : Addr} {ns : List Int} {E : XK} (hO : Only H) (h : SqL K H a (ns.map V.int)) : spO K phLaw [.ref a] H (fun v _ => v = .bl true) E :=
  ⟨fun _ => False, [], [sl (Scr.mk ns)], fun x _ => x = true, ⟨fun _ h => (nomatch h), fun _ ⟨_, h, _⟩ => (nomatch h), fun _ h => h.elim, .nil⟩, .cons (scr_of hO h) .nil, ⟨_, rfl, rfl, fun _ => rfl⟩, fun x μ' M' v H' e s h r => by
    cases e
    exact r⟩
/-! ### defs by what stands behind the top -/
/-- a def that may be called: its promise, where it stands, how its arguments bind -/
structure Cal (P : Program) (w : World) (K : PySem.W.Frag) (mg : Str → Option Value) (base : Heap) (x : Str) (k : Nat) (ps : List Str) {ρ : Type} [Enc ρ] (Φ : Pm ρ) : Prop where
  ex : ∃ (f : Addr) (fd : FuncData), FnOk P w K mg base CX0 k f fd ps (spO K Φ) ∧ mg x = some (.ref f) ∧ PySem.W.keepIn K (.ref f) = true ∧ Binds K fd ps []
/-- a def of the text: not yet proved -/
structure Dfn (K : PySem.W.Frag) (mg : Str → Option Value) (x : Str) (st : Stmt) (ps : List Str) : Prop where
  ex : ∃ (f : Addr) (fd : FuncData) (dvs : List V), FunD K x x (defArgs st) (defBody st) (defScope st) dvs [] f fd ∧ mg x = some (.ref f) ∧ Binds K fd ps []
section
variable {P : Program} {w : World} {K : PySem.W.Frag} {mg : Str → Option Value} {base : Heap} {ρ : Type} [Enc ρ] {x : Str} {st : Stmt} {ps N : List Str} {Φ : Pm ρ} {k : Nat}
abbrev cxD (P : Program) (w : World) (K : PySem.W.Frag) (mg : Str → Option Value) (base : Heap) (N : List Str) (qual : Str) (st : Stmt) (f : Addr) (cdv : Value) (A : Around) (outer : List Env) (s : Shared) (H : Hp) (E : XK) : Cx := (cxOf CX0 P w K mg base N qual (defScope st) f cdv A outer s H E).nox
theorem fnD_ok {dvs : List V} {f : Addr} {fd : FuncData} (F : FunD K x x (defArgs st) (defBody st) (defScope st) dvs [] f fd) (S : FnScope N ps (defScope st)) (len : ∀ as μ P, Φ as μ P → as.length = ps.length)
    (h : ∀ (f : Addr) (cdv : Value) (A : Around) (outer : List Env) (s : Shared) (H : Hp) (E : XK), Room k (A.deeper (envOfC x (defScope st) s.heap.objs.size f cdv)) → ∀ as μ Pd, Φ as μ Pd →
      DB (cxD P w K mg base N x st f cdv A outer s H E) (defBody st) (as ++ List.replicate (N.length - as.length) .any) μ (fun _ μ' => ∃ x : ρ, (∀ K M H, Enc.R K M H .non x) ∧ Pd x μ') Pd (fun _ _ => False) (fun _ _ => False)) :
    FnOk P w K mg base CX0 (k + 1) f fd ps (spO K Φ) := by
  refine F.ok S (fun vs H Q E h => ?_) (fun cdv A outer s H vs Q E hr hsp => ?_)
  · obtain ⟨M, μ, as, Pd, _, r, hp, _⟩ := h
    rw [r.length]; exact len _ _ _ hp
  · obtain ⟨M, μ, as, Pd, hh, r, hp, q⟩ := hsp
    refine ⟨_, (cSs_pss _).nox, h f cdv A outer s H E hr as μ Pd hp M _ H (start_ok hh r) _ (fun δ' μ' M' σ' H' n s' E' => ?_) q (fun _ _ _ _ _ z => z.elim) (fun _ _ _ _ _ z => z.elim)⟩
    obtain ⟨x, hx, p⟩ := n
    exact q x μ' M' .non H' p s' E'.h (hx _ _ _)
theorem Dfn.cal (D : Dfn K mg x st ps) (S : FnScope N ps (defScope st)) (len : ∀ as μ P, Φ as μ P → as.length = ps.length)
    (h : ∀ (f : Addr) (cdv : Value) (A : Around) (outer : List Env) (s : Shared) (H : Hp) (E : XK), Room k (A.deeper (envOfC x (defScope st) s.heap.objs.size f cdv)) → ∀ as μ Pd, Φ as μ Pd →
      DB (cxD P w K mg base N x st f cdv A outer s H E) (defBody st) (as ++ List.replicate (N.length - as.length) .any) μ (fun _ μ' => ∃ x : ρ, (∀ K M H, Enc.R K M H .non x) ∧ Pd x μ') Pd (fun _ _ => False) (fun _ _ => False)) :
    Cal P w K mg base x (k + 1) ps Φ := by
  obtain ⟨f, fd, dvs, F, hm, hb⟩ := D.ex
  exact ⟨f, fd, fnD_ok F S len h, hm, F.kp, hb⟩
theorem Cal.mono {j : Nat} (c : Cal P w K mg base x k ps Φ) (h : k ≤ j) : Cal P w K mg base x j ps Φ := by
  obtain ⟨f, fd, F, r⟩ := c.ex
  exact ⟨f, fd, F.mono h, r⟩
end
section
variable {X : Cx} {ρ : Type} [Enc ρ] {e : Expr} {es : List Expr} {δ : List Slot} {μ : List Cell} {P : ρ → List Cell → Prop} {k : Nat} {ps : List Str} {Φ : Pm ρ} {x : Str} {p pos : Pos}
theorem de_c1 (c : Cal X.prog X.w X.K X.mg X.base x k ps Φ) {k' : Nat} (hr : Room k' X.A) (hk : k ≤ k')
    (h : DA X (e :: es) δ μ fun as μ1 => ∃ μc μr, Parts μ1 μc μr ∧ Φ as μc fun y μ' => P y (μ' ++ μr)) (hg : Gl X x := by rfl) (hdb : (x == ("__debug__" : Str)) = false := by decide)
    (he : starEach (e :: es) X.env = (false, eval e X.env) :: starEach es X.env := by rfl) (hpl : (backTo pos (starEach es X.env)).any (·.1) = false := by rfl) : DE X (.Call (.Name x p) (e :: es) [] pos) δ μ P := by
  obtain ⟨f, fd, F, hm, hkp, hb⟩ := c.ex
  exact de_call F (hr.mono hk) hm hkp hb h hg hdb he hpl
end
end Dl
namespace Dl
open PySem PySem.Spec PyProof.Rows L2 He
/-! ### the facts of a top: built-in functions by name too -/
def obsZ (bi : List (Str × String)) (fa : List Fa) (fn : List DefD) (K : PySem.W.Frag) : AlD := ((bi.all fun q => eqO (PySem.W.nsIn K mainGlobals q.1) (some (some (.builtin q.2)))) && (obsD fa fn K).1, (obsD fa fn K).2)
def SaysZ (bi : List (Str × String)) (fa : List Fa) (fn : List DefD) (K : PySem.W.Frag) : Prop := obsZ bi fa fn K = valD fn
def obsZG (n : Nat) (bi : List (Str × String)) (fa : List Fa) (fn : List DefD) (g : Addr → Option Obj) : AlD := obsZ bi fa fn (frG g (asD g n))
def hookZ (n : Nat) (bi : List (Str × String)) (fa : List Fa) (fn : List DefD) : PySem.W.Hook where
  α := AlD
  obs := fun s => obsZG n bi fa fn s.heap.get?
  val := fun _ => valD fn
  says := fun _ h => ∃ K : PySem.W.Frag, K.In h ∧ SaysZ bi fa fn K
  of := fun _ _ e => ⟨_, frG_in, e⟩
  keeps := fun _ _ _ ⟨K, hK, c⟩ k => ⟨K, PySem.W.Frag.In.keeps hK k, c⟩
theorem obsZG_eq {n : Nat} {bi : List (Str × String)} {fa : List Fa} {fn : List DefD} {g : Addr → Option Obj} {s : Shared} (h : ∀ a, g a = s.heap.get? a) : obsZG n bi fa fn g = (hookZ n bi fa fn).obs s := by
  have e : g = s.heap.get? := funext h
  rw [e] <;> rfl
section
variable {bi : List (Str × String)} {fa : List Fa} {fn : List DefD} {K : PySem.W.Frag}
theorem SaysZ.saysD (c : SaysZ bi fa fn K) : SaysD fa fn K := by
  have h1 : ((bi.all fun q => eqO (PySem.W.nsIn K mainGlobals q.1) (some (some (.builtin q.2)))) && (obsD fa fn K).1) = true := congrArg (fun z : AlD => z.1) c
  have h2 : (obsD fa fn K).2 = fn.map DefD.val := congrArg (fun z : AlD => z.2) c
  exact Prod.ext (ba h1).2 h2
theorem SaysZ.blt (c : SaysZ bi fa fn K) (i : Nat) {q : Str × String} (h : bi[i]? = some q := by rfl) : PySem.W.nsIn K mainGlobals q.1 = some (some (.builtin q.2)) := by
  have h1 : ((bi.all fun q => eqO (PySem.W.nsIn K mainGlobals q.1) (some (some (.builtin q.2)))) && (obsD fa fn K).1) = true := congrArg (fun z : AlD => z.1) c
  exact eqO_ok (List.all_eq_true.mp (ba h1).1 q (List.mem_of_getElem? h))
end
end Dl
namespace Dl
open PySem PySem.Spec PyProof.Rows L2
/-! ### keys: tuples of texts, whole numbers and pairs of these -/
inductive Elt where
  | s (x : Str)
  | i (n : Int)
  | p (a b : Int)
  deriving DecidableEq
section
variable (P : Program) (w : World)
def eltIs (h : Heap) : Elt → Value → Prop
  | .s x, v => PyData.strOk x = true ∧ ∃ t, v = .str x t
  | .i n, v => ∃ t, v = .int n t
  | .p a b, v => ∃ c, v = .ref c ∧ IsTupleKey (mixKind P w) h [.inl a, .inl b] c
def nkIs (h : Heap) (ks : List Elt) (a : Addr) : Prop := ∃ o items n, h.get? a = some o ∧ o.cls = .type "tuple" ∧ o.data = .seq items n ∧ Paired (eltIs P w h) ks items.toList
def eltD : Elt → PyData
  | .s x => .str x
  | .i n => .int n
  | .p a b => .tuple [.int a, .int b]
def nkD (ks : List Elt) : PyData := .tuple (ks.map eltD)
def eltHash : Elt → Int
  | .s x => (mixKind P w).hash (.inr x)
  | .i n => (mixKind P w).hash (.inl n)
  | .p a b => tupleKeyHash (mixKind P w) [.inl a, .inl b]
def eltDr : Elt → Nat
  | .s _ => 1
  | .i _ => 1
  | .p _ _ => 3
def nkDr (ks : List Elt) : Nat := (ks.map eltDr).sum + 1
def nkHash (ks : List Elt) : Int := reduceHash (Builtin.Tuple.tupleHashOf (ks.map (eltHash P w)))
end
theorem eltD_inj {a b : Elt} (h : eltD a = eltD b) : a = b := by
  cases a <;> cases b <;> simp_all [eltD]
theorem eltDs_inj : ∀ {a b : List Elt}, a.map eltD = b.map eltD → a = b
  | [], [], _ => rfl
  | [], _ :: _, e => by simp at e
  | _ :: _, [], e => by simp at e
  | x :: xs, y :: ys, e => by
    rw [List.map_cons, List.map_cons] at e
    injection e with e1 e2
    rw [eltD_inj e1, eltDs_inj e2]
section
variable {P : Program} {w : World} {h : Heap}
theorem pairIs {a b : Int} {c : Addr} (x : IsTupleKey (mixKind P w) h [.inl a, .inl b] c) : ∃ o items n t u, h.get? c = some o ∧ o.cls = .type "tuple" ∧ o.data = .seq items n ∧ items.toList = [.int a t, .int b u] := by
  obtain ⟨o, items, n, h1, h2, h3, h4⟩ := x
  obtain ⟨its, e⟩ : ∃ its, its = items.toList := ⟨_, rfl⟩
  rw [← e] at h4
  cases h4 with
  | cons k1 h4 =>
    cases h4 with
    | cons k2 h4 =>
      cases h4
      rw [mixKind_is] at k1 k2
      rcases keyIs_shape k1 with ⟨i, t, e1, rfl⟩ | ⟨_, _, e1, _⟩
      · rcases keyIs_shape k2 with ⟨j, u, e2, rfl⟩ | ⟨_, _, e2, _⟩
        · cases e1; cases e2
          exact ⟨o, items, n, t, u, h1, h2, h3, e.symm⟩
        · exact nomatch e2
      · exact nomatch e1
theorem elt_reads : ∀ {e : Elt} {v : Value}, eltIs P w h e v → ∃ as, Reads h v (eltD e) as
  | .s x, v, q => by obtain ⟨_, t, rfl⟩ := q; exact ⟨[], .str x t⟩
  | .i n, v, q => by obtain ⟨t, rfl⟩ := q; exact ⟨[], .int n t⟩
  | .p a b, v, q => by
    obtain ⟨c, rfl, q⟩ := q
    obtain ⟨o, items, n, t, u, h1, h2, h3, h4⟩ := pairIs q
    have r : ReadsAll h items.toList [.int a, .int b] ([] ++ ([] ++ [])) := by
      rw [h4]
      exact .cons (.int a t) (.cons (.int b u) .nil)
    exact ⟨_, .tuple h1 h2 h3 r⟩
theorem elts_reads : ∀ {ks : List Elt} {vs : List Value}, Paired (eltIs P w h) ks vs → ∃ as, ReadsAll h vs (ks.map eltD) as
  | _, _, .nil => ⟨[], .nil⟩
  | _, _, .cons q t => by
    obtain ⟨as, r⟩ := elt_reads q
    obtain ⟨bs, rs⟩ := elts_reads t
    exact ⟨_, .cons r rs⟩
theorem nk_reads {ks : List Elt} {a : Addr} (x : nkIs P w h ks a) : ∃ as, Reads h (.ref a) (nkD ks) as := by
  obtain ⟨o, items, n, h1, h2, h3, h4⟩ := x
  obtain ⟨as, r⟩ := elts_reads h4
  exact ⟨_, .tuple h1 h2 h3 r⟩
theorem elt_lay {e : Elt} {v : Value} (q : eltIs P w h e v) : (eltD e).canLay0 = true := by
  cases e with
  | s x => simpa [eltD, PyData.canLay0] using q.1
  | i n => rfl
  | p a b => rfl
theorem elts_lay : ∀ {ks : List Elt} {vs : List Value}, Paired (eltIs P w h) ks vs → PyData.canLayAll0 (ks.map eltD) = true
  | _, _, .nil => rfl
  | _, _, .cons q t => by rw [List.map_cons, PyData.canLayAll0, elt_lay q, elts_lay t]; rfl
theorem nk_lay {ks : List Elt} {a : Addr} (x : nkIs P w h ks a) : (nkD ks).canLay0 = true := by
  obtain ⟨o, items, n, h1, h2, h3, h4⟩ := x
  rw [nkD, PyData.canLay0]
  exact elts_lay h4
theorem elt_depth (e : Elt) : (eltD e).depth ≤ 1 := by
  cases e <;> simp [eltD, PyData.depth, PyData.depthAll]
theorem elts_depth : ∀ ks : List Elt, PyData.depthAll (ks.map eltD) ≤ 1
  | [] => by simp [PyData.depthAll]
  | k :: ks => by
    have h1 := elt_depth k
    have h2 := elts_depth ks
    rw [List.map_cons, PyData.depthAll]
    omega
theorem nk_depth (ks : List Elt) : (nkD ks).depth ≤ 2 := by
  have h1 := elts_depth ks
  rw [nkD, PyData.depth]
  omega
theorem nk_inj {a : Addr} {x y : List Elt} (hx : nkIs P w h x a) (hy : nkIs P w h y a) : x = y := by
  obtain ⟨as, r⟩ := nk_reads hx
  obtain ⟨bs, r'⟩ := nk_reads hy
  have e := SeqAt.Reads.unique _ _ _ _ _ (nk_lay hx) r r'
  unfold nkD at e
  injection e with e
  exact eltDs_inj e
theorem elt_eqv (a b : Elt) : PyData.eqv (eltD a) (eltD b) = decide (a = b) := by
  cases a <;> cases b <;> simp [eltD, PyData.eqv, PyData.eqvAll, Bool.decide_and] <;> rfl
theorem elts_eqv : ∀ a b : List Elt, PyData.eqvAll (a.map eltD) (b.map eltD) = decide (a = b)
  | [], [] => rfl
  | [], _ :: _ => by simp [PyData.eqvAll]
  | _ :: _, [] => by simp [PyData.eqvAll]
  | x :: xs, y :: ys => by
    rw [List.map_cons, List.map_cons, PyData.eqvAll, elt_eqv, elts_eqv xs ys]
    simp [Bool.decide_and]
theorem nk_eqv (a b : List Elt) : PyData.eqv (nkD a) (nkD b) = decide (a = b) := by
  rw [nkD, nkD, PyData.eqv]
  exact elts_eqv a b
theorem elt_keeps {h' : Heap} {d : Addr} {o : Obj} {es ep} {e : Elt} {v : Value} (x : eltIs P w h e v) (ho : h.get? d = some o) (hd : o.data = .dict es ep) (hs : Heap.SameBut d h h') : eltIs P w h' e v := by
  cases e with
  | s x' => exact x
  | i n => exact x
  | p a b => obtain ⟨c, rfl, q⟩ := x; exact ⟨c, rfl, q.keeps ho hd hs⟩
theorem nk_keeps {h' : Heap} {ks : List Elt} {a d : Addr} {o : Obj} {es ep} (x : nkIs P w h ks a) (ho : h.get? d = some o) (hd : o.data = .dict es ep) (hs : Heap.SameBut d h h') : nkIs P w h' ks a := by
  obtain ⟨o', items, n, h1, h2, h3, h4⟩ := x
  have hne : a ≠ d := by
    rintro rfl
    obtain rfl : o' = o := Option.some.inj (h1.symm.trans ho)
    rw [hd] at h3; exact nomatch h3
  exact ⟨o', items, n, (hs.2 a hne).trans h1, h2, h3, Paired.mapP h4 fun _ _ q => elt_keeps q ho hd hs⟩
variable {A : Around} {E : Value → Shared → Prop} {s : Shared}
theorem elt_hash {e : Elt} {v : Value} {Q : Int → Shared → Prop} (hu : A.units < cLine) (q : eltIs P w s.heap e v) (k : Q (eltHash P w e) { s with toks := s.toks + eltDr e }) : wpAny (model P w) A (pyHash v) Q E s := by
  cases e with
  | s x => obtain ⟨_, t, rfl⟩ := q; exact (mixKind P w).pyHash (mixKind_str P w x t) k
  | i n => obtain ⟨t, rfl⟩ := q; exact (mixKind P w).pyHash (mixKind_int P w n t) k
  | p a b => obtain ⟨c, rfl, q⟩ := q; exact wpAny_pyHash_tuple hu q k
theorem elt_quiet {n : Nat} {e : Elt} {v : Value} {Q : Bool → Shared → Prop} (q : eltIs P w s.heap e v) (k : Q true s) : wpAny (model P w) A (eqIsQuiet (n + 1) v) Q E s := by
  cases e with
  | s x => obtain ⟨_, t, rfl⟩ := q; rw [eqIsQuiet_byValue _ rfl]; exact wpAny_pure k
  | i n => obtain ⟨t, rfl⟩ := q; rw [eqIsQuiet_byValue _ rfl]; exact wpAny_pure k
  | p a b =>
    obtain ⟨c, rfl, q⟩ := q
    have hT := q.typeIs
    obtain ⟨o, items, m, t, u, ho, hc, hd, hi⟩ := pairIs q
    unfold eqIsQuiet
    refine wpAny_bind (wpAny_specialOf hT F.slot_tuple_eq.lookup ?_)
    show wpAny _ _ (isInstance (.ref c) (.type "tuple") >>= _) _ _ s
    refine wpAny_bind (wpAny_isInstance hT isSubtype_tuple_tuple ?_)
    simp only [Bool.not_true, Bool.false_eq_true, if_false]
    refine wpAny_bind (wpAny_seqItems ho hd ?_)
    refine wpAny_bind ?_
    show wpAny _ _ (forIn items _ _) _ _ s
    rw [← Array.forIn_toList]
    refine wpAny_forIn_list _ (fun rest r s' => r.1 = none ∧ s' = s ∧ ∀ v ∈ rest, carriedByValue v = true) _ ?_ ?_ _ _ ⟨rfl, rfl, fun v hv => ?_⟩
    · rintro v rest r s' ⟨hr, rfl, hall⟩
      rw [eqIsQuiet_byValue _ (hall v List.mem_cons_self)]
      refine wpAny_bind (wpAny_pure ?_)
      simp only [Bool.not_true, Bool.false_eq_true, if_false]
      exact wpAny_pure ⟨rfl, rfl, fun u hu' => hall u (List.mem_cons_of_mem _ hu')⟩
    · rintro ⟨r1, r2⟩ s' ⟨hr, rfl, _⟩
      simp only at hr
      subst hr
      exact wpAny_pure k
    · rw [hi] at hv
      rcases List.mem_cons.mp hv with rfl | hv
      · rfl
      · rw [List.mem_singleton.mp hv]; rfl
theorem nkIs.typeIs {ks : List Elt} {a : Addr} (x : nkIs P w s.heap ks a) : s.TypeIs (.ref a) "tuple" := let ⟨o, _, _, ho, hc, _⟩ := x; ⟨o, ho, hc⟩
theorem nk_quiet {ks : List Elt} {a : Addr} {Q : Bool → Shared → Prop} (hk : nkIs P w s.heap ks a) (k : Q true s) : wpAny (model P w) A (eqIsQuiet 8 (.ref a)) Q E s := by
  have hT := hk.typeIs
  obtain ⟨o, items, n, ho, _, hd, hi⟩ := hk
  unfold eqIsQuiet
  refine wpAny_bind (wpAny_specialOf hT F.slot_tuple_eq.lookup ?_)
  show wpAny _ _ (isInstance (.ref a) (.type "tuple") >>= _) _ _ s
  refine wpAny_bind (wpAny_isInstance hT isSubtype_tuple_tuple ?_)
  simp only [Bool.not_true, Bool.false_eq_true, if_false]
  refine wpAny_bind (wpAny_seqItems ho hd ?_)
  refine wpAny_bind ?_
  show wpAny _ _ (forIn items _ _) _ _ s
  rw [← Array.forIn_toList]
  refine wpAny_forIn_list _ (fun rest r s' => r.1 = none ∧ s' = s ∧ ∃ ks', Paired (eltIs P w s.heap) ks' rest) _ ?_ ?_ _ _ ⟨rfl, rfl, ks, hi⟩
  · rintro v rest r s' ⟨hr, rfl, ks', hall⟩
    cases hall with
    | cons q t =>
      refine wpAny_bind (elt_quiet q ?_)
      simp only [Bool.not_true, Bool.false_eq_true, if_false]
      exact wpAny_pure ⟨rfl, rfl, _, t⟩
  · rintro ⟨r1, r2⟩ s' ⟨hr, rfl, _⟩
    simp only at hr
    subst hr
    exact wpAny_pure k
theorem nk_hash {ks : List Elt} {a : Addr} {Q : Int → Shared → Prop} (hu : A.units + 2 < cLine) (hk : nkIs P w s.heap ks a) (h : Q (nkHash P w ks) { s with toks := s.toks + nkDr ks }) :
    wpAny (model P w) A (pyHash (.ref a)) Q E s := by
  have hT := hk.typeIs
  obtain ⟨o, items, n, ho, _, hd, hi⟩ := hk
  unfold pyHash
  first | unfold pyHashByItsType | skip
  first | refine wpAny_bind (wpAny_cRoomFor_or (.inr (by omega)) ?_) | skip
  refine wpAny_bind (wpAny_specialOf hT F.slot_tuple_hash.lookup ?_)
  show wpAny _ _ (if (some (Value.builtin "tuple.__hash__") == some Value.none) = true then _ else _) Q E s
  rw [if_neg (by rw [beq_builtin_none]; exact Bool.false_ne_true)]
  refine wpAny_bind (wpAny_specialOf hT F.slot_tuple_hash.lookup ?_)
  show wpAny _ _ (callSpecialIfBoundUnlessNone? (.ref a) "__hash__" _ >>= _) Q E s
  refine wpAny_bind (wpAny_callSpecialIfBoundUnlessNone?_slot hT F.slot_tuple_hash (wpAny_call_entry F.slot_tuple_hash hT F.entry_tuple_hash ?_ (F.args_tuple_hash_1 _)))
  show wpAny _ _ (Builtin.Tuple.tupleItemsOf (.ref a) >>= _) _ _ s
  refine wpAny_bind (wpAny_tupleItemsOf ho hd ?_)
  refine wpAny_bind ?_
  rw [← Array.forIn_toList]
  refine wpAny_forIn_list _
    (fun rest (b : Array Int) s' => ∃ done left, ks = done ++ left ∧ Paired (eltIs P w s.heap) left rest ∧ b.toList = done.map (eltHash P w) ∧ s' = { s with toks := s.toks + (done.map eltDr).sum })
    _ ?_ ?_ _ _ ⟨[], ks, rfl, hi, rfl, rfl⟩
  · rintro x rest b s' ⟨done, left, rfl, hl, hb, rfl⟩
    cases hl with
    | @cons k _ ks' _ h1 hl' =>
      refine wpAny_bind (elt_hash (show A.in1.units < cLine from (show A.units + 1 < cLine by omega)) h1 ?_)
      first
        | exact wpAny_pure ⟨done ++ [k], ks', by simp, hl', by simp [hb], by simp [Nat.add_assoc]⟩
        | exact wpAny_bind (wpAny_pure (wpAny_pure ⟨done ++ [k], ks', by simp, hl', by simp [hb], by simp [Nat.add_assoc]⟩))
  · rintro b s' ⟨done, left, rfl, hl, hb, rfl⟩
    cases hl
    rw [List.append_nil] at h
    show wpAny _ _ (retInt (Builtin.Tuple.tupleHashOf b.toList)) _ _ _
    rw [hb]
    refine wpAny_ret_mkInt ?_
    show wpAny _ _ (if (decide (-(2 : Int) ^ 63 ≤ Builtin.Tuple.tupleHashOf (done.map (eltHash P w))) && decide (Builtin.Tuple.tupleHashOf (done.map (eltHash P w)) < 2 ^ 63)) = true then _ else _) Q E _
    unfold nkHash reduceHash at h
    by_cases hr : (decide (-(2 : Int) ^ 63 ≤ Builtin.Tuple.tupleHashOf (done.map (eltHash P w))) && decide (Builtin.Tuple.tupleHashOf (done.map (eltHash P w)) < 2 ^ 63)) = true
    · rw [if_pos hr]
      rw [if_pos hr] at h
      exact wpAny_pure (by simpa [nkDr, Nat.add_assoc] using h)
    · rw [if_neg hr]
      rw [if_neg hr] at h
      exact wpAny_bind (wpAny_rule (wpAny_pure (by simpa [nkDr, Nat.add_assoc] using h)))
end
def nKind (P : Program) (w : World) : HeapKind P w (List Elt) where
  is := nkIs P w
  hash := nkHash P w
  draws := nkDr
  room := fun A => A.units + 2 < cLine
  inj := fun hx hy => nk_inj hx hy
  keeps := fun x ho hd hs => nk_keeps x ho hd hs
  pyHash := fun hu hk h => nk_hash hu hk h
  eqBool := fun hu hx hy h => by
    obtain ⟨as, r⟩ := nk_reads hx
    obtain ⟨bs, r'⟩ := nk_reads hy
    have q := SeqAt.eqAt_reads _ _ _ _ _ _ _ _ r r' (nk_lay hx) (nk_lay hy) (by have := nk_depth ‹_›; exact Nat.lt_of_le_of_lt (Nat.add_le_add_left (Nat.le_trans (Nat.min_le_left _ _) (nk_depth _)) _) hu)
    rw [nk_eqv] at q
    exact q _ _ _ _ h
  quiet := fun hk h => nk_quiet hk h
end Dl
namespace Dl
open PySem PySem.Spec PyProof.Rows L2
/-! ### generators: if and for -/
section
variable {M : Model} {A : Around} {R : GenEnd} {Y : Protocol} {n : Nat} {s₀ : Shared} {c : Code} {fs : List Frame} {s : Shared} {env : Env}
  {K : Flow → Sem PySem.Fin} {J : Value → Sem PySem.Fin} {gd : Bool → Bool} {lv : List Value → List Value}
theorem seg_If {test : Expr} {body orelse : List Stmt} {pos : Pos}
    (h : wpAny M (A.over c fs) (isTrue test env (eval test env)) (fun b s' => if b = true then Seg M A R Y n s₀ c ((execs body env).wrap K J gd lv) fs s' else Seg M A R Y n s₀ c ((execs orelse env).wrap K J gd lv) fs s')
      (fun x s' => Seg M A R Y n s₀ c (J x) fs s') s) :
    Seg M A R Y n s₀ c ((exec (.If test body orelse pos) env).wrap K J gd lv) fs s := by
  rw [exec_If]
  refine seg_at ?_
  show Seg M A R Y n s₀ c ((isTrue test env (eval test env) >>= fun b => if b = true then execs body env else execs orelse env).wrap K J gd lv) fs s
  rw [Sem.bind_eq_wrap', Sem.wrap_wrap]
  refine seg_wrap (wpAny_mono h (fun b s' h' => ?_) fun _ _ x => x)
  cases b with
  | true => exact (if_pos rfl ▸ h' : _)
  | false => exact (if_neg Bool.false_ne_true ▸ h' : _)
theorem seg_For {tg iter : Expr} {body orelse : List Stmt} {pos : Pos}
    (h : wpAny M (A.over c fs) (eval iter env) (fun x s1 => wpAny M (A.over c fs) (pyIter x) (fun it s2 => ∀ p, Seg M A R Y n s₀ (.forLoop tg it body orelse env) (M.den (.forLoop tg it body orelse env))
      (.ret (fun r => ((match r with | .ok f => (.pure f : Sem Flow) | .error e => .raise e).onRaise (cameBack env)).wrap K J gd lv) none (gd false) (lv []) c p [] :: fs) s2)
      (fun x s' => Seg M A R Y n s₀ c (J x) fs s') s1) (fun x s' => Seg M A R Y n s₀ c (J x) fs s') s)
    (hs : ∀ x, foldedSetIterable iter env x = pure x) :
    Seg M A R Y n s₀ c ((exec (.For tg iter body orelse pos) env).wrap K J gd lv) fs s := by
  rw [exec_For]
  refine seg_at ?_
  show Seg M A R Y n s₀ c ((eval iter env >>= fun x0 => (foldedSetIterable iter env x0 >>= fun x => (standAt iter.pos >>= fun _ => (holding [x] (pyIter x) >>= fun it => runOwn (.forLoop tg it body orelse env) env)))).wrap K J gd lv) fs s
  rw [Sem.bind_eq_wrap', Sem.wrap_wrap]
  refine seg_wrap (wpAny_mono h (fun x s1 h1 => ?_) fun _ _ x => x)
  show Seg M A R Y n s₀ c ((foldedSetIterable iter env x >>= fun x => (standAt iter.pos >>= fun _ => (holding [x] (pyIter x) >>= fun it => runOwn (.forLoop tg it body orelse env) env))).wrap K J gd lv) fs s1
  rw [hs x]
  show Seg M A R Y n s₀ c ((standAt iter.pos >>= fun _ => (holding [x] (pyIter x) >>= fun it => runOwn (.forLoop tg it body orelse env) env)).wrap K J gd lv) fs s1
  refine seg_at ?_
  show Seg M A R Y n s₀ c ((holding [x] (pyIter x) >>= fun it => runOwn (.forLoop tg it body orelse env) env).wrap K J gd lv) fs s1
  rw [Sem.bind_eq_wrap', Sem.wrap_wrap]
  refine seg_wrap (wpAny_holding (wpAny_mono h1 (fun it s2 h2 => ?_) fun _ _ x => x))
  exact seg_call h2
end
section
variable {prog : Program} {w : World} {A : Around} {R : GenEnd} {Y : Protocol} {n : Nat} {s₀ : Shared} {fs : List Frame} {s : Shared} {env : Env}
abbrev notedSeg (prog : Program) (w : World) (A : Around) (R : GenEnd) (Y : Protocol) (n : Nat) (s₀ : Shared) (c : Code) (fs : List Frame) (env : Env) (x : Value) (s' : Shared) : Prop :=
  Seg (model prog w) A R Y n s₀ c ((do noteFrame x env; theTreesLotGoes x : Sem Unit).wrap (fun _ => .raise x) .raise id id) fs s'
theorem seg_forLoop {tg : Expr} {it : Value} {body : List Stmt}
    (h : wpAny (model prog w) (A.over (.forLoop tg it body [] env) fs) (pyNext it) (fun r s1 => match r with
      | none => Seg (model prog w) A R Y n s₀ (.block [] env) ((model prog w).den (.block [] env)) fs s1
      | some v => wpAny (model prog w) (A.over (.forLoop tg it body [] env) fs) (letOwnedTupleGo tg it v) (fun _ s2 => wpAny (model prog w) (A.over (.forLoop tg it body [] env) fs) (assign tg env v) (fun _ s3 =>
          Seg (model prog w) A R Y n s₀ (.forLoop tg it body [] env) ((execs body env).wrap (fun f => match f with
            | .next | .cont => .pure (.again (.forLoop tg it body [] env))
            | .brk => .pure (.done .next)
            | .ret v => .pure (.done (.ret v))) (fun e => (do noteFrame e env; theTreesLotGoes e : Sem Unit).wrap (fun _ => .raise e) .raise id id) id id) fs s3)
          (notedSeg prog w A R Y n s₀ (.forLoop tg it body [] env) fs env) s2) (notedSeg prog w A R Y n s₀ (.forLoop tg it body [] env) fs env) s1)
      (notedSeg prog w A R Y n s₀ (.forLoop tg it body [] env) fs env) s) :
    Seg (model prog w) A R Y n s₀ (.forLoop tg it body [] env) ((model prog w).den (.forLoop tg it body [] env)) fs s := by
  show Seg _ A R Y n s₀ _ ((forTurn tg it body [] env).onRaise (fun x => do noteFrame x env; theTreesLotGoes x)) fs s
  have ex : ∀ x s', notedSeg prog w A R Y n s₀ (.forLoop tg it body [] env) fs env x s' → Seg (model prog w) A R Y n s₀ (.forLoop tg it body [] env) ((do noteFrame x env; theTreesLotGoes x : Sem Unit).bind fun _ => .raise x) fs s' := fun x s' hx => by
    rw [Sem.bind_eq_wrap]; exact hx
  unfold forTurn
  rw [Sem.onRaise_eq_wrap]
  refine seg_at ?_
  show Seg _ A R Y n s₀ _ (Sem.wrap _ _ _ _ ((pyNext it).onRaise _ >>= _)) fs s
  rw [Sem.bind_eq_wrap', Sem.wrap_wrap]
  refine seg_wrap (wpAny_onRaise (wpAny_mono h (fun r s1 h1 => ?_) fun x s' hx => wpAny_standAt (ex x s' hx)))
  cases r with
  | none => exact seg_again rfl h1
  | some v =>
    show Seg _ A R Y n s₀ _ (Sem.wrap _ _ _ _ (letOwnedTupleGo tg it v >>= _)) fs s1
    rw [Sem.bind_eq_wrap', Sem.wrap_wrap]
    refine seg_wrap (wpAny_mono h1 (fun _ s2 h2 => ?_) fun x s' hx => ex x s' hx)
    show Seg _ A R Y n s₀ _ (Sem.wrap _ _ _ _ (assign tg env v >>= _)) fs s2
    rw [Sem.bind_eq_wrap', Sem.wrap_wrap]
    refine seg_wrap (wpAny_mono h2 (fun _ s3 h3 => ?_) fun x s' hx => ex x s' hx)
    show Seg _ A R Y n s₀ _ (Sem.wrap _ _ _ _ (execs body env >>= _)) fs s3
    rw [Sem.bind_eq_wrap', Sem.wrap_wrap]
    rw [Sem.wrap_congr (execs body env) _ _ (K' := fun f => match f with
            | .next | .cont => .pure (.again (.forLoop tg it body [] env))
            | .brk => .pure (.done .next)
            | .ret v => .pure (.done (.ret v))) (H' := (fun e => (do noteFrame e env; theTreesLotGoes e : Sem Unit).wrap (fun _ => .raise e) .raise id id))
        (fun f => by cases f <;> rfl)
        (fun e => by first | exact Sem.bind_eq_wrap _ _ | (show (do noteFrame e env; theTreesLotGoes e : Sem Unit).bind (fun _ => .raise e) = _; rw [Sem.bind_eq_wrap]))]
    exact h3
theorem seg_block0 {c : Code} {env' : Env} (h : Seg (model prog w) A R Y n s₀ c (.pure (.done .next)) fs s) (hc : c = .block [] env') : Seg (model prog w) A R Y n s₀ (.block [] env') ((model prog w).den (.block [] env')) fs s := by
  subst hc
  exact h
end
section
variable {X : Cx} {st : Stmt} {rest : List Stmt} {pos : Pos}
def tGIf (c : TT) (t u : TGn) : TGn := fun D ys σ H => c σ H fun b H1 => if b = true then t D ys σ H1 else u D ys σ H1
theorem gs_if {c : Expr} {a b : List Stmt} {tc : TT} {t u : TGn} (hc : PT X c tc) (ha : GSs X a t) (hb : GSs X b u) : GS X (.If c a b pos) (tGIf tc t u) := by
  refine ⟨fun A S ip R n ys s₀ c fs K J gd lv s σ H D g hn k hI ht => ?_⟩
  obtain ⟨acc, cc, r, I⟩ := hI
  refine seg_If ?_
  rw [g.over]
  refine wpAny_mono (hc.run _ s σ H _ I ht) (fun b s' hb' => ?_) fun x s' hx => k.exc n s₀ x s' hx
  obtain ⟨H2, I2, q2⟩ := hb'
  cases b with
  | true => rw [if_pos rfl]; exact ha.run A S ip R n ys s₀ c fs K J gd lv s' σ H2 D g hn k ⟨acc, cc, r, I2⟩ q2
  | false => rw [if_neg Bool.false_ne_true]; exact hb.run A S ip R n ys s₀ c fs K J gd lv s' σ H2 D g hn k ⟨acc, cc, r, I2⟩ q2
def tGFor (wi : TI) (g : TG) (tb : TGn) : TGn := fun D ys σ H => wi σ H fun It H1 => ∃ W : Nat → Nat → List V → L2.St → Hp → Prop, (∃ m, W 0 m ys σ H1) ∧ ∀ i m ys σ H, W i m ys σ H →
  (It.stop i H ∧ D.nx ys σ H) ∨ (It.go i H ∧ ∃ N : List V → L2.St → Hp → Prop, (∀ ys' σ' H', N ys' σ' H' → ∃ m', m' < m ∧ W (i + 1) m' ys' σ' H') ∧ ∀ x H', It.yld i H x H' → g x σ H' fun σ2 H2 => tb { D with nx := N, ct := N, bk := D.nx } ys σ2 H2)
theorem gs_for {tg iter : Expr} {body : List Stmt} {wi : TI} {g : TG} {tb : TGn} (hp : PassesOwn (model X.prog X.w) X.A X.env X.xe) (hc : X.calm = true) (hi : PI X tg iter wi) (hg : PG X tg g) (hb : GSs X body tb)
    (hs : ∀ x, foldedSetIterable iter X.env x = pure x := by intro _; rfl) : GS X (.For tg iter body [] pos) (tGFor wi g tb) := by
  refine ⟨fun A S ip R n ys s₀ c fs K J gd lv s σ H D gc hn k hI ht => ?_⟩
  obtain ⟨acc, cc, r, I⟩ := hI
  refine seg_For ?_ hs
  rw [gc.over]
  refine wpAny_mono (hi.run _ s σ H _ I ht) (fun v s1 h1 => wpAny_mono h1 (fun itv s2 h2 => fun p => ?_) fun x s' hx => k.exc n s₀ x s' hx) fun x s' hx => k.exc n s₀ x s' hx
  obtain ⟨it, fp, tn, It, H2, e, I2, T, st2, f2, W, ⟨m0, w0⟩, turn⟩ := h2
  subst e
  have fS : ∀ b ∈ fp, b ≠ S := fun b hb z => (f2 b hb).2.2.2.2.2 (S, lstObj acc cc) (List.mem_append_right _ List.mem_cons_self) z.symm
  have stat : ∀ {H' : Hp} {acc' : Array Value} {c' : Nat}, (∀ b ∈ fp, H' b = none) → ∀ b ∈ fp, FpOk X ((S, lstObj acc' c') :: ip) H' b := fun {H' acc' c'} hn' b hb => by
    obtain ⟨_, q1, q2, q3, q4, q5⟩ := f2 b hb
    refine ⟨hn' b hb, q1, q2, q3, q4, fun p hp' => ?_⟩
    rcases List.mem_append.mp hp' with z | z
    · exact q5 p (List.mem_append_left _ z)
    · rcases List.mem_cons.mp z with z | z
      · rw [z]; exact fun e => fS b hb e.symm
      · exact q5 p (List.mem_append_right _ (List.mem_cons_of_mem _ z))
  have gl := fun (c' : Code) (hw : c'.weight = 0) (hu : c'.cUnits = 0) (kk : Result → Sem PySem.Fin) => gc_loop (k := kk) (c' := c') (l := lv []) (kp := []) (p := p) gc hw hu
  have loop : ∀ (m i n : Nat) (ys : List V) (s₀ s : Shared) (σ : L2.St) (H : Hp), n + ys.length = sizeLine → W i m ys σ H → GI X S ip ys σ H s → tn i s.heap → (∀ b ∈ fp, H b = none) →
      Seg (model X.prog X.w) A R (GY X S) n s₀ (.forLoop tg (.ref it) body [] X.env) ((model X.prog X.w).den (.forLoop tg (.ref it) body [] X.env))
        (.ret (fun r => ((match r with | .ok f => (.pure f : Sem Flow) | .error e => .raise e).onRaise (cameBack X.env)).wrap K J gd lv) none (gd false) (lv []) c p [] :: fs) s := by
    intro m
    induction m using Nat.strongRecOn with
    | ind m ih =>
      intro i n ys s₀ s σ H hn w hI st3 fr3
      have ee : ∀ (n : Nat) (s₀ : Shared) (x : Value) (s' : Shared), X.xe x s' → notedSeg X.prog X.w A R (GY X S) n s₀ (.forLoop tg (.ref it) body [] X.env)
          (.ret (fun r => ((match r with | .ok f => (.pure f : Sem Flow) | .error e => .raise e).onRaise (cameBack X.env)).wrap K J gd lv) none (gd false) (lv []) c p [] :: fs) X.env x s' := fun n s₀ x s' hx => by
        refine seg_wrap ?_
        rw [(gl (.forLoop tg (.ref it) body [] X.env) rfl rfl _).over]
        refine wpAny_bind (wpAny_mono (hp x s' hx) (fun _ s'' hcb => wpAny_theTreesLotGoes ?_) fun y s'' hcb => ?_)
        · exact seg_leaf (.error x) (seg_cameBack gc k hcb)
        · exact seg_leaf (.error y) (seg_cameBack gc k hcb)
      refine seg_forLoop ?_
      rw [(gl (.forLoop tg (.ref it) body [] X.env) rfl rfl _).over]
      obtain ⟨acc1, cc1, r1, I3⟩ := hI
      rcases turn i m ys σ H w with ⟨stop, qn⟩ | ⟨go, N, hN, step⟩
      · refine wpAny_mono (T.done X rfl rfl rfl hc i _ s σ H X.xe I3 (stat fr3) st3 stop) (fun rr s4 ⟨hr, I4⟩ => ?_) fun x s' hx => ee n s₀ x s' hx
        subst hr
        refine seg_block0 (c := .block [] X.env) ?_ rfl
        exact seg_leaf (.ok .next) (k.ok n ys s₀ s4 .next hn ⟨σ, H, ⟨acc1, cc1, r1, I4⟩, qn⟩)
      · refine wpAny_mono (T.item X rfl rfl rfl hc i _ s σ H X.xe I3 (stat fr3) st3 go) (fun rr s4 ⟨u, hr, h4⟩ => ?_) fun x s' hx => ee n s₀ x s' hx
        subst hr
        refine wpAny_mono h4 (fun _ s5 ⟨x, H5, I5, r5, y5, st5, fr5⟩ => ?_) fun x s' hx => ee n s₀ x s' hx
        have I5' := I5.pinned (stat fr5) (T.obj _ _ st5)
        refine wpAny_mono (hg.run _ s5 σ H5 x u _ I5' r5 (step x H5 y5)) (fun _ s6 ⟨σ6, H6, I6, q6⟩ => ?_) fun x s' hx => ee n s₀ x s' hx
        have again : ∀ {ys' : List V} {σ7 : L2.St} {H7 : Hp} {s7 : Shared} {n' : Nat} {s₀' : Shared}, n' + ys'.length = sizeLine → GI X S (ip ++ pinsAt fp s5.heap) ys' σ7 H7 s7 → N ys' σ7 H7 → Seg (model X.prog X.w) A R (GY X S) n' s₀' (.forLoop tg (.ref it) body [] X.env) ((model X.prog X.w).den (.forLoop tg (.ref it) body [] X.env))
            (.ret (fun r => ((match r with | .ok f => (.pure f : Sem Flow) | .error e => .raise e).onRaise (cameBack X.env)).wrap K J gd lv) none (gd false) (lv []) c p [] :: fs) s7 := fun {ys' σ7 H7 s7 n' s₀'} hn' hI7 n7 => by
          obtain ⟨m', hm, w7⟩ := hN _ σ7 H7 n7
          obtain ⟨acc7, cc7, r7, I7⟩ := hI7
          have I7' : Inv X (((S, lstObj acc7 cc7) :: ip) ++ pinsAt fp s5.heap) σ7 H7 s7 := I7
          refine ih m' hm (i + 1) n' ys' s₀' s7 σ7 H7 hn' w7 ⟨acc7, cc7, r7, I7'.unpinned⟩ (T.keep _ _ _ st5 fun b hb o e => (I7'.pin (b, o) (List.mem_append_right _ (List.mem_append_right _ (mem_pinsAt hb e)))).1) fun b hb => ?_
          obtain ⟨o, e, d⟩ := T.obj _ _ st5 b hb
          exact (I7'.pin (b, o) (List.mem_append_right _ (List.mem_append_right _ (mem_pinsAt hb e)))).2.1
        have I6' : GI X S (ip ++ pinsAt fp s5.heap) ys σ6 H6 s6 := ⟨acc1, cc1, r1, I6⟩
        have unp : ∀ {ys' : List V} {σ7 : L2.St} {H7 : Hp} {s7 : Shared}, GI X S (ip ++ pinsAt fp s5.heap) ys' σ7 H7 s7 → GI X S ip ys' σ7 H7 s7 := fun {ys' σ7 H7 s7} hI7 => by
          obtain ⟨acc7, cc7, r7, I7⟩ := hI7
          have I7' : Inv X (((S, lstObj acc7 cc7) :: ip) ++ pinsAt fp s5.heap) σ7 H7 s7 := I7
          exact ⟨acc7, cc7, r7, I7'.unpinned⟩
        have gl1 := gl (.forLoop tg (.ref it) body [] X.env) rfl rfl (fun r => ((match r with | .ok f => (.pure f : Sem Flow) | .error e => .raise e).onRaise (cameBack X.env)).wrap K J gd lv)
        refine hb.run A S (ip ++ pinsAt fp s5.heap) R n ys s₀ _ _ _ _ id id s6 σ6 H6 { D with nx := N, ct := N, bk := D.nx } ⟨gl1.pn, fun q hq => ?_, gl1.apart, gl1.over, gl1.split, gl1.guard, gl1.gd⟩ hn ⟨fun n' ys' s₀' s7 f hn' hs => ?_, fun n' s₀' x s7 hx => ee n' s₀' x s7 hx⟩ I6' q6
        · rcases List.mem_append.mp hq with z | z
          · exact gc.ip q z
          · exact fS q.1 (of_pinsAt z).1
        · cases f with
          | next =>
            obtain ⟨σ7, H7, I7, n7⟩ := hs
            exact seg_again rfl (again hn' I7 n7)
          | cont =>
            obtain ⟨σ7, H7, I7, n7⟩ := hs
            exact seg_again rfl (again hn' I7 n7)
          | brk =>
            obtain ⟨σ7, H7, I7, n7⟩ := hs
            exact seg_leaf (.ok .next) (k.ok n' ys' s₀' s7 .next hn' ⟨σ7, H7, unp I7, n7⟩)
          | ret v =>
            obtain ⟨x7, σ7, H7, I7, r7, n7⟩ := hs
            exact seg_leaf (.ok (.ret v)) (k.ok n' ys' s₀' s7 (.ret v) hn' ⟨x7, σ7, H7, unp I7, r7, n7⟩)
  exact loop m0 0 n ys s₀ s2 σ H2 hn w0 ⟨acc, cc, r, I2⟩ st2 fun b hb => (f2 b hb).1
end
end Dl
namespace Dl
open PySem PySem.Spec PyProof.Rows L2
/-! ### generator defs in Dl: os is what is out so far -/
abbrev PY := List Slot → PN
def WY (K : PySem.W.Frag) (t : TGn) (os δ : List Slot) (μ : List Cell) (N : PY) (Rt : List Slot → List Cell → Prop) (B C : PY) : Prop :=
  ∀ (M : AS) (σ : L2.St) (H : Hp) (ys : List V), EnvOk K M μ δ σ H → SlVs K M H ys os → ∀ D : GEnds,
    (∀ os' δ' μ' M' σ' H' ys', N os' δ' μ' → Ste M μ H M' μ' H' → EnvOk K M' μ' δ' σ' H' → SlVs K M' H' ys' os' → D.nx ys' σ' H') →
    (∀ os' μ' M' H' ys', Rt os' μ' → Ste M μ H M' μ' H' → Holds K M' μ' H' → SlVs K M' H' ys' os' → D.rt ys' .non H') →
    (∀ os' δ' μ' M' σ' H' ys', B os' δ' μ' → Ste M μ H M' μ' H' → EnvOk K M' μ' δ' σ' H' → SlVs K M' H' ys' os' → D.bk ys' σ' H') →
    (∀ os' δ' μ' M' σ' H' ys', C os' δ' μ' → Ste M μ H M' μ' H' → EnvOk K M' μ' δ' σ' H' → SlVs K M' H' ys' os' → D.ct ys' σ' H') → t D ys σ H
section
variable (X : Cx)
def cG (st : Stmt) : TGn := fun D ys σ H => ∀ (A : Around) (S : Addr) (ip : List (Addr × Obj)) (R : GenEnd) (n : Nat) (s₀ : Shared) (c : Code) (fs : List Frame) (K : Flow → Sem PySem.Fin) (J : Value → Sem PySem.Fin) (gd : Bool → Bool) (lv : List Value → List Value) (s : Shared),
  GC X S ip A c fs gd → n + ys.length = sizeLine → GK X S ip A R c fs K J D → GI X S ip ys σ H s → Seg (model X.prog X.w) A R (GY X S) n s₀ c ((exec st X.env).wrap K J gd lv) fs s
def cGs (st : List Stmt) : TGn := fun D ys σ H => ∀ (A : Around) (S : Addr) (ip : List (Addr × Obj)) (R : GenEnd) (n : Nat) (s₀ : Shared) (c : Code) (fs : List Frame) (K : Flow → Sem PySem.Fin) (J : Value → Sem PySem.Fin) (gd : Bool → Bool) (lv : List Value → List Value) (s : Shared),
  GC X S ip A c fs gd → n + ys.length = sizeLine → GK X S ip A R c fs K J D → GI X S ip ys σ H s → Seg (model X.prog X.w) A R (GY X S) n s₀ c ((execs st X.env).wrap K J gd lv) fs s
theorem cG_gs (st : Stmt) : GS X st (cG X st) := ⟨fun A S ip R n ys s₀ c fs K J gd lv s σ H D g hn k hI ht => ht A S ip R n s₀ c fs K J gd lv s g hn k hI⟩
theorem cGs_gss (st : List Stmt) : GSs X st (cGs X st) := ⟨fun A S ip R n ys s₀ c fs K J gd lv s σ H D g hn k hI ht => ht A S ip R n s₀ c fs K J gd lv s g hn k hI⟩
def DY (st : Stmt) (os δ : List Slot) (μ : List Cell) (N : PY) (Rt : List Slot → List Cell → Prop) (B C : PY) : Prop := WY X.K (cG X st) os δ μ N Rt B C
def DYs (st : List Stmt) (os δ : List Slot) (μ : List Cell) (N : PY) (Rt : List Slot → List Cell → Prop) (B C : PY) : Prop := WY X.K (cGs X st) os δ μ N Rt B C
end
theorem SlVs.snoc {K : PySem.W.Frag} {M : AS} {H : Hp} : ∀ {vs : List V} {ss : List Slot} {v : V} {s : Slot}, SlVs K M H vs ss → SlotV K M H v s → SlVs K M H (vs ++ [v]) (ss ++ [s])
  | _, _, _, _, .nil, r => .cons r .nil
  | _, _, _, _, .cons r t, r' => .cons r (SlVs.snoc t r')
section
variable {X : Cx} {st : Stmt} {rest sts body s1 s2 : List Stmt} {t : TGn} {os δ : List Slot} {μ : List Cell} {N B C : PY} {Rt : List Slot → List Cell → Prop} {pos p : Pos} {a b e : Expr} {α : Type} [Enc α]
theorem of_gs (h : GS X st t) (w : WY X.K t os δ μ N Rt B C) : DY X st os δ μ N Rt B C := fun M σ H ys E r D n rt b c A S ip R nn s₀ cc fs K J gd lv s g hn k hI =>
  h.run A S ip R nn ys s₀ cc fs K J gd lv s σ H D g hn k hI (w M σ H ys E r D n rt b c)
theorem of_gss (h : GSs X sts t) (w : WY X.K t os δ μ N Rt B C) : DYs X sts os δ μ N Rt B C := fun M σ H ys E r D n rt b c A S ip R nn s₀ cc fs K J gd lv s g hn k hI =>
  h.run A S ip R nn ys s₀ cc fs K J gd lv s σ H D g hn k hI (w M σ H ys E r D n rt b c)
theorem dy_plain (h : DS (ρ := Unit) X st δ μ (fun δ' μ' => N os δ' μ') (fun _ μ' => Rt os μ') (fun δ' μ' => B os δ' μ') (fun δ' μ' => C os δ' μ')) : DY X st os δ μ N Rt B C :=
  of_gs (gs_ps (cS_ps st)) fun M σ H ys E r D n rt b c => h M σ H E (D.at ys) (fun δ' μ' M' σ' H' q s E' => n os δ' μ' M' σ' H' ys q s E' (r.tr s E.h))
    (fun x μ' M' v H' q s h' rv => by cases rv; exact rt os μ' M' H' ys q s h' (r.tr s E.h))
    (fun δ' μ' M' σ' H' q s E' => b os δ' μ' M' σ' H' ys q s E' (r.tr s E.h)) (fun δ' μ' M' σ' H' q s E' => c os δ' μ' M' σ' H' ys q s E' (r.tr s E.h))
theorem dy_nil (q : N os δ μ) : DYs X [] os δ μ N Rt B C := of_gss gss_nil fun M σ H ys E r D n rt b c => n os δ μ M σ H ys q Ste.refl E r
theorem wy_go {M0 M : AS} {H0 H : Hp} {μ0 : List Cell} {σ : L2.St} {ys : List V} {D : GEnds} (h : DYs X sts os δ μ N Rt B C) (s : Ste M0 μ0 H0 M μ H) (E : EnvOk X.K M μ δ σ H) (r : SlVs X.K M H ys os)
    (n : ∀ os' δ' μ' M' σ' H' ys', N os' δ' μ' → Ste M0 μ0 H0 M' μ' H' → EnvOk X.K M' μ' δ' σ' H' → SlVs X.K M' H' ys' os' → D.nx ys' σ' H')
    (rt : ∀ os' μ' M' H' ys', Rt os' μ' → Ste M0 μ0 H0 M' μ' H' → Holds X.K M' μ' H' → SlVs X.K M' H' ys' os' → D.rt ys' .non H')
    (b : ∀ os' δ' μ' M' σ' H' ys', B os' δ' μ' → Ste M0 μ0 H0 M' μ' H' → EnvOk X.K M' μ' δ' σ' H' → SlVs X.K M' H' ys' os' → D.bk ys' σ' H')
    (c : ∀ os' δ' μ' M' σ' H' ys', C os' δ' μ' → Ste M0 μ0 H0 M' μ' H' → EnvOk X.K M' μ' δ' σ' H' → SlVs X.K M' H' ys' os' → D.ct ys' σ' H') : cGs X sts D ys σ H :=
  h M σ H ys E r D (fun _ _ _ _ _ _ _ p2 s2 => n _ _ _ _ _ _ _ p2 (s.trans s2)) (fun _ _ _ _ _ p2 s2 => rt _ _ _ _ _ p2 (s.trans s2)) (fun _ _ _ _ _ _ _ p2 s2 => b _ _ _ _ _ _ _ p2 (s.trans s2)) (fun _ _ _ _ _ _ _ p2 s2 => c _ _ _ _ _ _ _ p2 (s.trans s2))
theorem dy_cons (h : DY X st os δ μ (fun os' δ' μ' => DYs X rest os' δ' μ' N Rt B C) Rt B C) : DYs X (st :: rest) os δ μ N Rt B C :=
  of_gss (gss_cons (cG_gs X st) (cGs_gss X rest)) fun M σ H ys E r D n rt b c =>
    h M σ H ys E r { D with nx := fun ys' σ' H' => cGs X rest D ys' σ' H' } (fun os' δ' μ' M' σ' H' ys' q s E' r' => wy_go q s E' r' n rt b c) rt b c
theorem dy_one (h : DY X st os δ μ N Rt B C) : DYs X [st] os δ μ N Rt B C :=
  dy_cons (fun M σ H ys E r D n rt b c => h M σ H ys E r D (fun os' δ' μ' M' σ' H' ys' q => n os' δ' μ' M' σ' H' ys' (dy_nil q)) rt b c)
theorem dy_if {cnd : Expr} (h : DT X cnd δ μ fun x μ1 => (x = true → DYs X s1 os δ μ1 N Rt B C) ∧ (x = false → DYs X s2 os δ μ1 N Rt B C)) : DY X (.If cnd s1 s2 pos) os δ μ N Rt B C :=
  of_gs (gs_if (cV_pt cnd) (cGs_gss X s1) (cGs_gss X s2)) fun M σ H ys E r D n rt b c => h M σ H E _ fun x μ1 M1 H1 q s hh => by
    cases x with
    | true => exact iteT (wy_go (q.1 rfl) s (E.step s hh) (r.tr s E.h) n rt b c)
    | false => exact iteF (wy_go (q.2 rfl) s (E.step s hh) (r.tr s E.h) n rt b c)
theorem dy_yield {yp : Pos} (hl : os.length < 2 ^ 20) (h : DE X e δ μ fun (x : α) μ1 => N (os ++ [sl x]) δ μ1) (hco : X.env.scope.isCoroutine = false := by rfl) (hi : interactive X.env = false := by rfl) :
    DY X (.Expr (.Yield (some e) yp) pos) os δ μ N Rt B C :=
  of_gs (gs_yield (cE_pe e) hco hi) fun M σ H ys E r D n rt b c =>
    ⟨by rw [r.length, sizeLine_eq]; omega, h M σ H E _ fun x μ1 M1 v H1 q s hh rv => n (os ++ [sl x]) δ μ1 M1 σ H1 (ys ++ [v]) q s (E.step s hh) ((r.tr s E.h).snoc rv)⟩
/-- the body of a generator's loop -/
theorem run_bodyG {D : GEnds} {N' : List V → L2.St → Hp → Prop} {M0 M : AS} {μ0 : List Cell} {H0 H : Hp} {σ : L2.St} {ys : List V} {I : PY} (h : DYs X body os δ μ I Rt N I) (s : Ste M0 μ0 H0 M μ H) (E : EnvOk X.K M μ δ σ H) (r : SlVs X.K M H ys os)
    (n : ∀ os' δ' μ' M' σ' H' ys', N os' δ' μ' → Ste M0 μ0 H0 M' μ' H' → EnvOk X.K M' μ' δ' σ' H' → SlVs X.K M' H' ys' os' → D.nx ys' σ' H')
    (rt : ∀ os' μ' M' H' ys', Rt os' μ' → Ste M0 μ0 H0 M' μ' H' → Holds X.K M' μ' H' → SlVs X.K M' H' ys' os' → D.rt ys' .non H')
    (nn : ∀ os' δ' μ' M' σ' H' ys', I os' δ' μ' → Ste M0 μ0 H0 M' μ' H' → EnvOk X.K M' μ' δ' σ' H' → SlVs X.K M' H' ys' os' → N' ys' σ' H') : cGs X body { D with nx := N', ct := N', bk := D.nx } ys σ H :=
  h M σ H ys E r { D with nx := N', ct := N', bk := D.nx } (fun _ _ _ _ _ _ _ p2 s2 => nn _ _ _ _ _ _ _ p2 (s.trans s2)) (fun _ _ _ _ _ p2 s2 => rt _ _ _ _ _ p2 (s.trans s2))
    (fun _ _ _ _ _ _ _ p2 s2 => n _ _ _ _ _ _ _ p2 (s.trans s2)) (fun _ _ _ _ _ _ _ p2 s2 => nn _ _ _ _ _ _ _ p2 (s.trans s2))
theorem dy_range1 {i : Nat} {x : Str} {px pos' : Pos} (hp : PassesOwn (model X.prog X.w) X.A X.env X.xe) (hc : X.calm = true) (hN : X.N.Nodup) (hm : X.mg "range" = none)
    (h : DE X a δ μ fun (n : Int) μ1 => n < 2 ^ 62 ∧ -(2 ^ 62) ≤ n ∧ ∃ Inv : Nat → PY, Inv 0 os δ μ1 ∧ (∀ (k : Nat) os' δ' μ', (k : Int) < n → Inv k os' δ' μ' → DYs X body os' (δ'.set i (sl (k : Int))) μ' (Inv (k + 1)) Rt N (Inv (k + 1))) ∧ (∀ os' δ' μ', Inv n.toNat os' δ' μ' → N os' δ' μ'))
    (hi : X.N[i]? = some x := by rfl) (hx : Loc X.env.scope x := by first | exact Or.inl rfl | exact Or.inr rfl) (hf : X.fn x = true ∨ X.env.scope.names.lookup x = some .local := by first | exact .inl rfl | exact .inr rfl)
    (hg : Gl X "range" := by rfl) (hs : starEach [a] X.env = [(false, eval a X.env)] := by rfl) (hs2 : starEach [a] X.env = (false, eval a X.env) :: starEach [] X.env := by rfl)
    (hs3 : ∀ x, foldedSetIterable (.Call (.Name "range" p) [a] [] pos') X.env x = pure x := by intro _; rfl) :
    DY X (.For (.Name x px) (.Call (.Name "range" p) [a] [] pos') body [] pos) os δ μ N Rt B C :=
  of_gs (gs_for hp hc (pi_range1 hg hm (pa_cons (cE_pe a) pa_nil hs2) hs) (pg_name (i := i) hN hi hx hf) (cGs_gss X body) hs3) fun M σ H0 ys E r D nk rk bk ck => h M σ H0 E _ fun n μ1 M1 v H1 p1 s1 h1 r1 => by
    obtain ⟨n1, n2, Inv, i0, ih, ie⟩ := p1
    cases r1
    refine ⟨n, rfl, n2, n1, ?_⟩
    refine ⟨fun i m ys σ H => m = n.toNat - i ∧ i ≤ n.toNat ∧ ∃ M' μ' δ' os', Inv i os' δ' μ' ∧ Ste M μ H0 M' μ' H ∧ EnvOk X.K M' μ' δ' σ H ∧ SlVs X.K M' H ys os', ⟨n.toNat, by simp, Nat.zero_le _, M1, μ1, δ, os, i0, s1, E.step s1 h1, r.tr s1 E.h⟩, ?_⟩
    rintro k m ys' σ' H' ⟨rfl, hk, M', μ', δ', os', hI, s', E', r'⟩
    by_cases hlt : k < n.toNat
    · refine .inr ⟨hlt, fun ys σ H => ∃ M' μ' δ' os', Inv (k + 1) os' δ' μ' ∧ Ste M μ H0 M' μ' H ∧ EnvOk X.K M' μ' δ' σ H ∧ SlVs X.K M' H ys os', fun ys2 σ2 H2 q => ⟨n.toNat - (k + 1), by omega, rfl, hlt, q⟩, fun x H2 y => ?_⟩
      obtain ⟨e, y⟩ := y
      subst e y
      rw [show (0 : Int) + (k : Int) = (k : Int) by omega]
      refine (wg_name (s := sl (k : Int))).run M' μ' σ' _ _ E' rfl _ fun σ2 E2 => ?_
      exact run_bodyG (ih k os' δ' μ' (by omega) hI) s' E2 r' nk rk fun os2 δ2 μ2 M2 σ3 H3 ys3 p s2 E3 r3 => ⟨M2, μ2, δ2, os2, p, s2, E3, r3⟩
    · have e : k = n.toNat := by omega
      subst e
      exact .inl ⟨Nat.le_refl _, nk _ _ _ _ _ _ _ (ie _ _ _ hI) s' E' r'⟩
end
abbrev PmG := List Slot → List Cell → (List Slot → List Cell → Prop) → Prop
def spG (K : PySem.W.Frag) (Φ : PmG) : SpG := fun vs H Q _ => ∃ (M : AS) (μ : List Cell) (as : List Slot) (P : List Slot → List Cell → Prop), Holds K M μ H ∧ SlVs K M H vs as ∧ Φ as μ P ∧
  ∀ os μ' M' ys H', P os μ' → Ste M μ H M' μ' H' → Holds K M' μ' H' → SlVs K M' H' ys os → Q ys H'
/-- a generator def that may be called -/
structure CalG (P : Program) (w : World) (K : PySem.W.Frag) (mg : Str → Option Value) (base : Heap) (x : Str) (k : Nat) (ps : List Str) (Φ : PmG) : Prop where
  ex : ∃ (f : Addr) (fd : FuncData), GFn P w K mg base k f fd ps (spG K Φ) ∧ mg x = some (.ref f) ∧ PySem.W.keepIn K (.ref f) = true ∧ Binds K fd ps []
section
variable {P : Program} {w : World} {K : PySem.W.Frag} {mg : Str → Option Value} {base : Heap} {x : Str} {st : Stmt} {ps N : List Str} {Φ : PmG} {k : Nat}
abbrev cxG (P : Program) (w : World) (K : PySem.W.Frag) (mg : Str → Option Value) (base : Heap) (N : List Str) (qual : Str) (st : Stmt) (f : Addr) (cdv : Value) (A : Around) (outer : List Env) (s : Shared) (H : Hp) (E : XK) (pn : List (Addr × Obj)) : Cx := gcxOf P w K mg base N qual (defScope st) f cdv A outer s H E pn
theorem Dfn.calG (D : Dfn K mg x st ps) (S : GScope N ps (defScope st)) (len : ∀ as μ P, Φ as μ P → as.length = ps.length)
    (h : ∀ (f : Addr) (cdv : Value) (A : Around) (outer : List Env) (s : Shared) (H : Hp) (E : XK) (pn : List (Addr × Obj)), Room k (A.deeper (envOfC x (defScope st) s.heap.objs.size f cdv)) → ∀ as μ Pd, Φ as μ Pd →
      DYs (cxG P w K mg base N x st f cdv A outer s H E pn) (defBody st) [] (as ++ List.replicate (N.length - as.length) .any) μ (fun os _ μ' => Pd os μ') Pd (fun _ _ _ => False) (fun _ _ _ => False)) :
    CalG P w K mg base x (k + 1) ps Φ := by
  obtain ⟨f, fd, dvs, F, hm, hb⟩ := D.ex
  obtain ⟨oc, od, dV, kV, doc, pm, an, cdv, ct, osl, rfl, lk, hcd, _, _⟩ := F.ex
  refine ⟨f, _, gfn_of lk hcd S (fun vs H Q E h => ?_) (fun A outer s H vs Q E pn hr hsp => ?_), hm, F.kp, hb⟩
  · obtain ⟨M, μ, as, Pd, _, r, hp, _⟩ := h
    rw [r.length]; exact len _ _ _ hp
  · obtain ⟨M, μ, as, Pd, hh, r, hp, q⟩ := hsp
    refine ⟨_, cGs_gss _ _, h f cdv A outer s H E pn hr as μ Pd hp M _ H [] (start_ok hh r) .nil _ (fun os' δ' μ' M' σ' H' ys' n s' E' r' => q os' μ' M' ys' H' n s' E'.h r') (fun os' μ' M' H' ys' n s' h' r' => ⟨rfl, q os' μ' M' ys' H' n s' h' r'⟩) (fun _ _ _ _ _ _ _ z => z.elim) (fun _ _ _ _ _ _ _ z => z.elim)⟩
end
section
variable {X : Cx} {e : Expr} {es : List Expr} {δ : List Slot} {μ : List Cell} {k : Nat} {ps : List Str} {Φ : PmG} {x : Str} {p p' pos pos' : Pos} {α : Type} [Enc α] {P : Ref → List Cell → Prop}
/-- list(g(..)) of a generator def -/
theorem de_listG (c : CalG X.prog X.w X.K X.mg X.base x k ps Φ) {k' : Nat} (hr : Room k' X.A) (hk : k + 3 ≤ k') (hl : X.mg "list" = none)
    (h : DA X (e :: es) δ μ fun as μ1 => ∃ μc μr, Parts μ1 μc μr ∧ Φ as μc fun os μ' => ∃ xs : List α, os = xs.map (fun x => sl x) ∧ ∀ l, P ⟨l⟩ (μ' ++ μr ++ [lst l xs])) (hg : Gl X x := by rfl) (hgl : Gl X "list" := by rfl) (hdb : (x == ("__debug__" : Str)) = false := by decide)
    (he : starEach (e :: es) X.env = (false, eval e X.env) :: starEach es X.env := by rfl) (hpl : (backTo pos' (starEach es X.env)).any (·.1) = false := by rfl)
    (he2 : starEach [.Call (.Name x p') (e :: es) [] pos'] X.env = (false, eval (.Call (.Name x p') (e :: es) [] pos') X.env) :: starEach [] X.env := by rfl) :
    DE X (.Call (.Name "list" p) [.Call (.Name x p') (e :: es) [] pos'] [] pos) δ μ P := by
  obtain ⟨f, fd, F, hm, hkp, hb⟩ := c.ex
  refine of_pe (pe_listG (E := fun _ _ _ => False) (pgen_call F (hr.mono (by omega)) hg hm hkp hb .nil (cA_pa _) hdb he hpl) (fun _ _ _ _ _ _ _ h => ?_) (fun _ _ _ h => h.elim) (hr.mono hk) hgl hl (by decide +kernel) (by decide) (by decide) he2) fun M σ H E Q q => h M σ H E _ fun as μ1 M1 vs H1 p1 s1 h1 r1 => ?_
  · obtain ⟨_, _, _, _, _, _, _, _, _, _, _, _, z⟩ := h
    exact z.elim
  · obtain ⟨μc, μr, sp, ph⟩ := p1
    refine ⟨M1, μc, as, _, h1.part sp, by rw [List.append_nil]; exact r1, ph, fun os μ' M' ys H' py s2 h2 r2 l hl' => ?_⟩
    obtain ⟨xs, rfl, py⟩ := py
    obtain ⟨s3, h3⟩ := frame h1 sp s2 h2
    obtain ⟨s4, h4⟩ := new_cell h3 hl' (SlVs.ex r2)
    exact q ⟨l⟩ _ _ _ _ (py l) ((s1.trans s3).trans s4) h4 rfl
end
end Dl
namespace Dl
open PySem PySem.Spec PyProof.Rows L2
/-! ### the mathematics -/
/-- the lowest form of t / b, b above zero -/
def lo (t b : Int) : Int × Int := (t / (Nat.gcd t.natAbs b.natAbs : Nat), b / (Nat.gcd t.natAbs b.natAbs : Nat))
theorem gcd_pos {t b : Int} (hb : 0 < b) : 0 < ((Nat.gcd t.natAbs b.natAbs : Nat) : Int) := by
  have : 0 < Nat.gcd t.natAbs b.natAbs := Nat.gcd_pos_of_pos_right _ (by omega)
  omega
theorem gcd_dl (t b : Int) : ((Nat.gcd t.natAbs b.natAbs : Nat) : Int) ∣ t := Int.natAbs_dvd_natAbs.mp (Nat.gcd_dvd_left _ _)
theorem gcd_dr (t b : Int) : ((Nat.gcd t.natAbs b.natAbs : Nat) : Int) ∣ b := Int.natAbs_dvd_natAbs.mp (Nat.gcd_dvd_right _ _)
theorem gcd_le {t b : Int} (hb : 0 < b) : ((Nat.gcd t.natAbs b.natAbs : Nat) : Int) ≤ b := Int.le_of_dvd hb (gcd_dr t b)
theorem lo_mul1 {t b : Int} : (lo t b).1 * ((Nat.gcd t.natAbs b.natAbs : Nat) : Int) = t := Int.ediv_mul_cancel (gcd_dl t b)
theorem lo_mul2 {t b : Int} : (lo t b).2 * ((Nat.gcd t.natAbs b.natAbs : Nat) : Int) = b := Int.ediv_mul_cancel (gcd_dr t b)
theorem lo_pos {t b : Int} (hb : 0 < b) : 0 < (lo t b).2 := by
  have h1 := lo_mul2 (t := t) (b := b)
  have h2 := gcd_pos (t := t) hb
  by_cases h : 0 < (lo t b).2
  · exact h
  · have : (lo t b).2 * ((Nat.gcd t.natAbs b.natAbs : Nat) : Int) ≤ 0 := Int.mul_nonpos_of_nonpos_of_nonneg (by omega) (Int.le_of_lt h2)
    omega
theorem lo_le2 {t b : Int} (hb : 0 < b) : (lo t b).2 ≤ b := Int.ediv_le_self _ (Int.le_of_lt hb)
theorem lo_abs1 (t b : Int) : (lo t b).1.natAbs ≤ t.natAbs := by
  show (t / _).natAbs ≤ _
  rw [Int.natAbs_ediv_of_dvd (gcd_dl t b)]
  exact Nat.div_le_self _ _
theorem lo_cop {t b : Int} (hb : 0 < b) : Nat.gcd (lo t b).1.natAbs (lo t b).2.natAbs = 1 := by
  show Nat.gcd (t / _).natAbs (b / _).natAbs = 1
  rw [Int.natAbs_ediv_of_dvd (gcd_dl t b), Int.natAbs_ediv_of_dvd (gcd_dr t b), Int.natAbs_natCast]
  rw [Nat.gcd_div (Nat.gcd_dvd_left _ _) (Nat.gcd_dvd_right _ _)]
  exact Nat.div_self (Nat.gcd_pos_of_pos_right _ (by omega))
theorem lo_self {x : Int × Int} (h : Nat.gcd x.1.natAbs x.2.natAbs = 1) : lo x.1 x.2 = x := by
  unfold lo
  rw [h]
  show (x.1 / 1, x.2 / 1) = x
  rw [Int.ediv_one, Int.ediv_one]
theorem lo_lo {t b : Int} (hb : 0 < b) : lo (lo t b).1 (lo t b).2 = lo t b := lo_self (lo_cop hb)
theorem bits_of {x : Int} {n : Nat} (h : x.natAbs < 2 ^ n) (hn : 0 < n) : x.natAbs.log2 < n := PySem.Flt.log2_lt_of hn h
theorem divW_of {x y : Int} {n : Nat} (h0 : 0 < y) (h : y.natAbs < 2 ^ n) (hn : 0 < n) (h9 : n ≤ 9000) : CDivW x y := ⟨h0, Nat.lt_of_lt_of_le (bits_of h hn) h9⟩
theorem mulx_of {x y : Int} {a b : Nat} (ha : x.natAbs < 2 ^ a) (hb : y.natAbs < 2 ^ b) (h : a + b ≤ 134217728) : CMulX x y := mulx_ok ha hb h
theorem pow_lt {x : Int} {a : Nat} (ha : x.natAbs < 2 ^ a) : ∀ k : Nat, 0 < k → (x ^ k).natAbs < 2 ^ (a * k)
  | 0, h => absurd h (by omega)
  | 1, _ => by rw [Nat.mul_one]; rw [show x ^ 1 = x from Int.pow_one x]; exact ha
  | k + 2, _ => by
    rw [Int.pow_succ, Int.natAbs_mul, show a * (k + 2) = a * (k + 1) + a by rw [Nat.mul_succ], Nat.pow_add]
    exact Nat.mul_lt_mul'' (pow_lt ha (k + 1) (by omega)) ha
theorem pow_le' {x : Int} {a : Nat} (ha : x.natAbs < 2 ^ a) (h0 : 0 < a) (k : Nat) : (x ^ k).natAbs < 2 ^ (a * k + 1) := by
  cases k with
  | zero =>
    rw [Int.pow_zero, Nat.mul_zero]
    decide
  | succ k => exact Nat.lt_of_lt_of_le (pow_lt ha (k + 1) (by omega)) (Nat.pow_le_pow_right (by decide) (Nat.le_succ _))
theorem natAbs_lt_mul {x y : Int} {a b : Nat} (ha : x.natAbs < 2 ^ a) (hb : y.natAbs < 2 ^ b) : (x * y).natAbs < 2 ^ (a + b) := by
  rw [Int.natAbs_mul, Nat.pow_add]
  exact Nat.mul_lt_mul'' ha hb
theorem pow2_mono {x : Nat} {a b : Nat} (h : x < 2 ^ a) (hab : a ≤ b) : x < 2 ^ b := Nat.lt_of_lt_of_le h (Nat.pow_le_pow_right (by decide) hab)
theorem de_unsome {X : Cx} {α : Type} [Enc α] [NN α] {e : Expr} {δ : List Slot} {μ : List Cell} {P : α → List Cell → Prop} (h : DE X e δ μ fun (x : Option α) μ' => ∃ y, x = some y ∧ P y μ') : DE X e δ μ P :=
  fun M σ H E Q q => h M σ H E Q fun x μ' M' v H' p s hh r => by
    obtain ⟨y, rfl, p⟩ := p
    exact q y μ' M' v H' p s hh r
theorem atI_mem {α : Type} {xs : List α} {i : Int} (h0 : 0 ≤ i) (h1 : i < xs.length) : ∃ y, atI xs i = some y ∧ y ∈ xs := by
  obtain ⟨k, rfl⟩ := Int.eq_ofNat_of_zero_le h0
  have hk : k < xs.length := by omega
  exact ⟨xs[k], atI_nat (List.getElem?_eq_getElem hk), List.getElem_mem hk⟩
theorem de_tupOf2 {X : Cx} {α : Type} [Enc α] {e : Expr} {δ : List Slot} {μ : List Cell} {P : Tup α → List Cell → Prop} (h : DE X e δ μ fun (x : α × α) μ' => P ⟨[x.1, x.2]⟩ μ') : DE X e δ μ P :=
  fun M σ H E Q q => h M σ H E Q fun x μ' M' v H' p s hh r => by
    obtain ⟨a, v1, v2, rfl, sq, r1, r2⟩ := r
    exact q _ μ' M' _ H' p s hh ⟨a, _, rfl, sq, .cons r1 (.cons r2 .nil)⟩
/-! ### numbers: top and bottom -/
abbrev Q2 := Int × Int
structure Nm (A : Nat) (x : Q2) : Prop where
  pos : 0 < x.2
  t : x.1.natAbs < 2 ^ A
  b : x.2.natAbs < 2 ^ A
theorem Nm.mono {A B : Nat} {x : Q2} (h : Nm A x) (k : A ≤ B) : Nm B x := ⟨h.pos, pow2_mono h.t k, pow2_mono h.b k⟩
theorem lo_one (t : Int) : lo t 1 = (t, 1) := by
  have : Nat.gcd t.natAbs (1 : Int).natAbs = 1 := Nat.gcd_one_right _
  unfold lo
  rw [this]
  show (t / 1, (1 : Int) / 1) = _
  rw [Int.ediv_one, Int.ediv_one]
theorem Nm.lo {A : Nat} {t b : Int} (hb : 0 < b) (h1 : t.natAbs < 2 ^ A) (h2 : b.natAbs < 2 ^ A) : Nm A (Dl.lo t b) :=
  ⟨lo_pos hb, Nat.lt_of_le_of_lt (lo_abs1 t b) h1, by
    have a := lo_le2 (t := t) hb
    have c := lo_pos (t := t) hb
    omega⟩
def fadd (x y : Q2) : Q2 := lo (x.1 * y.2 + y.1 * x.2) (x.2 * y.2)
def fsub (x y : Q2) : Q2 := lo (x.1 * y.2 - y.1 * x.2) (x.2 * y.2)
def fmul (x y : Q2) : Q2 := lo (x.1 * y.1) (x.2 * y.2)
theorem add_bits {x y : Int} {A : Nat} (h1 : x.natAbs < 2 ^ A) (h2 : y.natAbs < 2 ^ A) : (x + y).natAbs < 2 ^ (A + 1) := by
  rw [Nat.pow_succ]; omega
theorem sub_bits {x y : Int} {A : Nat} (h1 : x.natAbs < 2 ^ A) (h2 : y.natAbs < 2 ^ A) : (x - y).natAbs < 2 ^ (A + 1) := by
  rw [Nat.pow_succ]; omega
section
variable {A B : Nat} {x y : Q2}
theorem Nm.raw (h1 : Nm A x) (h2 : Nm B y) : 0 < x.2 * y.2 ∧ (x.1 * y.2).natAbs < 2 ^ (A + B) ∧ (y.1 * x.2).natAbs < 2 ^ (A + B) ∧ (x.2 * y.2).natAbs < 2 ^ (A + B) ∧ (x.1 * y.1).natAbs < 2 ^ (A + B) :=
  ⟨Int.mul_pos h1.pos h2.pos, natAbs_lt_mul h1.t h2.b, by rw [Nat.add_comm]; exact natAbs_lt_mul h2.t h1.b, natAbs_lt_mul h1.b h2.b, natAbs_lt_mul h1.t h2.t⟩
theorem Nm.add (h1 : Nm A x) (h2 : Nm B y) : Nm (A + B + 1) (fadd x y) := by
  obtain ⟨p, a, b, c, _⟩ := h1.raw h2
  exact Nm.lo p (add_bits a b) (pow2_mono c (by omega))
theorem Nm.sub (h1 : Nm A x) (h2 : Nm B y) : Nm (A + B + 1) (fsub x y) := by
  obtain ⟨p, a, b, c, _⟩ := h1.raw h2
  exact Nm.lo p (sub_bits a b) (pow2_mono c (by omega))
theorem Nm.mul (h1 : Nm A x) (h2 : Nm B y) : Nm (A + B) (fmul x y) := by
  obtain ⟨p, _, _, c, d⟩ := h1.raw h2
  exact Nm.lo p d c
theorem fadd_b (h1 : 0 < x.2) (h2 : 0 < y.2) : 0 < (fadd x y).2 ∧ (fadd x y).2 ≤ x.2 * y.2 := ⟨lo_pos (Int.mul_pos h1 h2), lo_le2 (Int.mul_pos h1 h2)⟩
theorem fsub_b (h1 : 0 < x.2) (h2 : 0 < y.2) : 0 < (fsub x y).2 ∧ (fsub x y).2 ≤ x.2 * y.2 := ⟨lo_pos (Int.mul_pos h1 h2), lo_le2 (Int.mul_pos h1 h2)⟩
theorem fmul_b (h1 : 0 < x.2) (h2 : 0 < y.2) : 0 < (fmul x y).2 ∧ (fmul x y).2 ≤ x.2 * y.2 := ⟨lo_pos (Int.mul_pos h1 h2), lo_le2 (Int.mul_pos h1 h2)⟩
end
/-! ### worths -/
def qv (x : Q2) : Rat := (x.1 : Rat) / (x.2 : Rat)
theorem cast_pos {b : Int} (h : 0 < b) : (0 : Rat) < (b : Rat) := by exact_mod_cast h
theorem cast_ne {b : Int} (h : 0 < b) : (b : Rat) ≠ 0 := by have := cast_pos h; grind
theorem qv_lo {t b : Int} (hb : 0 < b) : qv (lo t b) = (t : Rat) / (b : Rat) := by
  have h1 := lo_mul1 (t := t) (b := b)
  have h2 := lo_mul2 (t := t) (b := b)
  have g := gcd_pos (t := t) hb
  have p := lo_pos (t := t) hb
  generalize ((Nat.gcd t.natAbs b.natAbs : Nat) : Int) = d at h1 h2 g
  have e1 : (t : Rat) = ((lo t b).1 : Rat) * (d : Rat) := by rw [← Rat.intCast_mul, h1]
  have e2 : (b : Rat) = ((lo t b).2 : Rat) * (d : Rat) := by rw [← Rat.intCast_mul, h2]
  have n1 := cast_ne g
  have n2 := cast_ne p
  unfold qv
  rw [e1, e2]
  grind
section
variable {x y : Q2}
theorem qv_add (h1 : 0 < x.2) (h2 : 0 < y.2) : qv (fadd x y) = qv x + qv y := by
  unfold fadd
  rw [qv_lo (Int.mul_pos h1 h2)]
  have n1 := cast_ne h1
  have n2 := cast_ne h2
  unfold qv
  simp only [Rat.intCast_mul, Rat.intCast_add]
  grind
theorem qv_sub (h1 : 0 < x.2) (h2 : 0 < y.2) : qv (fsub x y) = qv x - qv y := by
  unfold fsub
  rw [qv_lo (Int.mul_pos h1 h2)]
  have n1 := cast_ne h1
  have n2 := cast_ne h2
  unfold qv
  simp only [Rat.intCast_mul, Rat.intCast_sub]
  grind
theorem qv_mul (h1 : 0 < x.2) (h2 : 0 < y.2) : qv (fmul x y) = qv x * qv y := by
  unfold fmul
  rw [qv_lo (Int.mul_pos h1 h2)]
  have n1 := cast_ne h1
  have n2 := cast_ne h2
  unfold qv
  simp only [Rat.intCast_mul]
  grind
theorem qv_top (h1 : 0 < x.2) : qv x * (x.2 : Rat) = (x.1 : Rat) := by
  have n1 := cast_ne h1
  unfold qv
  grind
theorem rat_mul_lt {a b c : Rat} (hc : 0 < c) : a < b ↔ a * c < b * c := (Rat.mul_lt_mul_right hc).symm
theorem qv_lt (h1 : 0 < x.2) (h2 : 0 < y.2) : x.1 * y.2 < y.1 * x.2 ↔ qv x < qv y := by
  have p1 := cast_pos h1
  have p2 := cast_pos h2
  rw [rat_mul_lt p1, rat_mul_lt p2, qv_top h1]
  rw [show qv y * (x.2 : Rat) * (y.2 : Rat) = qv y * (y.2 : Rat) * (x.2 : Rat) by grind, qv_top h2, ← Rat.intCast_mul, ← Rat.intCast_mul]
  exact (Rat.intCast_lt_intCast).symm
theorem qv_le (h1 : 0 < x.2) (h2 : 0 < y.2) : x.1 * y.2 ≤ y.1 * x.2 ↔ qv x ≤ qv y := by
  have h := qv_lt h2 h1
  rw [← Int.not_lt, ← Rat.not_lt, h]
end
/-! ### sums -/
def Sm (n : Nat) (f : Nat → Rat) : Rat := match n with
  | 0 => 0
  | n + 1 => Sm n f + f n
theorem Sm_le {n : Nat} {f g : Nat → Rat} (h : ∀ k, k < n → f k ≤ g k) : Sm n f ≤ Sm n g := by
  induction n with
  | zero => exact Rat.le_refl
  | succ n ih =>
    have h1 := ih fun k hk => h k (by omega)
    have h2 := h n (by omega)
    show Sm n f + f n ≤ Sm n g + g n
    grind
theorem Sm_eq {n : Nat} {f g : Nat → Rat} (h : ∀ k, k < n → f k = g k) : Sm n f = Sm n g := by
  induction n with
  | zero => rfl
  | succ n ih =>
    show Sm n f + f n = Sm n g + g n
    rw [ih fun k hk => h k (by omega), h n (by omega)]
theorem Sm_add {n : Nat} {f g : Nat → Rat} : Sm n (fun k => f k + g k) = Sm n f + Sm n g := by
  induction n with
  | zero => show (0 : Rat) = 0 + 0; grind
  | succ n ih =>
    show Sm n (fun k => f k + g k) + (f n + g n) = (Sm n f + f n) + (Sm n g + g n)
    rw [ih]; grind
theorem Sm_mulr {n : Nat} {f : Nat → Rat} {c : Rat} : Sm n (fun k => f k * c) = Sm n f * c := by
  induction n with
  | zero => show (0 : Rat) = 0 * c; grind
  | succ n ih =>
    show Sm n (fun k => f k * c) + f n * c = (Sm n f + f n) * c
    rw [ih]; grind
theorem Sm_mull {n : Nat} {f : Nat → Rat} {c : Rat} : Sm n (fun k => c * f k) = c * Sm n f := by
  induction n with
  | zero => show (0 : Rat) = c * 0; grind
  | succ n ih =>
    show Sm n (fun k => c * f k) + c * f n = c * (Sm n f + f n)
    rw [ih]; grind
theorem Sm_zero {n : Nat} : Sm n (fun _ => 0) = 0 := by
  induction n with
  | zero => rfl
  | succ n ih => show Sm n (fun _ => 0) + 0 = 0; rw [ih]; grind
theorem Sm_swap {n m : Nat} {f : Nat → Nat → Rat} : Sm n (fun j => Sm m (fun r => f r j)) = Sm m (fun r => Sm n (fun j => f r j)) := by
  induction n with
  | zero => exact (Sm_zero (n := m)).symm
  | succ n ih =>
    show Sm n (fun j => Sm m (fun r => f r j)) + Sm m (fun r => f r n) = Sm m (fun r => Sm n (fun j => f r j) + f r n)
    rw [ih, Sm_add]
/-- rows that are kept, duals of zero or more: what they show is no more than the goal -/
theorem weak_dual {n m : Nat} {A : Nat → Nat → Rat} {b y g p mn : Nat → Rat} (h1 : ∀ r, r < m → b r ≤ Sm n (fun j => A r j * p j)) (h2 : ∀ r, r < m → 0 ≤ y r)
    (h3 : ∀ j, j < n → mn j ≤ (g j - Sm m (fun r => y r * A r j)) * p j) : Sm m (fun r => y r * b r) + Sm n mn ≤ Sm n (fun j => g j * p j) := by
  have e1 : Sm m (fun r => y r * b r) ≤ Sm m (fun r => y r * Sm n (fun j => A r j * p j)) := Sm_le fun r hr => Rat.mul_le_mul_of_nonneg_left (h1 r hr) (h2 r hr)
  have e2 : Sm m (fun r => y r * Sm n (fun j => A r j * p j)) = Sm n (fun j => Sm m (fun r => y r * A r j) * p j) := by
    rw [show (fun j => Sm m (fun r => y r * A r j) * p j) = (fun j => Sm m (fun r => y r * A r j * p j)) from funext fun j => Sm_mulr.symm, Sm_swap]
    refine Sm_eq fun r _ => ?_
    rw [← Sm_mull]
    exact Sm_eq fun j _ => by grind
  have e3 : Sm n mn ≤ Sm n (fun j => (g j - Sm m (fun r => y r * A r j)) * p j) := Sm_le h3
  have e4 : Sm n (fun j => g j * p j) = Sm n (fun j => (g j - Sm m (fun r => y r * A r j)) * p j) + Sm n (fun j => Sm m (fun r => y r * A r j) * p j) := by
    rw [← Sm_add]
    exact Sm_eq fun j _ => by grind
  rw [e4, ← e2]
  grind
/-! ### the sum of products -/
def dstep (s a b : Q2) : Q2 := if a.1 ≠ 0 ∧ b.1 ≠ 0 then (s.1 * (a.2 * b.2) + a.1 * b.1 * s.2, s.2 * (a.2 * b.2)) else s
def dtb (X Y : Nat → Q2) : Nat → Q2
  | 0 => (0, 1)
  | k + 1 => dstep (dtb X Y k) (X k) (Y k)
def fdot (X Y : Nat → Q2) (n : Nat) : Q2 := lo (dtb X Y n).1 (dtb X Y n).2
def Pn (f : Nat → Int) : Nat → Int
  | 0 => 1
  | k + 1 => Pn f k * f k
theorem Pn_pos {f : Nat → Int} {n : Nat} (h : ∀ k, k < n → 0 < f k) : 0 < Pn f n := by
  induction n with
  | zero => exact (by decide : (0 : Int) < 1)
  | succ n ih => exact Int.mul_pos (ih fun k hk => h k (by omega)) (h n (by omega))
theorem Pn_mul {f g : Nat → Int} {n : Nat} : Pn (fun k => f k * g k) n = Pn f n * Pn g n := by
  induction n with
  | zero => rfl
  | succ n ih =>
    show Pn (fun k => f k * g k) n * (f n * g n) = (Pn f n * f n) * (Pn g n * g n)
    rw [ih]; grind
theorem Pn_le {f g : Nat → Int} {n : Nat} (h : ∀ k, k < n → 0 < f k ∧ f k ≤ g k) : Pn f n ≤ Pn g n := by
  induction n with
  | zero => exact Int.le_refl _
  | succ n ih =>
    have p := Pn_pos (f := f) (n := n) fun k hk => (h k (by omega)).1
    have q := ih fun k hk => h k (by omega)
    have r := h n (by omega)
    exact Int.mul_le_mul q r.2 (Int.le_of_lt r.1) (by omega)
/-- a bound by powers of two -/
theorem Pn_two {f : Nat → Int} {e : Nat → Nat} {n : Nat} (h : ∀ k, k < n → 0 < f k ∧ f k ≤ 2 ^ e k) : Pn f n ≤ 2 ^ ((List.range n).map e).sum := by
  induction n with
  | zero => exact (by decide : (1 : Int) ≤ 2 ^ 0)
  | succ n ih =>
    have p := Pn_pos (f := f) (n := n) fun k hk => (h k (by omega)).1
    have q := ih fun k hk => h k (by omega)
    have r := h n (by omega)
    rw [List.range_succ, List.map_append, List.sum_append]
    simp only [List.map_cons, List.map_nil, List.sum_cons, List.sum_nil, Nat.add_zero]
    rw [Int.pow_add]
    exact Int.mul_le_mul q r.2 (Int.le_of_lt r.1) (Int.le_trans (Int.le_of_lt p) q)
section
variable {X Y : Nat → Q2} {n : Nat}
theorem dstep_pos {s a b : Q2} (hs : 0 < s.2) (ha : 0 < a.2) (hb : 0 < b.2) : 0 < (dstep s a b).2 ∧ (dstep s a b).2 ≤ s.2 * (a.2 * b.2) := by
  have ab := Int.mul_pos ha hb
  unfold dstep
  split
  · exact ⟨Int.mul_pos hs ab, Int.le_refl _⟩
  · refine ⟨hs, ?_⟩
    have : s.2 * 1 ≤ s.2 * (a.2 * b.2) := Int.mul_le_mul_of_nonneg_left (by omega) (Int.le_of_lt hs)
    omega
theorem dtb_pos (h1 : ∀ k, k < n → 0 < (X k).2) (h2 : ∀ k, k < n → 0 < (Y k).2) : 0 < (dtb X Y n).2 ∧ (dtb X Y n).2 ≤ Pn (fun k => (X k).2 * (Y k).2) n := by
  induction n with
  | zero => exact ⟨(by decide : (0 : Int) < 1), Int.le_refl _⟩
  | succ n ih =>
    obtain ⟨p, q⟩ := ih (fun k hk => h1 k (by omega)) fun k hk => h2 k (by omega)
    have a := h1 n (by omega)
    have b := h2 n (by omega)
    obtain ⟨p1, p2⟩ := dstep_pos p a b
    exact ⟨p1, Int.le_trans p2 (Int.mul_le_mul_of_nonneg_right q (Int.le_of_lt (Int.mul_pos a b)))⟩
theorem qv_dstep {s a b : Q2} (hs : 0 < s.2) (ha : 0 < a.2) (hb : 0 < b.2) : qv (dstep s a b) = qv s + qv a * qv b := by
  have n1 := cast_ne hs
  have n2 := cast_ne ha
  have n3 := cast_ne hb
  unfold dstep
  split
  · unfold qv
    simp only [Rat.intCast_mul, Rat.intCast_add]
    grind
  · rename_i h
    have : a.1 = 0 ∨ b.1 = 0 := by
      by_cases h1 : a.1 = 0
      · exact .inl h1
      · by_cases h2 : b.1 = 0
        · exact .inr h2
        · exact absurd ⟨h1, h2⟩ h
    have z : qv a * qv b = 0 := by
      unfold qv
      rcases this with e | e
      · rw [e]; show (0 : Rat) / _ * _ = 0; grind
      · rw [e]; show _ * ((0 : Rat) / _) = 0; grind
    rw [z]; grind
theorem qv_dtb (h1 : ∀ k, k < n → 0 < (X k).2) (h2 : ∀ k, k < n → 0 < (Y k).2) : qv (dtb X Y n) = Sm n fun k => qv (X k) * qv (Y k) := by
  induction n with
  | zero => show (0 : Rat) / 1 = 0; grind
  | succ n ih =>
    have i1 : ∀ k, k < n → 0 < (X k).2 := fun k hk => h1 k (by omega)
    have i2 : ∀ k, k < n → 0 < (Y k).2 := fun k hk => h2 k (by omega)
    show qv (dstep _ _ _) = _ + _
    rw [qv_dstep (dtb_pos i1 i2).1 (h1 n (by omega)) (h2 n (by omega)), ih i1 i2]
theorem qv_dot (h1 : ∀ k, k < n → 0 < (X k).2) (h2 : ∀ k, k < n → 0 < (Y k).2) : qv (fdot X Y n) = Sm n fun k => qv (X k) * qv (Y k) := by
  rw [← qv_dtb h1 h2]
  exact qv_lo (dtb_pos h1 h2).1
theorem dtb_Nm {A B : Nat} (h1 : ∀ k, k < n → Nm A (X k)) (h2 : ∀ k, k < n → Nm B (Y k)) : Nm (n * (A + B + 1) + 1) (dtb X Y n) := by
  induction n with
  | zero => exact ⟨(by decide : (0 : Int) < 1), by show 0 < _; exact Nat.pow_pos (by decide), by show 1 < 2 ^ _; rw [Nat.zero_mul]; decide⟩
  | succ n ih =>
    have p := ih (fun k hk => h1 k (by omega)) fun k hk => h2 k (by omega)
    have a := h1 n (by omega)
    have b := h2 n (by omega)
    obtain ⟨c1, _, _, c4, c5⟩ := a.raw b
    have e : (n + 1) * (A + B + 1) + 1 = (n * (A + B + 1) + 1 + (A + B)) + 1 := by rw [Nat.succ_mul]; omega
    show Nm _ (dstep _ _ _)
    rw [e]
    unfold dstep
    split
    · refine ⟨Int.mul_pos p.pos c1, add_bits (natAbs_lt_mul p.t c4) ?_, pow2_mono (natAbs_lt_mul p.b c4) (by omega)⟩
      rw [Nat.add_comm]; exact natAbs_lt_mul c5 p.b
    · exact p.mono (by omega)
theorem fdot_Nm {A B : Nat} (h1 : ∀ k, k < n → Nm A (X k)) (h2 : ∀ k, k < n → Nm B (Y k)) : Nm (n * (A + B + 1) + 1) (fdot X Y n) := by
  have := dtb_Nm h1 h2
  exact Nm.lo this.pos this.t this.b
theorem fdot_b (h1 : ∀ k, k < n → 0 < (X k).2) (h2 : ∀ k, k < n → 0 < (Y k).2) : 0 < (fdot X Y n).2 ∧ (fdot X Y n).2 ≤ Pn (fun k => (X k).2 * (Y k).2) n := by
  obtain ⟨p, q⟩ := dtb_pos h1 h2
  exact ⟨lo_pos p, Int.le_trans (lo_le2 p) q⟩
theorem Pn_mono {f : Nat → Int} {k n : Nat} (h : ∀ i, i < n → 0 < f i) (hk : k ≤ n) : Pn f k ≤ Pn f n := by
  induction n with
  | zero => rw [Nat.le_zero.mp hk]; exact Int.le_refl _
  | succ n ih =>
    by_cases e : k = n + 1
    · rw [e]; exact Int.le_refl _
    · have h1 := ih (fun i hi => h i (by omega)) (by omega)
      have p := Pn_pos (f := f) (n := n) fun i hi => h i (by omega)
      have q := h n (by omega)
      have : Pn f n * 1 ≤ Pn f n * f n := Int.mul_le_mul_of_nonneg_left (by omega) (Int.le_of_lt p)
      show Pn f k ≤ Pn f n * f n
      omega
end
end Dl
namespace Dl
open PySem PySem.Spec PyProof.Rows L2
instance : Deep Bool where
  d x := .bool x
  dp h := by cases h; exact .bl _
  n := 0
  sh x := ⟨rfl, Nat.le_refl _⟩
  eq x y := by show (x == y) = true ↔ _; simp
section
variable {α : Type} [Enc α] [A : Deep α]
theorem deep_dp {K : PySem.W.Frag} {M : AS} {H : Hp} : ∀ {vs : List V} {xs : List α}, Paired (Enc.R K M H) vs xs → DpAll K H vs (xs.map A.d)
  | _, _, .nil => .nil
  | _, _, .cons r t => .cons (A.dp r) (deep_dp t)
theorem deep_lay : ∀ xs : List α, PyData.canLayAll0 (xs.map A.d) = true
  | [] => rfl
  | x :: xs => by show (PyData.canLay0 (A.d x) && PyData.canLayAll0 (xs.map A.d)) = true; rw [(A.sh x).1, deep_lay xs]; rfl
theorem deep_dep : ∀ xs : List α, PyData.depthAll (xs.map A.d) ≤ A.n
  | [] => Nat.zero_le _
  | x :: xs => by
    have h1 := (A.sh x).2
    have h2 := deep_dep xs
    show max (PyData.depth (A.d x)) (PyData.depthAll (xs.map A.d)) ≤ A.n
    omega
theorem deep_eq : ∀ xs ys : List α, PyData.eqvAll (xs.map A.d) (ys.map A.d) = true ↔ xs = ys
  | [], [] => by simp [PyData.eqvAll]
  | [], _ :: _ => by simp [PyData.eqvAll]
  | _ :: _, [] => by simp [PyData.eqvAll]
  | x :: xs, y :: ys => by
    show (PyData.eqv (A.d x) (A.d y) && PyData.eqvAll (xs.map A.d) (ys.map A.d)) = true ↔ _
    rw [Bool.and_eq_true, A.eq, deep_eq xs ys]
    simp
instance : Deep (List α) where
  d x := .list (x.map A.d)
  dp h := by
    obtain ⟨a, vs, rfl, _, s, r⟩ := h
    exact .lst (.inl s) (deep_dp r)
  n := A.n + 1
  sh x := ⟨deep_lay x, Nat.succ_le_succ (deep_dep x)⟩
  eq x y := deep_eq x y
instance : Deep (Tup α) where
  d x := .tuple (x.l.map A.d)
  dp h := by
    obtain ⟨a, vs, rfl, s, r⟩ := h
    exact .tup s (deep_dp r)
  n := A.n + 1
  sh x := ⟨deep_lay x.l, Nat.succ_le_succ (deep_dep x.l)⟩
  eq x y := (deep_eq x.l y.l).trans ⟨fun h => by cases x; cases y; cases h; rfl, fun h => by rw [h]⟩
end
section
variable {X : Cx} {α β ρ : Type} [Enc α] [Enc β] [Enc ρ] {e a b elt : Expr} {es ifs : List Expr} {δ : List Slot} {μ : List Cell} {N B C : PN} {R : ρ → List Cell → Prop} {sts : List Stmt} {pos p : Pos} {scope : Scope} {own : List (Str × Nat)}
/-- the list of the cell at i, named by the local at j, is left as it is for good -/
theorem db_frz (i j : Nat) {l : Addr} {xs : List α} (hi : μ[i]? = some (lst l xs)) (hj : δ[j]? = some (sl (Ref.mk l))) (h : DB X sts (δ.set j (sl xs)) (μ.eraseIdx i) N R B C) : DB X sts δ μ N R B C := fun M σ H E D n r b c => by
  obtain ⟨e1, e2, e3⟩ := split_at hi
  have hh := E.h
  rw [e1] at hh
  obtain ⟨s2, h2, r2⟩ := freeze hh
  rw [← e1, ← e3] at s2
  rw [← e3] at h2
  obtain ⟨w, hw, rw'⟩ := E.get (x := Ref.mk l) hj
  cases rw'
  have E2 := (E.step s2 h2).put (i := j) (s := sl xs) r2
  have es : σ.set j (some (V.ref l)) = σ := by
    obtain ⟨hlt, e⟩ := List.getElem?_eq_some_iff.mp hw
    rw [← e]; exact List.set_getElem_self hlt
  rw [es] at E2
  exact h _ σ H E2 D (fun _ _ _ _ _ p s => n _ _ _ _ _ p (s2.trans s)) (fun _ _ _ _ _ p s => r _ _ _ _ _ p (s2.trans s)) (fun _ _ _ _ _ p s => b _ _ _ _ _ p (s2.trans s)) (fun _ _ _ _ _ p s => c _ _ _ _ _ p (s2.trans s))
theorem de_min {P : Int → List Cell → Prop} (hc : X.calm = true) (hm : X.mg "min" = none) (h : DE X a δ μ fun (i : Int) μ1 => DE X b δ μ1 fun (j : Int) μ2 => P (min i j) μ2) (hg : Gl X "min" := by rfl)
    (he : starEach [a, b] X.env = (false, eval a X.env) :: starEach [b] X.env := by rfl) (he2 : starEach [b] X.env = (false, eval b X.env) :: starEach [] X.env := by rfl) (hpl : (backTo pos (starEach [b] X.env)).any (·.1) = false := by rfl) : DE X (.Call (.Name "min" p) [a, b] [] pos) δ μ P :=
  de_cb (call_min2 hc) hm (by decide +kernel) (da_cons (h.mono fun i μ1 h => da_cons (h.mono fun j μ2 q => da_nil ⟨_, q, fun M H vs r Q k => by
    cases r with
    | cons r1 r =>
      cases r with
      | cons r2 r =>
        cases r
        cases r1; cases r2
        refine ⟨i, j, rfl, k _ ?_⟩
        show V.int _ = V.int _
        congr 1
        split <;> omega⟩) he2) he) hg (by decide) (by decide) he hpl
/-- x = [.. for i in range(n)]: the list is to change -/
theorem ds_lcRN {i0 i : Nat} {x0 y : Str} {px pos' py spos : Pos} (hc : X.calm = true) (hN : X.N.Nodup) (ok : BlkOk X.N X.env.scope scope own) (hi0 : i0 ∈ own.map (·.2)) (hg : ∀ (s : Shared) (H : Hp) (C : Addr) (cl : List (Str × Addr)) (fp : List Addr), PG (blk X scope s H C cl fp) (.Name x0 px) (gName i0)) (hl : ifs.length ≤ 1) (hm : X.mg "range" = none)
    (h : DE X a δ μ fun (n : Int) μ1 => (n < 2 ^ 62 ∧ -(2 ^ 62) ≤ n) ∧ ∃ J : Nat → List β → List Cell → Prop, J 0 [] μ1 ∧
      (∀ (k : Nat) ys μ', (k : Int) < n → J k ys μ' → Turns X scope elt ifs ((wipeD δ (own.map (·.2))).set i0 (sl (k : Int))) μ' (fun (y : β) μ3 => ys.length < 10000 ∧ J (k + 1) (ys ++ [y]) μ3) (fun μ3 => J (k + 1) ys μ3)) ∧ (∀ ys μ', J n.toNat ys μ' → ∀ D, N (δ.set i (sl (Ref.mk D))) (μ' ++ [lst D ys])))
    (hsw : swapsWith (.ListComp elt [⟨.Name x0 px, .Call (.Name "range" p) [a] [] pos', ifs, 0⟩] scope pos) (some (.Name y py)) spos.line X.env = pure true) (hy : X.N[i]? = some y := by rfl) (hyl : X.env.scope.names.lookup y = some .local := by rfl)
    (hgl : Gl X "range" := by rfl) (hs1 : starEach [a] X.env = [(false, eval a X.env)] := by rfl) (hs2 : starEach [a] X.env = (false, eval a X.env) :: starEach [] X.env := by rfl)
    (hs : ∀ x, foldedSetIterable (.Call (.Name "range" p) [a] [] pos') X.env x = pure x := by intro _; rfl) : DS X (.Assign [.Name y py] (.ListComp elt [⟨.Name x0 px, .Call (.Name "range" p) [a] [] pos', ifs, 0⟩] scope pos) spos) δ μ N R B C :=
  of_ps (ps_setLc hc hN hy hyl hsw (pi_range1 hgl hm (pa_cons (cE_pe a) pa_nil hs2) hs1) ok hg (pts_of hl) cB_pe hs) fun M σ H E D n r b c => we_lcRN (P := fun x μ' => N (δ.set i (sl x)) μ') hi0 h M σ H E _ fun x μ' M' v H' p s hh rr => n _ μ' M' _ H' p s ((E.step s hh).put rr)
end
end Dl
namespace K35
open PySem PySem.Spec PyProof.Rows L2 Dl
def topS (i : Nat) : Stmt := PySem.Challenge.pw_leastinbox_k35_lines_any_duals.main.body.getD i (.Pass ⟨0, 0, 0, 0⟩)
abbrev s_ratio : Stmt := topS 2
theorem sc_ratio : FnScope ["top", "bottom", "common"] ["top", "bottom"] (defScope s_ratio) := ⟨rfl, rfl, rfl, by decide +kernel, rfl, by decide +kernel, by decide +kernel⟩
abbrev s_add : Stmt := topS 3
theorem sc_add : FnScope ["one", "two"] ["one", "two"] (defScope s_add) := ⟨rfl, rfl, rfl, by decide +kernel, rfl, by decide +kernel, by decide +kernel⟩
abbrev s_sub : Stmt := topS 4
theorem sc_sub : FnScope ["one", "two"] ["one", "two"] (defScope s_sub) := ⟨rfl, rfl, rfl, by decide +kernel, rfl, by decide +kernel, by decide +kernel⟩
abbrev s_mul : Stmt := topS 5
theorem sc_mul : FnScope ["one", "two"] ["one", "two"] (defScope s_mul) := ⟨rfl, rfl, rfl, by decide +kernel, rfl, by decide +kernel, by decide +kernel⟩
abbrev s_less : Stmt := topS 6
theorem sc_less : FnScope ["one", "two"] ["one", "two"] (defScope s_less) := ⟨rfl, rfl, rfl, by decide +kernel, rfl, by decide +kernel, by decide +kernel⟩
abbrev s_upto : Stmt := topS 7
theorem sc_upto : FnScope ["one", "two"] ["one", "two"] (defScope s_upto) := ⟨rfl, rfl, rfl, by decide +kernel, rfl, by decide +kernel, by decide +kernel⟩
abbrev s_lesser : Stmt := topS 8
theorem sc_lesser : FnScope ["one", "two"] ["one", "two"] (defScope s_lesser) := ⟨rfl, rfl, rfl, by decide +kernel, rfl, by decide +kernel, by decide +kernel⟩
abbrev s_contains : Stmt := topS 10
theorem sc_contains : FnScope ["one", "number"] ["one", "number"] (defScope s_contains) := ⟨rfl, rfl, rfl, by decide +kernel, rfl, by decide +kernel, by decide +kernel⟩
abbrev s_dot : Stmt := topS 12
theorem sc_dot : FnScope ["one", "two", "top", "bottom", "k", "a", "b", "below"] ["one", "two"] (defScope s_dot) := ⟨rfl, rfl, rfl, by decide +kernel, rfl, by decide +kernel, by decide +kernel⟩
abbrev s_dual_worth : Stmt := topS 14
theorem sc_dual_worth : FnScope ["goal", "rows", "stretches", "duals", "row", "total", "j", "rest", "low", "high"] ["goal", "rows", "stretches", "duals"] (defScope s_dual_worth) := ⟨rfl, rfl, rfl, by decide +kernel, rfl, by decide +kernel, by decide +kernel⟩
abbrev s_broken_rows : Stmt := topS 15
theorem sc_broken_rows : GScope ["rows", "point", "r", "coefficients", "bound"] ["rows", "point"] (defScope s_broken_rows) := ⟨rfl, rfl, rfl, by decide +kernel, rfl, by decide +kernel, by decide +kernel⟩
abbrev s_keeps_rows : Stmt := topS 16
theorem sc_keeps_rows : FnScope ["rows", "stretches", "point", "j"] ["rows", "stretches", "point"] (defScope s_keeps_rows) := ⟨rfl, rfl, rfl, by decide +kernel, rfl, by decide +kernel, by decide +kernel⟩
abbrev s_law_jar : Stmt := topS 18
theorem sc_law_jar : FnScope ["script", "cell", "great", "mix"] ["script"] (defScope s_law_jar) := ⟨rfl, rfl, rfl, by decide +kernel, rfl, by decide +kernel, by decide +kernel⟩
abbrev s_law_draw : Stmt := topS 19
theorem sc_law_draw : FnScope ["jar", "many", "digit"] ["jar", "many"] (defScope s_law_draw) := ⟨rfl, rfl, rfl, by decide +kernel, rfl, by decide +kernel, by decide +kernel⟩
abbrev s_law_low : Stmt := topS 20
theorem sc_law_low : FnScope ["top", "bottom", "a", "b"] ["top", "bottom"] (defScope s_law_low) := ⟨rfl, rfl, rfl, by decide +kernel, rfl, by decide +kernel, by decide +kernel⟩
abbrev s_law_less : Stmt := topS 21
theorem sc_law_less : FnScope ["one", "two"] ["one", "two"] (defScope s_law_less) := ⟨rfl, rfl, rfl, by decide +kernel, rfl, by decide +kernel, by decide +kernel⟩
abbrev s_law_plus : Stmt := topS 22
theorem sc_law_plus : FnScope ["one", "two"] ["one", "two"] (defScope s_law_plus) := ⟨rfl, rfl, rfl, by decide +kernel, rfl, by decide +kernel, by decide +kernel⟩
abbrev s_law_minus : Stmt := topS 23
theorem sc_law_minus : FnScope ["one", "two"] ["one", "two"] (defScope s_law_minus) := ⟨rfl, rfl, rfl, by decide +kernel, rfl, by decide +kernel, by decide +kernel⟩
abbrev s_law_times : Stmt := topS 24
theorem sc_law_times : FnScope ["one", "two"] ["one", "two"] (defScope s_law_times) := ⟨rfl, rfl, rfl, by decide +kernel, rfl, by decide +kernel, by decide +kernel⟩
abbrev s_law_is_number : Stmt := topS 25
theorem sc_law_is_number : FnScope ["x", "part"] ["x"] (defScope s_law_is_number) := ⟨rfl, rfl, rfl, by decide +kernel, rfl, by decide +kernel, by decide +kernel⟩
abbrev s_law_dot : Stmt := topS 26
theorem sc_law_dot : FnScope ["one", "two", "top", "bottom", "k", "below"] ["one", "two"] (defScope s_law_dot) := ⟨rfl, rfl, rfl, by decide +kernel, rfl, by decide +kernel, by decide +kernel⟩
abbrev s_law_turned : Stmt := topS 27
theorem sc_law_turned : FnScope ["one"] ["one"] (defScope s_law_turned) := ⟨rfl, rfl, rfl, by decide +kernel, rfl, by decide +kernel, by decide +kernel⟩
abbrev s_law_shown : Stmt := topS 28
theorem sc_law_shown : FnScope ["goal", "rows", "stretches", "duals", "row", "total", "j", "taken", "rest", "low", "high"] ["goal", "rows", "stretches", "duals"] (defScope s_law_shown) := ⟨rfl, rfl, rfl, by decide +kernel, rfl, by decide +kernel, by decide +kernel⟩
abbrev s_law_stretch : Stmt := topS 29
theorem sc_law_stretch : FnScope ["jar", "bottom", "low"] ["jar"] (defScope s_law_stretch) := ⟨rfl, rfl, rfl, by decide +kernel, rfl, by decide +kernel, by decide +kernel⟩
abbrev s_law_number : Stmt := topS 30
theorem sc_law_number : FnScope ["jar", "large"] ["jar", "large"] (defScope s_law_number) := ⟨rfl, rfl, rfl, by decide +kernel, rfl, by decide +kernel, by decide +kernel⟩
abbrev s_law_vector : Stmt := topS 31
theorem sc_law_vector : FnScope ["jar", "many", "large", "j", "found", "at"] ["jar", "many", "large"] (defScope s_law_vector) := ⟨rfl, rfl, rfl, by decide +kernel, rfl, by decide +kernel, by decide +kernel⟩
abbrev s_law_rows : Stmt := topS 32
theorem sc_law_rows : FnScope ["jar", "many", "count", "inner", "kept", "large", "rows", "r", "coefficients", "slack"] ["jar", "many", "count", "inner", "kept", "large"] (defScope s_law_rows) := ⟨rfl, rfl, rfl, by decide +kernel, rfl, by decide +kernel, by decide +kernel⟩
abbrev s_law_points : Stmt := topS 33
theorem sc_law_points : FnScope ["jar", "stretches", "inner", "found", "many", "step", "point", "j", "low", "high", "tiny", "row"] ["jar", "stretches", "inner"] (defScope s_law_points) := ⟨rfl, rfl, rfl, by decide +kernel, rfl, by decide +kernel, by decide +kernel⟩
abbrev s_law_duals : Stmt := topS 34
theorem sc_law_duals : FnScope ["jar", "count", "large", "found", "r", "number"] ["jar", "count", "large"] (defScope s_law_duals) := ⟨rfl, rfl, rfl, by decide +kernel, rfl, by decide +kernel, by decide +kernel⟩
abbrev s_law_point_right : Stmt := topS 35
theorem sc_law_point_right : FnScope ["rows", "stretches", "point", "broken", "r", "inside", "j", "told", "answer"] ["rows", "stretches", "point"] (defScope s_law_point_right) := ⟨rfl, rfl, rfl, by decide +kernel, rfl, by decide +kernel, by decide +kernel⟩
abbrev s_law : Stmt := topS 36
theorem sc_law : FnScope ["script", "jar", "many", "count", "large", "kept", "j", "stretches", "row", "inner", "rows", "feasible", "point", "answer", "goal", "step", "duals", "told"] ["script"] (defScope s_law) := ⟨rfl, rfl, rfl, by decide +kernel, rfl, by decide +kernel, by decide +kernel⟩
/-- names of the top that no def changes -/
structure Txt (mg : Str → Option Value) : Prop where
  gcd : mg "gcd" = some (.builtin "math.gcd")
  range : mg "range" = none
  abs : mg "abs" = none
  int : mg "int" = none
  len : mg "len" = none
  isinstance : mg "isinstance" = none
  tuple : mg "tuple" = none
  bool : mg "bool" = none
  list : mg "list" = none
  min : mg "min" = none
/-! ### promises -/
def phRatio : Pm Q2 := fun as μ P => ∃ t b : Int, as = [sl t, sl b] ∧ (0 < b ∧ b < 2 ^ 9000) ∧ P (lo t b) μ
def Ok2 (x y : Q2) : Prop := (∃ A, A ≤ 40000000 ∧ Nm A x ∧ Nm A y) ∧ x.2 * y.2 < 2 ^ 9000
def ph2 (f : Q2 → Q2 → Q2) : Pm Q2 := fun as μ P => ∃ x y : Q2, as = [sl x, sl y] ∧ Ok2 x y ∧ P (f x y) μ
def OkC (x y : Q2) : Prop := ∃ A, A ≤ 40000000 ∧ Nm A x ∧ Nm A y
def phC (f : Q2 → Q2 → Bool) : Pm Bool := fun as μ P => ∃ x y : Q2, as = [sl x, sl y] ∧ OkC x y ∧ P (f x y) μ
def lessB (x y : Q2) : Bool := decide (x.1 * y.2 < y.1 * x.2)
def uptoB (x y : Q2) : Bool := decide (x.1 * y.2 ≤ y.1 * x.2)
def leastF (x y : Q2) : Q2 := if uptoB x y = true then x else y
def vec (l : List Q2) (k : Nat) : Q2 := l.getD k (0, 1)
theorem atI_vec {l : List Q2} {k : Nat} (h : k < l.length) : atI l (k : Int) = some (vec l k) := by
  refine atI_nat ?_
  unfold vec
  rw [List.getD_eq_getElem?_getD, List.getElem?_eq_getElem h]
  rfl
structure DotOk (X Y : Nat → Q2) (n : Nat) : Prop where
  le : n ≤ 100
  A : ∃ A, A ≤ 100000 ∧ (∀ k, k < n → Nm A (X k)) ∧ (∀ k, k < n → Nm A (Y k))
  b : Pn (fun k => (X k).2 * (Y k).2) n < 2 ^ 9000
def phDot : Pm Q2 := fun as μ P => ∃ (xs : Tup Q2) (ys : List Q2), (as = [sl xs, sl (Tup.mk ys)] ∨ as = [sl xs, sl ys]) ∧ (xs.l.length ≤ ys.length ∧ DotOk (vec xs.l) (vec ys) xs.l.length) ∧ P (fdot (vec xs.l) (vec ys) xs.l.length) μ
theorem Ok2.mul {x y : Q2} (h : Ok2 x y) : CMulX x.1 y.2 ∧ CMulX y.1 x.2 ∧ CMulX x.2 y.2 ∧ CMulX x.1 y.1 ∧ 0 < x.2 * y.2 := by
  obtain ⟨⟨A, hA, h1, h2⟩, _⟩ := h
  exact ⟨mulx_of h1.t h2.b (by omega), mulx_of h2.t h1.b (by omega), mulx_of h1.b h2.b (by omega), mulx_of h1.t h2.t (by omega), Int.mul_pos h1.pos h2.pos⟩
theorem OkC.mul {x y : Q2} (h : OkC x y) : CMulX x.1 y.2 ∧ CMulX y.1 x.2 := by
  obtain ⟨A, hA, h1, h2⟩ := h
  exact ⟨mulx_of h1.t h2.b (by omega), mulx_of h2.t h1.b (by omega)⟩
theorem add_one {x y : Q2} (h1 : x.2 = 1) (h2 : y.2 = 1) : fadd x y = (x.1 + y.1, 1) := by
  unfold fadd; rw [h1, h2, Int.mul_one, Int.mul_one]; exact lo_one _
theorem sub_one {x y : Q2} (h1 : x.2 = 1) (h2 : y.2 = 1) : fsub x y = (x.1 - y.1, 1) := by
  unfold fsub; rw [h1, h2, Int.mul_one, Int.mul_one]; exact lo_one _
theorem mul_one {x y : Q2} (h1 : x.2 = 1) (h2 : y.2 = 1) : fmul x y = (x.1 * y.1, 1) := by
  unfold fmul; rw [h1, h2]; exact lo_one _
section
variable {P : Program} {w : World} {K : PySem.W.Frag} {mg : Str → Option Value} {base : Heap}
abbrev cRatio (P : Program) (w : World) (K : PySem.W.Frag) (mg : Str → Option Value) (base : Heap) : Prop := Cal P w K mg base "ratio" 1 ["top", "bottom"] phRatio
theorem c_ratio (D : Dfn K mg "ratio" s_ratio ["top", "bottom"]) (T : Txt mg) : cRatio P w K mg base := by
  refine D.cal sc_ratio (fun as μ P h => ?_) fun f cdv A outer s H E hr as μ Pd h => ?_
  · obtain ⟨t, b, rfl, _⟩ := h; rfl
  obtain ⟨t, b, rfl, ⟨hb, hb2⟩, q⟩ := h
  have hg := gcd_pos (t := t) hb
  have hl := gcd_le (t := t) hb
  refine db_cons (ds_set (i := 2) sc_ratio.nd (de_gcd T.gcd (de_var (i := 0) rfl (de_var (i := 1) rfl ?_))))
  refine db_cons (ds_if (dt_lt (de_var (i := 1) rfl (de_int ⟨fun h => ?_, fun h => ?_⟩))))
  · exact absurd (of_decide_eq_true h) (by omega)
  refine db_nil ?_
  have hd : ∀ z : Int, CDivW z ((Nat.gcd t.natAbs b.natAbs : Nat) : Int) := fun z => divW_of (n := 9000) hg (by omega) (by decide) (by decide)
  exact db_one (ds_ret (de_tup2 (de_div (de_var (i := 0) rfl (de_var (i := 2) rfl ⟨hd _, (de_div (de_var (i := 1) rfl (de_var (i := 2) rfl ⟨hd _, q⟩)))⟩)))))
theorem c_add (D : Dfn K mg "add" s_add ["one", "two"]) (cr : cRatio P w K mg base) : Cal P w K mg base "add" 2 ["one", "two"] (ph2 fadd) := by
  refine D.cal sc_add (fun as μ P h => ?_) fun f cdv A outer s H E hr as μ Pd h => ?_
  · obtain ⟨x, y, rfl, _⟩ := h; rfl
  obtain ⟨x, y, rfl, ok, q⟩ := h
  obtain ⟨m1, m2, m3, m4, p⟩ := ok.mul
  have go : DB (cxD P w K mg base ["one", "two"] "add" s_add f cdv A outer s H E) [(defBody s_add).getD 1 (.Pass ⟨0, 0, 0, 0⟩)] [sl x, sl y] μ (fun _ μ' => ∃ x : Q2, (∀ K M H, Enc.R K M H .non x) ∧ Pd x μ') Pd (fun _ _ => False) (fun _ _ => False) :=
    db_one (ds_ret (de_c1 cr hr (by decide) (da_cons (de_add (de_mul (de_ix0 (de_var (i := 0) rfl (de_ix1 (de_var (i := 1) rfl ⟨m1, (de_mul (de_ix0 (de_var (i := 1) rfl (de_ix1 (de_var (i := 0) rfl ⟨m2, (da_cons (de_mul (de_ix1 (de_var (i := 0) rfl (de_ix1 (de_var (i := 1) rfl ⟨m3, (da_nil ⟨[], _, parts_none, _, _, rfl, ⟨p, ok.2⟩, q⟩)⟩))))))⟩)))))⟩)))))))))
  refine db_cons (ds_if (dw_and (dt_eqI (de_ix1 (de_var (i := 0) rfl (de_int ⟨fun h => (dw_and1 (dt_eqI (de_ix1 (de_var (i := 1) rfl (de_int ⟨fun h2 => ?_, fun _ => db_nil go⟩))))), fun _ => ⟨fun h => (nomatch h), fun _ => db_nil go⟩⟩))))).dt)
  refine db_one (ds_ret (de_tup2 (de_add (de_ix0 (de_var (i := 0) rfl (de_ix0 (de_var (i := 1) rfl (de_int ?_))))))))
  rw [← add_one (of_decide_eq_true h) (of_decide_eq_true h2)]
  exact q
theorem c_sub (D : Dfn K mg "sub" s_sub ["one", "two"]) (cr : cRatio P w K mg base) : Cal P w K mg base "sub" 2 ["one", "two"] (ph2 fsub) := by
  refine D.cal sc_sub (fun as μ P h => ?_) fun f cdv A outer s H E hr as μ Pd h => ?_
  · obtain ⟨x, y, rfl, _⟩ := h; rfl
  obtain ⟨x, y, rfl, ok, q⟩ := h
  obtain ⟨m1, m2, m3, m4, p⟩ := ok.mul
  have go : DB (cxD P w K mg base ["one", "two"] "sub" s_sub f cdv A outer s H E) [(defBody s_sub).getD 1 (.Pass ⟨0, 0, 0, 0⟩)] [sl x, sl y] μ (fun _ μ' => ∃ x : Q2, (∀ K M H, Enc.R K M H .non x) ∧ Pd x μ') Pd (fun _ _ => False) (fun _ _ => False) :=
    db_one (ds_ret (de_c1 cr hr (by decide) (da_cons (de_sub (de_mul (de_ix0 (de_var (i := 0) rfl (de_ix1 (de_var (i := 1) rfl ⟨m1, (de_mul (de_ix0 (de_var (i := 1) rfl (de_ix1 (de_var (i := 0) rfl ⟨m2, (da_cons (de_mul (de_ix1 (de_var (i := 0) rfl (de_ix1 (de_var (i := 1) rfl ⟨m3, (da_nil ⟨[], _, parts_none, _, _, rfl, ⟨p, ok.2⟩, q⟩)⟩))))))⟩)))))⟩)))))))))
  refine db_cons (ds_if (dw_and (dt_eqI (de_ix1 (de_var (i := 0) rfl (de_int ⟨fun h => (dw_and1 (dt_eqI (de_ix1 (de_var (i := 1) rfl (de_int ⟨fun h2 => ?_, fun _ => db_nil go⟩))))), fun _ => ⟨fun h => (nomatch h), fun _ => db_nil go⟩⟩))))).dt)
  refine db_one (ds_ret (de_tup2 (de_sub (de_ix0 (de_var (i := 0) rfl (de_ix0 (de_var (i := 1) rfl (de_int ?_))))))))
  rw [← sub_one (of_decide_eq_true h) (of_decide_eq_true h2)]
  exact q
theorem c_mul (D : Dfn K mg "mul" s_mul ["one", "two"]) (cr : cRatio P w K mg base) : Cal P w K mg base "mul" 2 ["one", "two"] (ph2 fmul) := by
  refine D.cal sc_mul (fun as μ P h => ?_) fun f cdv A outer s H E hr as μ Pd h => ?_
  · obtain ⟨x, y, rfl, _⟩ := h; rfl
  obtain ⟨x, y, rfl, ok, q⟩ := h
  obtain ⟨m1, m2, m3, m4, p⟩ := ok.mul
  have go : DB (cxD P w K mg base ["one", "two"] "mul" s_mul f cdv A outer s H E) [(defBody s_mul).getD 1 (.Pass ⟨0, 0, 0, 0⟩)] [sl x, sl y] μ (fun _ μ' => ∃ x : Q2, (∀ K M H, Enc.R K M H .non x) ∧ Pd x μ') Pd (fun _ _ => False) (fun _ _ => False) :=
    db_one (ds_ret (de_c1 cr hr (by decide) (da_cons (de_mul (de_ix0 (de_var (i := 0) rfl (de_ix0 (de_var (i := 1) rfl ⟨m4, (da_cons (de_mul (de_ix1 (de_var (i := 0) rfl (de_ix1 (de_var (i := 1) rfl ⟨m3, (da_nil ⟨[], _, parts_none, _, _, rfl, ⟨p, ok.2⟩, q⟩)⟩))))))⟩))))))))
  refine db_cons (ds_if (dw_and (dt_eqI (de_ix1 (de_var (i := 0) rfl (de_int ⟨fun h => (dw_and1 (dt_eqI (de_ix1 (de_var (i := 1) rfl (de_int ⟨fun h2 => ?_, fun _ => db_nil go⟩))))), fun _ => ⟨fun h => (nomatch h), fun _ => db_nil go⟩⟩))))).dt)
  refine db_one (ds_ret (de_tup2 (de_mul (de_ix0 (de_var (i := 0) rfl (de_ix0 (de_var (i := 1) rfl ⟨m4, (de_int ?_)⟩)))))))
  rw [← mul_one (of_decide_eq_true h) (of_decide_eq_true h2)]
  exact q
theorem c_less (D : Dfn K mg "less" s_less ["one", "two"]) : Cal P w K mg base "less" 1 ["one", "two"] (phC lessB) := by
  refine D.cal sc_less (fun as μ P h => ?_) fun f cdv A outer s H E hr as μ Pd h => ?_
  · obtain ⟨x, y, rfl, _⟩ := h; rfl
  obtain ⟨x, y, rfl, ok, q⟩ := h
  obtain ⟨m1, m2⟩ := ok.mul
  exact db_one (ds_ret (de_lt (de_mul (de_ix0 (de_var (i := 0) rfl (de_ix1 (de_var (i := 1) rfl ⟨m1, (de_mul (de_ix0 (de_var (i := 1) rfl (de_ix1 (de_var (i := 0) rfl ⟨m2, q⟩)))))⟩)))))))
theorem c_upto (D : Dfn K mg "upto" s_upto ["one", "two"]) : Cal P w K mg base "upto" 1 ["one", "two"] (phC uptoB) := by
  refine D.cal sc_upto (fun as μ P h => ?_) fun f cdv A outer s H E hr as μ Pd h => ?_
  · obtain ⟨x, y, rfl, _⟩ := h; rfl
  obtain ⟨x, y, rfl, ok, q⟩ := h
  obtain ⟨m1, m2⟩ := ok.mul
  exact db_one (ds_ret (de_le (de_mul (de_ix0 (de_var (i := 0) rfl (de_ix1 (de_var (i := 1) rfl ⟨m1, (de_mul (de_ix0 (de_var (i := 1) rfl (de_ix1 (de_var (i := 0) rfl ⟨m2, q⟩)))))⟩)))))))
def phLesser : Pm Q2 := fun as μ P => ∃ x y : Q2, as = [sl x, sl y] ∧ OkC x y ∧ P (leastF x y) μ
theorem c_lesser (D : Dfn K mg "lesser" s_lesser ["one", "two"]) (cu : Cal P w K mg base "upto" 1 ["one", "two"] (phC uptoB)) : Cal P w K mg base "lesser" 2 ["one", "two"] phLesser := by
  refine D.cal sc_lesser (fun as μ P h => ?_) fun f cdv A outer s H E hr as μ Pd h => ?_
  · obtain ⟨x, y, rfl, _⟩ := h; rfl
  obtain ⟨x, y, rfl, ok, q⟩ := h
  unfold leastF at q
  refine db_cons (ds_if (dt_val (de_c1 cu hr (by decide) (da_cons (de_var (i := 0) rfl (da_cons (de_var (i := 1) rfl (da_nil ⟨[], _, parts_none, _, _, rfl, ok, ⟨fun h => ?_, fun h => ?_⟩⟩))))))))
  · rw [if_pos h] at q
    exact db_one (ds_ret (de_var (i := 0) rfl q))
  · rw [h, if_neg (by decide)] at q
    exact db_nil (db_one (ds_ret (de_var (i := 1) rfl q)))
def phContains : Pm Bool := fun as μ P => ∃ (s : Q2 × Q2) (x : Q2), as = [sl s, sl x] ∧ (OkC s.1 x ∧ OkC x s.2) ∧ P (uptoB s.1 x && uptoB x s.2) μ
theorem c_contains (D : Dfn K mg "contains" s_contains ["one", "number"]) (cu : Cal P w K mg base "upto" 1 ["one", "two"] (phC uptoB)) : Cal P w K mg base "contains" 2 ["one", "number"] phContains := by
  refine D.cal sc_contains (fun as μ P h => ?_) fun f cdv A outer s H E hr as μ Pd h => ?_
  · obtain ⟨x, y, rfl, _⟩ := h; rfl
  obtain ⟨st, x, rfl, ⟨k1, k2⟩, q⟩ := h
  refine db_one (ds_ret (de_and (de_c1 cu hr (by decide) (da_cons (de_ix0 (de_var (i := 0) rfl (da_cons (de_var (i := 1) rfl (da_nil ⟨[], _, parts_none, _, _, rfl, k1, ⟨fun h => (de_one (de_c1 cu hr (by decide) (da_cons (de_var (i := 1) rfl (da_cons (de_ix1 (de_var (i := 0) rfl (da_nil ⟨[], _, parts_none, _, _, rfl, k2, ?_⟩)))))))), fun h => ?_⟩⟩)))))))))
  · rw [h, Bool.true_and] at q; exact q
  · rw [h, Bool.false_and] at q; exact q
/-- what a turn of the sum of products needs -/
theorem dot_turn {X Y : Nat → Q2} {n k : Nat} (ok : DotOk X Y n) (hk : k < n) : (CMulX (X k).2 (Y k).2 ∧ CMulX (dtb X Y k).1 ((X k).2 * (Y k).2) ∧ CMulX (X k).1 (Y k).1 ∧ CMulX ((X k).1 * (Y k).1) (dtb X Y k).2 ∧ CMulX (dtb X Y k).2 ((X k).2 * (Y k).2)) := by
  obtain ⟨A, hA, h1, h2⟩ := ok.A
  have hn := ok.le
  obtain ⟨p, a, b, c, d⟩ := (h1 k hk).raw (h2 k hk)
  have s := dtb_Nm (X := X) (Y := Y) (n := k) (A := A) (B := A) (fun i hi => h1 i (by omega)) fun i hi => h2 i (by omega)
  have s' : Nm (100 * 200002) (dtb X Y k) := s.mono (by
    have : k * (A + A + 1) ≤ 99 * 200001 := Nat.mul_le_mul (by omega) (by omega)
    omega)
  refine ⟨mulx_of (h1 k hk).b (h2 k hk).b (by omega), mulx_of s'.t c (by omega), mulx_of (h1 k hk).t (h2 k hk).t (by omega), mulx_of d s'.b (by omega), mulx_of s'.b c (by omega)⟩
theorem dot_end {X Y : Nat → Q2} {n : Nat} (ok : DotOk X Y n) : 0 < (dtb X Y n).2 ∧ (dtb X Y n).2 < 2 ^ 9000 := by
  obtain ⟨A, hA, h1, h2⟩ := ok.A
  obtain ⟨p, q⟩ := dtb_pos (X := X) (Y := Y) (n := n) (fun i hi => (h1 i hi).pos) fun i hi => (h2 i hi).pos
  exact ⟨p, Int.lt_of_le_of_lt q ok.b⟩
theorem dstep_yes {s a b : Q2} (h1 : a.1 ≠ 0) (h2 : b.1 ≠ 0) : dstep s a b = (s.1 * (a.2 * b.2) + a.1 * b.1 * s.2, s.2 * (a.2 * b.2)) := if_pos ⟨h1, h2⟩
theorem dstep_no {s a b : Q2} (h : ¬ (a.1 ≠ 0 ∧ b.1 ≠ 0)) : dstep s a b = s := if_neg h
abbrev cDot (P : Program) (w : World) (K : PySem.W.Frag) (mg : Str → Option Value) (base : Heap) : Prop := Cal P w K mg base "dot" 2 ["one", "two"] phDot
theorem c_dot (D : Dfn K mg "dot" s_dot ["one", "two"]) (T : Txt mg) (cr : cRatio P w K mg base) : cDot P w K mg base := by
  refine D.cal sc_dot (fun as μ P h => ?_) fun f cdv A outer s H E hr as μ Pd h => ?_
  · obtain ⟨x, y, rfl | rfl, _⟩ := h <;> rfl
  obtain ⟨xs, ys, e, ⟨hl, ok⟩, q⟩ := h
  obtain ⟨p1, p2⟩ := dot_end ok
  have hn := ok.le
  have hx := fun {k : Nat} (h : (k : Int) < (xs.l.length : Int)) => atI_vec (l := xs.l) (k := k) (by omega)
  have hy := fun {k : Nat} (h : (k : Int) < (xs.l.length : Int)) => atI_vec (l := ys) (k := k) (by omega)
  rcases e with rfl | rfl
  · refine db_cons (ds_set (i := 2) sc_dot.nd (de_int ?_))
    refine db_cons (ds_set (i := 3) sc_dot.nd (de_int ?_))
    refine db_cons (ds_range1 (i := 4) PassesOwn.never rfl sc_dot.nd T.range (de_lenT T.len (de_var (i := 0) rfl ⟨by omega, by omega, fun k δ' μ' => ∃ s4 s5 s6 s7, δ' = [sl xs, sl (Tup.mk ys), sl (dtb (vec xs.l) (vec ys) k).1, sl (dtb (vec xs.l) (vec ys) k).2, s4, s5, s6, s7] ∧ μ' = μ, ⟨_, _, _, _, rfl, rfl⟩, fun k δ' μ' hk hI => ?_, fun δ' μ' hI => ?_⟩)))
    · obtain ⟨s4, s5, s6, s7, rfl, rfl⟩ := hI
      obtain ⟨t1, t2, t3, t4, t5⟩ := dot_turn ok (k := k) (by omega)
      refine db_cons (ds_set (i := 5) sc_dot.nd (de_ixT (de_var (i := 0) rfl (de_var (i := 4) rfl ⟨_, hx hk, ?_⟩))))
      refine db_cons (ds_set (i := 6) sc_dot.nd (de_ixT (de_var (i := 1) rfl (de_var (i := 4) rfl ⟨_, hy hk, ?_⟩))))
      have stay : ¬ ((vec xs.l k).1 ≠ 0 ∧ (vec ys k).1 ≠ 0) → dtb (vec xs.l) (vec ys) (k + 1) = dtb (vec xs.l) (vec ys) k := fun h => dstep_no h
      refine db_cons (ds_if (dw_and (dt_neI (de_ix0 (de_var (i := 5) rfl (de_int ⟨fun h => (dw_and1 (dt_neI (de_ix0 (de_var (i := 6) rfl (de_int ⟨fun h2 => ?_, fun h2 => db_nil (db_nil ?_)⟩))))), fun h => ⟨fun h => (nomatch h), fun _ => db_nil (db_nil ?_)⟩⟩))))).dt)
      · refine db_cons (ds_set (i := 7) sc_dot.nd (de_mul (de_ix1 (de_var (i := 5) rfl (de_ix1 (de_var (i := 6) rfl ⟨t1, ?_⟩))))))
        refine db_cons (ds_set (i := 2) sc_dot.nd (de_add (de_mul (de_var (i := 2) rfl (de_var (i := 7) rfl ⟨t2, (de_mul (de_mul (de_ix0 (de_var (i := 5) rfl (de_ix0 (de_var (i := 6) rfl ⟨t3, (de_var (i := 3) rfl ⟨t4, ?_⟩)⟩))))))⟩)))))
        refine db_cons (ds_set (i := 3) sc_dot.nd (de_mul (de_var (i := 3) rfl (de_var (i := 7) rfl ⟨t5, ?_⟩))))
        have e : dtb (vec xs.l) (vec ys) (k + 1) = _ := dstep_yes (s := dtb (vec xs.l) (vec ys) k) (a := vec xs.l k) (b := vec ys k) (fun z => by rw [z] at h; exact nomatch h) (fun z => by rw [z] at h2; exact nomatch h2)
        exact db_nil (db_nil ⟨_, _, _, _, by rw [e]; rfl, rfl⟩)
      · have e := stay fun z => z.2 (of_decide_eq_true (by rw [Bool.not_eq_false'] at h2; exact h2))
        exact ⟨_, _, _, _, by rw [e]; rfl, rfl⟩
      · have e := stay fun z => z.1 (of_decide_eq_true (by rw [Bool.not_eq_false'] at h; exact h))
        exact ⟨_, _, _, _, by rw [e]; rfl, rfl⟩
    · obtain ⟨s4, s5, s6, s7, rfl, rfl⟩ := hI
      exact db_one (ds_ret (de_c1 cr hr (by decide) (da_cons (de_var (i := 2) rfl (da_cons (de_var (i := 3) rfl (da_nil ⟨[], _, parts_none, _, _, rfl, ⟨p1, p2⟩, q⟩)))))))
  · refine db_cons (ds_set (i := 2) sc_dot.nd (de_int ?_))
    refine db_cons (ds_set (i := 3) sc_dot.nd (de_int ?_))
    refine db_cons (ds_range1 (i := 4) PassesOwn.never rfl sc_dot.nd T.range (de_lenT T.len (de_var (i := 0) rfl ⟨by omega, by omega, fun k δ' μ' => ∃ s4 s5 s6 s7, δ' = [sl xs, sl ys, sl (dtb (vec xs.l) (vec ys) k).1, sl (dtb (vec xs.l) (vec ys) k).2, s4, s5, s6, s7] ∧ μ' = μ, ⟨_, _, _, _, rfl, rfl⟩, fun k δ' μ' hk hI => ?_, fun δ' μ' hI => ?_⟩)))
    · obtain ⟨s4, s5, s6, s7, rfl, rfl⟩ := hI
      obtain ⟨t1, t2, t3, t4, t5⟩ := dot_turn ok (k := k) (by omega)
      refine db_cons (ds_set (i := 5) sc_dot.nd (de_ixT (de_var (i := 0) rfl (de_var (i := 4) rfl ⟨_, hx hk, ?_⟩))))
      refine db_cons (ds_set (i := 6) sc_dot.nd (de_ixL (de_var (i := 1) rfl (de_var (i := 4) rfl ⟨_, hy hk, ?_⟩))))
      have stay : ¬ ((vec xs.l k).1 ≠ 0 ∧ (vec ys k).1 ≠ 0) → dtb (vec xs.l) (vec ys) (k + 1) = dtb (vec xs.l) (vec ys) k := fun h => dstep_no h
      refine db_cons (ds_if (dw_and (dt_neI (de_ix0 (de_var (i := 5) rfl (de_int ⟨fun h => (dw_and1 (dt_neI (de_ix0 (de_var (i := 6) rfl (de_int ⟨fun h2 => ?_, fun h2 => db_nil (db_nil ?_)⟩))))), fun h => ⟨fun h => (nomatch h), fun _ => db_nil (db_nil ?_)⟩⟩))))).dt)
      · refine db_cons (ds_set (i := 7) sc_dot.nd (de_mul (de_ix1 (de_var (i := 5) rfl (de_ix1 (de_var (i := 6) rfl ⟨t1, ?_⟩))))))
        refine db_cons (ds_set (i := 2) sc_dot.nd (de_add (de_mul (de_var (i := 2) rfl (de_var (i := 7) rfl ⟨t2, (de_mul (de_mul (de_ix0 (de_var (i := 5) rfl (de_ix0 (de_var (i := 6) rfl ⟨t3, (de_var (i := 3) rfl ⟨t4, ?_⟩)⟩))))))⟩)))))
        refine db_cons (ds_set (i := 3) sc_dot.nd (de_mul (de_var (i := 3) rfl (de_var (i := 7) rfl ⟨t5, ?_⟩))))
        have e : dtb (vec xs.l) (vec ys) (k + 1) = _ := dstep_yes (s := dtb (vec xs.l) (vec ys) k) (a := vec xs.l k) (b := vec ys k) (fun z => by rw [z] at h; exact nomatch h) (fun z => by rw [z] at h2; exact nomatch h2)
        exact db_nil (db_nil ⟨_, _, _, _, by rw [e]; rfl, rfl⟩)
      · have e := stay fun z => z.2 (of_decide_eq_true (by rw [Bool.not_eq_false'] at h2; exact h2))
        exact ⟨_, _, _, _, by rw [e]; rfl, rfl⟩
      · have e := stay fun z => z.1 (of_decide_eq_true (by rw [Bool.not_eq_false'] at h; exact h))
        exact ⟨_, _, _, _, by rw [e]; rfl, rfl⟩
    · obtain ⟨s4, s5, s6, s7, rfl, rfl⟩ := hI
      exact db_one (ds_ret (de_c1 cr hr (by decide) (da_cons (de_var (i := 2) rfl (da_cons (de_var (i := 3) rfl (da_nil ⟨[], _, parts_none, _, _, rfl, ⟨p1, p2⟩, q⟩)))))))
end
end K35
namespace K35
open PySem PySem.Spec PyProof.Rows L2 Dl
/-! ### rows, stretches -/
abbrev Row := Tup Q2 × Q2
abbrev St2 := Q2 × Q2
def rowAt (rs : List Row) (k : Nat) : Row := rs.getD k (⟨[]⟩, (0, 1))
def stAt (st : List St2) (k : Nat) : St2 := st.getD k ((0, 1), (0, 1))
theorem atI_row {l : List Row} {k : Nat} (h : k < l.length) : atI l (k : Int) = some (rowAt l k) := by
  refine atI_nat ?_
  unfold rowAt
  rw [List.getD_eq_getElem?_getD, List.getElem?_eq_getElem h]
  rfl
theorem atI_st {l : List St2} {k : Nat} (h : k < l.length) : atI l (k : Int) = some (stAt l k) := by
  refine atI_nat ?_
  unfold stAt
  rw [List.getD_eq_getElem?_getD, List.getElem?_eq_getElem h]
  rfl
theorem rowAt_of {l : List Row} {k : Nat} {x : Row} (h : l[k]? = some x) : rowAt l k = x ∧ k < l.length := by
  refine ⟨?_, (List.getElem?_eq_some_iff.mp h).1⟩
  unfold rowAt
  rw [List.getD_eq_getElem?_getD, h]
  rfl
theorem take_next {α β : Type} {f : α → β} {l : List α} {k : Nat} {x : α} (h : l[k]? = some x) : (l.map f).take (k + 1) = (l.map f).take k ++ [f x] := by
  rw [List.take_add_one, List.getElem?_map, h]
  rfl
theorem take_all {α β : Type} {f : α → β} {l : List α} : (l.map f).take l.length = l.map f := List.take_of_length_le (by rw [List.length_map]; exact Nat.le_refl _)
def restF (goal : List Q2) (rs : List Row) (du : List Q2) (j : Nat) : Q2 := fsub (vec goal j) (fdot (vec du) (vec (rs.map fun r => vec r.1.l j)) du.length)
def termF (goal : List Q2) (rs : List Row) (st : List St2) (du : List Q2) (j : Nat) : Q2 := leastF (fmul (restF goal rs du j) (stAt st j).1) (fmul (restF goal rs du j) (stAt st j).2)
def fworth (goal : List Q2) (rs : List Row) (st : List St2) (du : List Q2) : Nat → Q2
  | 0 => fdot (vec du) (vec (rs.map fun r => r.2)) du.length
  | j + 1 => fadd (fworth goal rs st du j) (termF goal rs st du j)
/-- sizes for the worth of duals -/
structure WorthOk (goal : List Q2) (rs : List Row) (st : List St2) (du : List Q2) : Prop where
  n : st.length ≤ 100
  m : rs.length ≤ 1000
  g : goal.length = st.length
  d : du.length ≤ rs.length
  r : ∀ k, k < rs.length → (rowAt rs k).1.l.length = st.length
  d0 : DotOk (vec du) (vec (rs.map fun r => r.2)) du.length
  dj : ∀ j, j < st.length → DotOk (vec du) (vec (rs.map fun r => vec r.1.l j)) du.length
  rest : ∀ j, j < st.length → Ok2 (vec goal j) (fdot (vec du) (vec (rs.map fun r => vec r.1.l j)) du.length)
  low : ∀ j, j < st.length → Ok2 (restF goal rs du j) (stAt st j).1
  high : ∀ j, j < st.length → Ok2 (restF goal rs du j) (stAt st j).2
  cmp : ∀ j, j < st.length → OkC (fmul (restF goal rs du j) (stAt st j).1) (fmul (restF goal rs du j) (stAt st j).2)
  sum : ∀ j, j < st.length → Ok2 (fworth goal rs st du j) (termF goal rs st du j)
def phWorth : Pm Q2 := fun as μ P => ∃ (goal : List Q2) (rs : List Row) (st : List St2) (du : List Q2), as = [sl (Tup.mk goal), sl (Tup.mk rs), sl (Tup.mk st), sl (Tup.mk du)] ∧ WorthOk goal rs st du ∧ P (fworth goal rs st du st.length) μ
/-- the row is not kept -/
def isBr (rs : List Row) (pt : List Q2) (k : Nat) : Bool := lessB (fdot (vec (rowAt rs k).1.l) (vec pt) (rowAt rs k).1.l.length) (rowAt rs k).2
def brL (rs : List Row) (pt : List Q2) : Nat → List Int
  | 0 => []
  | k + 1 => if isBr rs pt k = true then brL rs pt k ++ [(k : Int)] else brL rs pt k
theorem brL_len (rs : List Row) (pt : List Q2) : ∀ k, (brL rs pt k).length ≤ k
  | 0 => Nat.le_refl _
  | k + 1 => by
    have := brL_len rs pt k
    unfold brL
    split
    · rw [List.length_append]; exact Nat.succ_le_succ this
    · omega
structure RowsOk (rs : List Row) (pt : List Q2) : Prop where
  m : rs.length ≤ 1000
  l : ∀ k, k < rs.length → (rowAt rs k).1.l.length ≤ pt.length
  d : ∀ k, k < rs.length → DotOk (vec (rowAt rs k).1.l) (vec pt) (rowAt rs k).1.l.length
  c : ∀ k, k < rs.length → OkC (fdot (vec (rowAt rs k).1.l) (vec pt) (rowAt rs k).1.l.length) (rowAt rs k).2
structure InOk (st : List St2) (pt : List Q2) : Prop where
  n : st.length ≤ 100
  l : st.length ≤ pt.length
  c1 : ∀ k, k < st.length → OkC (stAt st k).1 (vec pt k)
  c2 : ∀ k, k < st.length → OkC (vec pt k) (stAt st k).2
def inB (st : List St2) (pt : List Q2) : Nat → Bool
  | 0 => true
  | k + 1 => inB st pt k && (uptoB (stAt st k).1 (vec pt k) && uptoB (vec pt k) (stAt st k).2)
theorem inB_false {st : List St2} {pt : List Q2} {k n : Nat} (h : inB st pt k = false) (hk : k ≤ n) : inB st pt n = false := by
  induction n with
  | zero => rw [Nat.le_zero.mp hk] at h; exact h
  | succ n ih =>
    by_cases e : k = n + 1
    · rw [← e]; exact h
    · show (inB st pt n && _) = false
      rw [ih (by omega)]; rfl
def phBroken : PmG := fun as μ P => ∃ (rs : List Row) (pt : List Q2), as = [sl (Tup.mk rs), sl (Tup.mk pt)] ∧ RowsOk rs pt ∧ P ((brL rs pt rs.length).map fun x => sl x) μ
def keepB (rs : List Row) (st : List St2) (pt : List Q2) : Bool := inB st pt st.length && decide (((brL rs pt rs.length).length : Int) = 0)
def phKeeps : Pm Bool := fun as μ P => ∃ (rs : List Row) (st : List St2) (pt : List Q2), as = [sl (Tup.mk rs), sl (Tup.mk st), sl (Tup.mk pt)] ∧ μ = [] ∧ (RowsOk rs pt ∧ InOk st pt) ∧ P (keepB rs st pt) []
section
variable {P : Program} {w : World} {K : PySem.W.Frag} {mg : Str → Option Value} {base : Heap}
theorem c_worth (D : Dfn K mg "dual_worth" s_dual_worth ["goal", "rows", "stretches", "duals"]) (T : Txt mg) (cd : cDot P w K mg base) (ca : Cal P w K mg base "add" 2 ["one", "two"] (ph2 fadd)) (cs : Cal P w K mg base "sub" 2 ["one", "two"] (ph2 fsub)) (cm : Cal P w K mg base "mul" 2 ["one", "two"] (ph2 fmul))
    (cl : Cal P w K mg base "lesser" 2 ["one", "two"] phLesser) : Cal P w K mg base "dual_worth" 3 ["goal", "rows", "stretches", "duals"] phWorth := by
  refine D.cal sc_dual_worth (fun as μ P h => ?_) fun f cdv A outer s H E hr as μ Pd h => ?_
  · obtain ⟨_, _, _, _, rfl, _⟩ := h; rfl
  obtain ⟨goal, rs, st, du, rfl, ok, q⟩ := h
  have hm := ok.m
  have hn := ok.n
  refine db_cons (ds_set (i := 5) sc_dual_worth.nd (de_c1 cd hr (by decide) (da_cons (de_var (i := 3) rfl (da_cons (de_lcT (own := [("row", 4)]) (β := Q2) rfl sc_dual_worth.nd (blkOk_by (N := ["goal", "rows", "stretches", "duals", "row", "total", "j", "rest", "low", "high"]) (sc := defScope s_dual_worth) (by decide +kernel)) (fun (x : Row) δ => δ.set 4 (sl x)) (fun _ _ _ _ _ => pg_name (i := 4) sc_dual_worth.nd rfl (Or.inl rfl)) (fun x => wb_name) (by decide)
    (de_var (i := 1) rfl ⟨fun k ys μ' => ys = (rs.map fun r => r.2).take k ∧ μ' = μ, ⟨rfl, rfl⟩, fun k x ys μ' hx hJ => ?_, fun ys μ' hJ => ?_⟩)))))))
  · obtain ⟨rfl, rfl⟩ := hJ
    obtain ⟨e, hk⟩ := rowAt_of hx
    intro s H C cl fp
    refine de_ix1 (de_var (i := 4) rfl ⟨?_, (take_next (f := fun r : Row => r.2) hx).symm, rfl⟩)
    have h1 : ((rs.map fun r => r.2).take k).length ≤ k := List.length_take_le ..
    have h2 : k < rs.length := hk
    omega
  obtain ⟨e, rfl⟩ := hJ
  have e : ys = rs.map fun r => r.2 := e.trans take_all
  subst e
  refine da_nil ⟨[], _, parts_none, _, _, .inr rfl, ⟨by rw [List.length_map]; exact ok.d, ok.d0⟩, ?_⟩
  refine db_cons (ds_range1 (i := 6) PassesOwn.never rfl sc_dual_worth.nd T.range (de_lenT T.len (de_var (i := 2) rfl ⟨by show (st.length : Int) < _; omega, by show _ ≤ (st.length : Int); omega, fun k δ' μ1 => ∃ s4 s6 s7 s8 s9, δ' = [sl (Tup.mk goal), sl (Tup.mk rs), sl (Tup.mk st), sl (Tup.mk du), s4, sl (fworth goal rs st du k), s6, s7, s8, s9] ∧ μ1 = μ', ⟨_, _, _, _, _, rfl, rfl⟩, fun k δ' μ1 hk hI => ?_, fun δ' μ1 hI => ?_⟩)))
  · obtain ⟨s4, s6, s7, s8, s9, rfl, rfl⟩ := hI
    have hk : k < st.length := Int.ofNat_lt.mp hk
    refine db_cons (ds_set (i := 7) sc_dual_worth.nd (de_c1 cs hr (by decide) (da_cons (de_ixT (de_var (i := 0) rfl (de_var (i := 6) rfl ⟨_, atI_vec (by rw [ok.g]; exact hk), (da_cons (de_c1 cd hr (by decide) (da_cons (de_var (i := 3) rfl (da_cons
      (de_lcT (own := [("row", 4)]) (β := Q2) rfl sc_dual_worth.nd (blkOk_by (N := ["goal", "rows", "stretches", "duals", "row", "total", "j", "rest", "low", "high"]) (sc := defScope s_dual_worth) (by decide +kernel)) (fun (x : Row) δ => δ.set 4 (sl x)) (fun _ _ _ _ _ => pg_name (i := 4) sc_dual_worth.nd rfl (Or.inl rfl)) (fun x => wb_name) (by decide)
    (de_var (i := 1) rfl ⟨fun i ys μ' => ys = (rs.map fun r => vec r.1.l k).take i ∧ μ' = μ1, ⟨rfl, rfl⟩, fun i x ys μ' hx hJ => ?_, fun ys μ' hJ => ?_⟩)))))))⟩))))))
    · obtain ⟨rfl, rfl⟩ := hJ
      obtain ⟨e, hi⟩ := rowAt_of hx
      intro s H C cl fp
      refine de_ixT (de_ix0 (de_var (i := 4) rfl (de_var (i := 6) rfl ⟨_, atI_vec ?_, ⟨?_, (take_next (f := fun r : Row => vec r.1.l k) hx).symm, rfl⟩⟩)))
      · rw [← e, ok.r i hi]; exact hk
      · have h1 : ((rs.map fun r : Row => vec r.1.l k).take i).length ≤ i := List.length_take_le ..
        have h2 : i < rs.length := hi
        omega
    obtain ⟨e, rfl⟩ := hJ
    have e : ys = rs.map fun r => vec r.1.l k := e.trans take_all
    subst e
    refine da_nil ⟨[], _, parts_none, _, _, .inr rfl, ⟨by rw [List.length_map]; exact ok.d, ok.dj k hk⟩, (da_nil ⟨[], _, parts_none, _, _, rfl, ok.rest k hk, ?_⟩)⟩
    refine db_cons (ds_unpack2 (i := 8) (j := 9) rfl sc_dual_worth.nd (de_ixT (de_var (i := 2) rfl (de_var (i := 6) rfl ⟨_, atI_st hk, ?_⟩))))
    refine db_cons (ds_set (i := 5) sc_dual_worth.nd (de_c1 ca hr (by decide) (da_cons (de_var (i := 5) rfl (da_cons (de_c1 cl hr (by decide) (da_cons (de_c1 cm hr (by decide) (da_cons (de_var (i := 7) rfl (da_cons (de_var (i := 8) rfl (da_nil ⟨[], _, parts_none, _, _, rfl, ok.low k hk, (da_cons (de_c1 cm hr (by decide) (da_cons (de_var (i := 7) rfl (da_cons (de_var (i := 9) rfl (da_nil ⟨[], _, parts_none, _, _, rfl, ok.high k hk, (da_nil ⟨[], _, parts_none, _, _, rfl, ok.cmp k hk, (da_nil ⟨[], _, parts_none, _, _, rfl, ok.sum k hk, ?_⟩)⟩)⟩)))))))⟩)))))))))))))
    exact db_nil ⟨_, _, _, _, _, rfl, rfl⟩
  obtain ⟨s4, s6, s7, s8, s9, rfl, rfl⟩ := hI
  exact db_one (ds_ret (de_var (i := 5) rfl q))
theorem c_broken (D : Dfn K mg "broken_rows" s_broken_rows ["rows", "point"]) (T : Txt mg) (cd : cDot P w K mg base) (cl : Cal P w K mg base "less" 1 ["one", "two"] (phC lessB)) : CalG P w K mg base "broken_rows" 3 ["rows", "point"] phBroken := by
  refine D.calG sc_broken_rows (fun as μ P h => ?_) fun f cdv A outer s H E pn hr as μ Pd h => ?_
  · obtain ⟨_, _, rfl, _⟩ := h; rfl
  obtain ⟨rs, pt, rfl, ok, q⟩ := h
  have hm := ok.m
  refine dy_cons (dy_range1 (i := 2) owns_gcx rfl sc_broken_rows.nd T.range (de_lenT T.len (de_var (i := 0) rfl ⟨by show (rs.length : Int) < _; omega, by show _ ≤ (rs.length : Int); omega, fun k os δ' μ' => ∃ s2 s3 s4, δ' = [sl (Tup.mk rs), sl (Tup.mk pt), s2, s3, s4] ∧ os = (brL rs pt k).map (fun x => sl x) ∧ μ' = μ, ⟨_, _, _, rfl, rfl, rfl⟩, fun k os δ' μ' hk hI => ?_, fun os δ' μ' hI => ?_⟩)))
  · obtain ⟨s2, s3, s4, rfl, rfl, rfl⟩ := hI
    have hk : k < rs.length := Int.ofNat_lt.mp hk
    have hb := brL_len rs pt k
    refine dy_cons (dy_plain (ds_unpack2 (i := 3) (j := 4) rfl sc_broken_rows.nd (de_ixT (de_var (i := 0) rfl (de_var (i := 2) rfl ⟨_, atI_row hk, ?_⟩)))))
    refine dy_one (dy_if (dt_val (de_c1 cl hr (by decide) (da_cons (de_c1 cd hr (by decide) (da_cons (de_var (i := 3) rfl (da_cons (de_var (i := 1) rfl (da_nil ⟨[], _, parts_none, _, _, .inl rfl, ⟨ok.l k hk, ok.d k hk⟩, (da_cons (de_var (i := 4) rfl (da_nil ⟨[], _, parts_none, _, _, rfl, ok.c k hk, ⟨fun h => ?_, fun h => ?_⟩⟩)))⟩))))))))))
    · have h : isBr rs pt k = true := h
      refine dy_one (dy_yield (by rw [List.length_map]; omega) (de_var (i := 2) rfl ?_))
      refine ⟨_, _, _, rfl, ?_, rfl⟩
      show _ = (if isBr rs pt k = true then brL rs pt k ++ [(k : Int)] else brL rs pt k).map _
      rw [if_pos h, List.map_append]
      rfl
    · have h : isBr rs pt k = false := h
      refine dy_nil ⟨_, _, _, rfl, ?_, rfl⟩
      show _ = (if isBr rs pt k = true then brL rs pt k ++ [(k : Int)] else brL rs pt k).map _
      rw [h]
      rfl
  obtain ⟨s2, s3, s4, rfl, rfl, rfl⟩ := hI
  exact dy_nil q
theorem c_keeps (D : Dfn K mg "keeps_rows" s_keeps_rows ["rows", "stretches", "point"]) (T : Txt mg) (cc : Cal P w K mg base "contains" 2 ["one", "number"] phContains) (cb : CalG P w K mg base "broken_rows" 3 ["rows", "point"] phBroken) : Cal P w K mg base "keeps_rows" 7 ["rows", "stretches", "point"] phKeeps := by
  refine D.cal sc_keeps_rows (fun as μ P h => ?_) fun f cdv A outer s H E hr as μ Pd h => ?_
  · obtain ⟨_, _, _, rfl, _⟩ := h; rfl
  obtain ⟨rs, st, pt, rfl, rfl, ⟨ok, oi⟩, q⟩ := h
  have hn := oi.n
  have hl := oi.l
  unfold keepB at q
  refine db_cons (ds_range1 (i := 3) PassesOwn.never rfl sc_keeps_rows.nd T.range (de_lenT T.len (de_var (i := 1) rfl ⟨by show (st.length : Int) < _; omega, by show _ ≤ (st.length : Int); omega, fun k δ' μ1 => ∃ s3, δ' = [sl (Tup.mk rs), sl (Tup.mk st), sl (Tup.mk pt), s3] ∧ μ1 = [] ∧ inB st pt k = true, ⟨_, rfl, rfl, rfl⟩, fun k δ' μ1 hk hI => ?_, fun δ' μ1 hI => ?_⟩)))
  · obtain ⟨s3, rfl, rfl, hb⟩ := hI
    have hk : k < st.length := Int.ofNat_lt.mp hk
    have e : inB st pt (k + 1) = (uptoB (stAt st k).1 (vec pt k) && uptoB (vec pt k) (stAt st k).2) := by show (inB st pt k && _) = _; rw [hb, Bool.true_and]
    refine db_cons (ds_if (dt_not (dt_val (de_c1 cc hr (by decide) (da_cons (de_ixT (de_var (i := 1) rfl (de_var (i := 3) rfl ⟨_, atI_st hk, (da_cons (de_ixT (de_var (i := 2) rfl (de_var (i := 3) rfl ⟨_, atI_vec (Nat.lt_of_lt_of_le hk hl), (da_nil ⟨[], _, parts_none, _, _, rfl, ⟨oi.c1 k hk, oi.c2 k hk⟩, ⟨fun h => ?_, fun h => ?_⟩⟩)⟩))))⟩))))))))
    · rw [← e, Bool.not_eq_true'] at h
      rw [inB_false h hk, Bool.false_and] at q
      exact db_one (ds_ret (de_bl q))
    · rw [← e, Bool.not_eq_false'] at h
      exact db_nil (db_nil ⟨_, rfl, rfl, h⟩)
  obtain ⟨s3, rfl, rfl, hb⟩ := hI
  have hb : inB st pt st.length = true := hb
  rw [hb, Bool.true_and] at q
  exact db_one (ds_ret (de_eqI (de_lenL (α := Int) T.len (de_frz 0 (de_listG cb hr (by decide) T.list (da_cons (de_var (i := 0) rfl (da_cons (de_var (i := 2) rfl (da_nil ⟨[], _, parts_none, _, _, rfl, ok, _, rfl, fun l => ⟨_, rfl, de_int q⟩⟩)))))))))) 
end
end K35
namespace K35
open PySem PySem.Spec PyProof.Rows L2 Dl
/-! ### the law's own numbers -/
theorem plus_turned {x t : Q2} : fadd x (-t.1, t.2) = fsub x t := by
  unfold fadd fsub
  show lo (x.1 * t.2 + -t.1 * x.2) _ = lo (x.1 * t.2 - t.1 * x.2) _
  rw [Int.neg_mul, Int.sub_eq_add_neg]
theorem Ok2.turned {x t : Q2} (h : Ok2 x t) : Ok2 x (-t.1, t.2) := by
  obtain ⟨⟨A, hA, h1, h2⟩, hb⟩ := h
  exact ⟨⟨A, hA, h1, ⟨h2.pos, by show (-t.1).natAbs < _; rw [Int.natAbs_neg]; exact h2.t, h2.b⟩⟩, hb⟩
theorem OkC.swap {x y : Q2} (h : OkC x y) : OkC y x := by
  obtain ⟨A, hA, h1, h2⟩ := h
  exact ⟨A, hA, h2, h1⟩
theorem least_other {low high : Q2} : leastF low high = if lessB high low = true then high else low := by
  unfold leastF lessB uptoB
  by_cases h : low.1 * high.2 ≤ high.1 * low.2
  · rw [if_pos (decide_eq_true h), if_neg]
    intro z
    have := of_decide_eq_true z
    omega
  · rw [if_neg (fun z => h (of_decide_eq_true z)), if_pos (decide_eq_true (by omega))]
def phIsNum : Pm Bool := fun as μ P => ∃ x : Q2, as = [sl x] ∧ (0 < x.2 ∧ x.2 < 2 ^ 9000 ∧ lo x.1 x.2 = x) ∧ P true μ
def phTurned : Pm Q2 := fun as μ P => ∃ x : Q2, as = [sl x] ∧ True ∧ P (-x.1, x.2) μ
section
variable {P : Program} {w : World} {K : PySem.W.Frag} {mg : Str → Option Value} {base : Heap}
abbrev cLow (P : Program) (w : World) (K : PySem.W.Frag) (mg : Str → Option Value) (base : Heap) : Prop := Cal P w K mg base "_law_low" 1 ["top", "bottom"] phRatio
theorem c_low (D : Dfn K mg "_law_low" s_law_low ["top", "bottom"]) (T : Txt mg) : cLow P w K mg base := by
  refine D.cal sc_law_low (fun as μ P h => ?_) fun f cdv A outer s H E hr as μ Pd h => ?_
  · obtain ⟨t, b, rfl, _⟩ := h; rfl
  obtain ⟨t, b, rfl, ⟨hb, hb2⟩, q⟩ := h
  have hg := gcd_pos (t := t) hb
  have hl := gcd_le (t := t) hb
  have hd : ∀ z : Int, CDivW z ((Nat.gcd t.natAbs b.natAbs : Nat) : Int) := fun z => divW_of (n := 9000) hg (by omega) (by decide) (by decide)
  refine db_cons (ds_set (i := 2) sc_law_low.nd (de_abs T.abs (de_var (i := 0) rfl ?_)))
  refine db_cons (ds_set (i := 3) sc_law_low.nd (de_abs T.abs (de_var (i := 1) rfl ?_)))
  refine db_cons (ds_while PassesOwn.never (fun m δ' μ' => ∃ x y : Nat, δ' = [sl t, sl b, sl (x : Int), sl (y : Int)] ∧ μ' = μ ∧ m = y ∧ Nat.gcd x y = Nat.gcd t.natAbs b.natAbs) b.natAbs ⟨_, _, rfl, rfl, rfl, rfl⟩ fun m δ' μ' hI => ?_)
  obtain ⟨x, y, rfl, rfl, rfl, e⟩ := hI
  refine dt_gt (de_var (i := 3) rfl (de_int ⟨fun h => ⟨fun δ2 μ2 => ∃ x' y' : Nat, δ2 = [sl t, sl b, sl (x' : Int), sl (y' : Int)] ∧ μ2 = μ' ∧ y' < m ∧ Nat.gcd x' y' = Nat.gcd t.natAbs b.natAbs, ?_, ?_⟩, fun h => ?_⟩))
  · rintro δ2 μ2 ⟨x', y', e1, e2, l, r⟩
    exact ⟨y', l, x', y', e1, e2, rfl, r⟩
  · have h := of_decide_eq_true h
    have hm : 0 < m := by omega
    refine db_one (ds_par (i := 2) (j := 3) rfl sc_law_low.nd (by decide) (de_var (i := 3) rfl (de_mod (de_intI T.int (de_var (i := 2) rfl (de_var (i := 3) rfl ⟨h, ?_⟩))))) (by rfl))
    refine ⟨m, x % m, rfl, rfl, Nat.mod_lt _ hm, ?_⟩
    rw [Nat.gcd_comm, ← Nat.gcd_rec, Nat.gcd_comm] <;> exact e
  have h := of_decide_eq_false h
  have hm : m = 0 := by omega
  subst hm
  rw [Nat.gcd_zero_right] at e
  subst e
  refine db_cons (ds_if (dt_lt (de_var (i := 1) rfl (de_int ⟨fun h => ?_, fun h => ?_⟩))))
  · exact absurd (of_decide_eq_true h) (by omega)
  refine db_nil ?_
  exact db_one (ds_ret (de_tup2 (de_div (de_var (i := 0) rfl (de_var (i := 2) rfl ⟨hd _, (de_div (de_var (i := 1) rfl (de_var (i := 2) rfl ⟨hd _, q⟩)))⟩)))))
theorem c_isnum (D : Dfn K mg "_law_is_number" s_law_is_number ["x"]) (T : Txt mg) (cl : cLow P w K mg base) : Cal P w K mg base "_law_is_number" 2 ["x"] phIsNum := by
  refine D.cal sc_law_is_number (fun as μ P h => ?_) fun f cdv A outer s H E hr as μ Pd h => ?_
  · obtain ⟨x, rfl, _⟩ := h; rfl
  obtain ⟨x, rfl, ⟨h1, h2, h3⟩, q⟩ := h
  refine db_cons (ds_if (dw_or (dt_not (dt_val (de_isi (T := "tuple") (r := true) (by decide +kernel) T.isinstance T.tuple (by decide +kernel) (de_var (i := 0) rfl ⟨fun h => (nomatch h), fun _ => (dw_or1 (dt_neI (de_len2 T.len (de_var (i := 0) rfl (de_int ⟨fun h => absurd h (by decide), fun h => ?_⟩)))))⟩))))).dt)
  refine db_nil ?_
  refine db_cons (ds_forT PassesOwn.never rfl (pg_name (i := 1) sc_law_is_number.nd rfl (Or.inl rfl)) (fun x δ => δ.set 1 (sl x)) (fun x δ => wg_name) (de_tupOf2 (de_var (i := 0) rfl ⟨fun k δ1 μ1 => ∃ s, δ1 = [sl x, s] ∧ μ1 = μ, ⟨_, rfl, rfl⟩, fun k y δ1 μ1 hx hI => ?_, fun δ1 μ1 hI => ?_⟩)))
  · obtain ⟨s, rfl, rfl⟩ := hI
    refine db_cons (ds_if (dw_or (dt_not (dt_val (de_isi (T := "int") (r := true) (by decide +kernel) T.isinstance T.int (by decide +kernel) (de_var (i := 1) rfl ⟨fun h => (nomatch h), fun h => (dw_or1 (dt_val (de_isi (T := "bool") (r := false) (by decide +kernel) T.isinstance T.bool (by decide +kernel) (de_var (i := 1) rfl ⟨fun h => (nomatch h), fun h => ?_⟩))))⟩))))).dt)
    exact db_nil (db_nil ⟨_, rfl, rfl⟩)
  obtain ⟨s, rfl, rfl⟩ := hI
  refine db_one (ds_ret (de_and (de_ge (de_ix1 (de_var (i := 0) rfl (de_int ⟨fun h => ?_, fun h => ?_⟩))))))
  · refine de_one (de_eqD (α := Q2) (un_of hr) (by decide) ?_)
    refine (de_c1 cl hr (by decide) (da_cons (de_ix0 (de_var (i := 0) rfl (da_cons (de_ix1 (de_var (i := 0) rfl (da_nil ⟨[], _, parts_none, _, _, rfl, ⟨h1, h2⟩, (de_var (i := 0) rfl fun r hr1 => ?_)⟩))))))))
    rw [hr1.mpr h3]; exact q
  · exact absurd (of_decide_eq_false h) (by omega)
theorem c_plus (D : Dfn K mg "_law_plus" s_law_plus ["one", "two"]) (cr : cLow P w K mg base) : Cal P w K mg base "_law_plus" 2 ["one", "two"] (ph2 fadd) := by
  refine D.cal sc_law_plus (fun as μ P h => ?_) fun f cdv A outer s H E hr as μ Pd h => ?_
  · obtain ⟨x, y, rfl, _⟩ := h; rfl
  obtain ⟨x, y, rfl, ok, q⟩ := h
  obtain ⟨m1, m2, m3, m4, p⟩ := ok.mul
  exact db_one (ds_ret (de_c1 cr hr (by decide) (da_cons (de_add (de_mul (de_ix0 (de_var (i := 0) rfl (de_ix1 (de_var (i := 1) rfl ⟨m1, (de_mul (de_ix0 (de_var (i := 1) rfl (de_ix1 (de_var (i := 0) rfl ⟨m2, (da_cons (de_mul (de_ix1 (de_var (i := 0) rfl (de_ix1 (de_var (i := 1) rfl ⟨m3, (da_nil ⟨[], _, parts_none, _, _, rfl, ⟨p, ok.2⟩, q⟩)⟩))))))⟩)))))⟩)))))))))
theorem c_minus (D : Dfn K mg "_law_minus" s_law_minus ["one", "two"]) (cr : cLow P w K mg base) : Cal P w K mg base "_law_minus" 2 ["one", "two"] (ph2 fsub) := by
  refine D.cal sc_law_minus (fun as μ P h => ?_) fun f cdv A outer s H E hr as μ Pd h => ?_
  · obtain ⟨x, y, rfl, _⟩ := h; rfl
  obtain ⟨x, y, rfl, ok, q⟩ := h
  obtain ⟨m1, m2, m3, m4, p⟩ := ok.mul
  exact db_one (ds_ret (de_c1 cr hr (by decide) (da_cons (de_sub (de_mul (de_ix0 (de_var (i := 0) rfl (de_ix1 (de_var (i := 1) rfl ⟨m1, (de_mul (de_ix0 (de_var (i := 1) rfl (de_ix1 (de_var (i := 0) rfl ⟨m2, (da_cons (de_mul (de_ix1 (de_var (i := 0) rfl (de_ix1 (de_var (i := 1) rfl ⟨m3, (da_nil ⟨[], _, parts_none, _, _, rfl, ⟨p, ok.2⟩, q⟩)⟩))))))⟩)))))⟩)))))))))
theorem c_times (D : Dfn K mg "_law_times" s_law_times ["one", "two"]) (cr : cLow P w K mg base) : Cal P w K mg base "_law_times" 2 ["one", "two"] (ph2 fmul) := by
  refine D.cal sc_law_times (fun as μ P h => ?_) fun f cdv A outer s H E hr as μ Pd h => ?_
  · obtain ⟨x, y, rfl, _⟩ := h; rfl
  obtain ⟨x, y, rfl, ok, q⟩ := h
  obtain ⟨m1, m2, m3, m4, p⟩ := ok.mul
  exact db_one (ds_ret (de_c1 cr hr (by decide) (da_cons (de_mul (de_ix0 (de_var (i := 0) rfl (de_ix0 (de_var (i := 1) rfl ⟨m4, (da_cons (de_mul (de_ix1 (de_var (i := 0) rfl (de_ix1 (de_var (i := 1) rfl ⟨m3, (da_nil ⟨[], _, parts_none, _, _, rfl, ⟨p, ok.2⟩, q⟩)⟩))))))⟩))))))))
theorem c_lless (D : Dfn K mg "_law_less" s_law_less ["one", "two"]) : Cal P w K mg base "_law_less" 1 ["one", "two"] (phC lessB) := by
  refine D.cal sc_law_less (fun as μ P h => ?_) fun f cdv A outer s H E hr as μ Pd h => ?_
  · obtain ⟨x, y, rfl, _⟩ := h; rfl
  obtain ⟨x, y, rfl, ok, q⟩ := h
  obtain ⟨m1, m2⟩ := ok.mul
  exact db_one (ds_ret (de_lt (de_mul (de_ix0 (de_var (i := 0) rfl (de_ix1 (de_var (i := 1) rfl ⟨m1, (de_mul (de_ix0 (de_var (i := 1) rfl (de_ix1 (de_var (i := 0) rfl ⟨m2, q⟩)))))⟩)))))))
theorem c_turned (D : Dfn K mg "_law_turned" s_law_turned ["one"]) : Cal P w K mg base "_law_turned" 1 ["one"] phTurned := by
  refine D.cal sc_law_turned (fun as μ P h => ?_) fun f cdv A outer s H E hr as μ Pd h => ?_
  · obtain ⟨x, rfl, _⟩ := h; rfl
  obtain ⟨x, rfl, _, q⟩ := h
  exact db_one (ds_ret (de_tup2 (de_neg (de_ix0 (de_var (i := 0) rfl (de_ix1 (de_var (i := 0) rfl q)))))))
abbrev cLDot (P : Program) (w : World) (K : PySem.W.Frag) (mg : Str → Option Value) (base : Heap) : Prop := Cal P w K mg base "_law_dot" 2 ["one", "two"] phDot
theorem c_ldot (D : Dfn K mg "_law_dot" s_law_dot ["one", "two"]) (T : Txt mg) (cr : cLow P w K mg base) : cLDot P w K mg base := by
  refine D.cal sc_law_dot (fun as μ P h => ?_) fun f cdv A outer s H E hr as μ Pd h => ?_
  · obtain ⟨x, y, rfl | rfl, _⟩ := h <;> rfl
  obtain ⟨xs, ys, e, ⟨hl, ok⟩, q⟩ := h
  obtain ⟨p1, p2⟩ := dot_end ok
  have hn := ok.le
  have hx := fun {k : Nat} (h : (k : Int) < (xs.l.length : Int)) => atI_vec (l := xs.l) (k := k) (by omega)
  have hy := fun {k : Nat} (h : (k : Int) < (xs.l.length : Int)) => atI_vec (l := ys) (k := k) (by omega)
  rcases e with rfl | rfl
  · refine db_cons (ds_set (i := 2) sc_law_dot.nd (de_int ?_))
    refine db_cons (ds_set (i := 3) sc_law_dot.nd (de_int ?_))
    refine db_cons (ds_range1 (i := 4) PassesOwn.never rfl sc_law_dot.nd T.range (de_lenT T.len (de_var (i := 0) rfl ⟨by omega, by omega, fun k δ' μ' => ∃ s4 s5, δ' = [sl xs, sl (Tup.mk ys), sl (dtb (vec xs.l) (vec ys) k).1, sl (dtb (vec xs.l) (vec ys) k).2, s4, s5] ∧ μ' = μ, ⟨_, _, rfl, rfl⟩, fun k δ' μ' hk hI => ?_, fun δ' μ' hI => ?_⟩)))
    · obtain ⟨s4, s5, rfl, rfl⟩ := hI
      obtain ⟨t1, t2, t3, t4, t5⟩ := dot_turn ok (k := k) (by omega)
      have stay : ¬ ((vec xs.l k).1 ≠ 0 ∧ (vec ys k).1 ≠ 0) → dtb (vec xs.l) (vec ys) (k + 1) = dtb (vec xs.l) (vec ys) k := fun h => dstep_no h
      refine db_cons (ds_if (dw_and (dt_neI (de_ix0 (de_ixT (de_var (i := 0) rfl (de_var (i := 4) rfl ⟨_, hx hk, (de_int ⟨fun h => (dw_and1 (dt_neI (de_ix0 (de_ixT (de_var (i := 1) rfl (de_var (i := 4) rfl ⟨_, hy hk, (de_int ⟨fun h2 => ?_, fun h2 => db_nil (db_nil ?_)⟩)⟩)))))), fun h => ⟨fun h => (nomatch h), fun _ => db_nil (db_nil ?_)⟩⟩)⟩)))))).dt)
      · refine db_cons (ds_set (i := 5) sc_law_dot.nd (de_mul (de_ix1 (de_ixT (de_var (i := 0) rfl (de_var (i := 4) rfl ⟨_, hx hk, (de_ix1 (de_ixT (de_var (i := 1) rfl (de_var (i := 4) rfl ⟨_, hy hk, ⟨t1, ?_⟩⟩))))⟩))))))
        refine db_cons (ds_set (i := 2) sc_law_dot.nd (de_add (de_mul (de_var (i := 2) rfl (de_var (i := 5) rfl ⟨t2, (de_mul (de_mul (de_ix0 (de_ixT (de_var (i := 0) rfl (de_var (i := 4) rfl ⟨_, hx hk, (de_ix0 (de_ixT (de_var (i := 1) rfl (de_var (i := 4) rfl ⟨_, hy hk, ⟨t3, (de_var (i := 3) rfl ⟨t4, ?_⟩)⟩⟩))))⟩))))))⟩)))))
        refine db_cons (ds_set (i := 3) sc_law_dot.nd (de_mul (de_var (i := 3) rfl (de_var (i := 5) rfl ⟨t5, ?_⟩))))
        have e : dtb (vec xs.l) (vec ys) (k + 1) = _ := dstep_yes (s := dtb (vec xs.l) (vec ys) k) (a := vec xs.l k) (b := vec ys k) (fun z => by rw [z] at h; exact nomatch h) (fun z => by rw [z] at h2; exact nomatch h2)
        exact db_nil (db_nil ⟨_, _, by rw [e]; rfl, rfl⟩)
      · have e := stay fun z => z.2 (of_decide_eq_true (by rw [Bool.not_eq_false'] at h2; exact h2))
        exact ⟨_, _, by rw [e]; rfl, rfl⟩
      · have e := stay fun z => z.1 (of_decide_eq_true (by rw [Bool.not_eq_false'] at h; exact h))
        exact ⟨_, _, by rw [e]; rfl, rfl⟩
    · obtain ⟨s4, s5, rfl, rfl⟩ := hI
      exact db_one (ds_ret (de_c1 cr hr (by decide) (da_cons (de_var (i := 2) rfl (da_cons (de_var (i := 3) rfl (da_nil ⟨[], _, parts_none, _, _, rfl, ⟨p1, p2⟩, q⟩)))))))
  · refine db_cons (ds_set (i := 2) sc_law_dot.nd (de_int ?_))
    refine db_cons (ds_set (i := 3) sc_law_dot.nd (de_int ?_))
    refine db_cons (ds_range1 (i := 4) PassesOwn.never rfl sc_law_dot.nd T.range (de_lenT T.len (de_var (i := 0) rfl ⟨by omega, by omega, fun k δ' μ' => ∃ s4 s5, δ' = [sl xs, sl ys, sl (dtb (vec xs.l) (vec ys) k).1, sl (dtb (vec xs.l) (vec ys) k).2, s4, s5] ∧ μ' = μ, ⟨_, _, rfl, rfl⟩, fun k δ' μ' hk hI => ?_, fun δ' μ' hI => ?_⟩)))
    · obtain ⟨s4, s5, rfl, rfl⟩ := hI
      obtain ⟨t1, t2, t3, t4, t5⟩ := dot_turn ok (k := k) (by omega)
      have stay : ¬ ((vec xs.l k).1 ≠ 0 ∧ (vec ys k).1 ≠ 0) → dtb (vec xs.l) (vec ys) (k + 1) = dtb (vec xs.l) (vec ys) k := fun h => dstep_no h
      refine db_cons (ds_if (dw_and (dt_neI (de_ix0 (de_ixT (de_var (i := 0) rfl (de_var (i := 4) rfl ⟨_, hx hk, (de_int ⟨fun h => (dw_and1 (dt_neI (de_ix0 (de_ixL (de_var (i := 1) rfl (de_var (i := 4) rfl ⟨_, hy hk, (de_int ⟨fun h2 => ?_, fun h2 => db_nil (db_nil ?_)⟩)⟩)))))), fun h => ⟨fun h => (nomatch h), fun _ => db_nil (db_nil ?_)⟩⟩)⟩)))))).dt)
      · refine db_cons (ds_set (i := 5) sc_law_dot.nd (de_mul (de_ix1 (de_ixT (de_var (i := 0) rfl (de_var (i := 4) rfl ⟨_, hx hk, (de_ix1 (de_ixL (de_var (i := 1) rfl (de_var (i := 4) rfl ⟨_, hy hk, ⟨t1, ?_⟩⟩))))⟩))))))
        refine db_cons (ds_set (i := 2) sc_law_dot.nd (de_add (de_mul (de_var (i := 2) rfl (de_var (i := 5) rfl ⟨t2, (de_mul (de_mul (de_ix0 (de_ixT (de_var (i := 0) rfl (de_var (i := 4) rfl ⟨_, hx hk, (de_ix0 (de_ixL (de_var (i := 1) rfl (de_var (i := 4) rfl ⟨_, hy hk, ⟨t3, (de_var (i := 3) rfl ⟨t4, ?_⟩)⟩⟩))))⟩))))))⟩)))))
        refine db_cons (ds_set (i := 3) sc_law_dot.nd (de_mul (de_var (i := 3) rfl (de_var (i := 5) rfl ⟨t5, ?_⟩))))
        have e : dtb (vec xs.l) (vec ys) (k + 1) = _ := dstep_yes (s := dtb (vec xs.l) (vec ys) k) (a := vec xs.l k) (b := vec ys k) (fun z => by rw [z] at h; exact nomatch h) (fun z => by rw [z] at h2; exact nomatch h2)
        exact db_nil (db_nil ⟨_, _, by rw [e]; rfl, rfl⟩)
      · have e := stay fun z => z.2 (of_decide_eq_true (by rw [Bool.not_eq_false'] at h2; exact h2))
        exact ⟨_, _, by rw [e]; rfl, rfl⟩
      · have e := stay fun z => z.1 (of_decide_eq_true (by rw [Bool.not_eq_false'] at h; exact h))
        exact ⟨_, _, by rw [e]; rfl, rfl⟩
    · obtain ⟨s4, s5, rfl, rfl⟩ := hI
      exact db_one (ds_ret (de_c1 cr hr (by decide) (da_cons (de_var (i := 2) rfl (da_cons (de_var (i := 3) rfl (da_nil ⟨[], _, parts_none, _, _, rfl, ⟨p1, p2⟩, q⟩)))))))
end
end K35
namespace K35
open PySem PySem.Spec PyProof.Rows L2 Dl
/-! ### the law's own answers -/
theorem less_upto {x y : Q2} : lessB x y = !uptoB y x := by
  unfold lessB uptoB
  by_cases h : x.1 * y.2 < y.1 * x.2
  · rw [decide_eq_true h, decide_eq_false (by omega)]; rfl
  · rw [decide_eq_false h, decide_eq_true (by omega)]; rfl
def phPR : Pm (Option Bool) := fun as μ P => ∃ (rs : List Row) (st : List St2) (pt : List Q2), as = [sl (Tup.mk rs), sl (Tup.mk st), sl (Tup.mk pt)] ∧ μ = [] ∧ (RowsOk rs pt ∧ InOk st pt) ∧ P (some (keepB rs st pt)) []
section
variable {P : Program} {w : World} {K : PySem.W.Frag} {mg : Str → Option Value} {base : Heap}
theorem c_shown (D : Dfn K mg "_law_shown" s_law_shown ["goal", "rows", "stretches", "duals"]) (T : Txt mg) (cd : cLDot P w K mg base) (ca : Cal P w K mg base "_law_plus" 2 ["one", "two"] (ph2 fadd)) (ct : Cal P w K mg base "_law_turned" 1 ["one"] phTurned) (cm : Cal P w K mg base "_law_times" 2 ["one", "two"] (ph2 fmul))
    (cl : Cal P w K mg base "_law_less" 1 ["one", "two"] (phC lessB)) : Cal P w K mg base "_law_shown" 3 ["goal", "rows", "stretches", "duals"] phWorth := by
  refine D.cal sc_law_shown (fun as μ P h => ?_) fun f cdv A outer s H E hr as μ Pd h => ?_
  · obtain ⟨_, _, _, _, rfl, _⟩ := h; rfl
  obtain ⟨goal, rs, st, du, rfl, ok, q⟩ := h
  have hm := ok.m
  have hn := ok.n
  have hg := ok.g
  refine db_cons (ds_set (i := 5) sc_law_shown.nd (de_c1 cd hr (by decide) (da_cons (de_var (i := 3) rfl (da_cons (de_lcT (own := [("row", 4)]) (β := Q2) rfl sc_law_shown.nd (blkOk_by (N := ["goal", "rows", "stretches", "duals", "row", "total", "j", "taken", "rest", "low", "high"]) (sc := defScope s_law_shown) (by decide +kernel)) (fun (x : Row) δ => δ.set 4 (sl x)) (fun _ _ _ _ _ => pg_name (i := 4) sc_law_shown.nd rfl (Or.inl rfl)) (fun x => wb_name) (by decide)
    (de_var (i := 1) rfl ⟨fun k ys μ' => ys = (rs.map fun r => r.2).take k ∧ μ' = μ, ⟨rfl, rfl⟩, fun k x ys μ' hx hJ => ?_, fun ys μ' hJ => ?_⟩)))))))
  · obtain ⟨rfl, rfl⟩ := hJ
    obtain ⟨e, hk⟩ := rowAt_of hx
    intro s H C cl fp
    refine de_ix1 (de_var (i := 4) rfl ⟨?_, (take_next (f := fun r : Row => r.2) hx).symm, rfl⟩)
    have h1 : ((rs.map fun r => r.2).take k).length ≤ k := List.length_take_le ..
    have h2 : k < rs.length := hk
    omega
  obtain ⟨e, rfl⟩ := hJ
  have e : ys = rs.map fun r => r.2 := e.trans take_all
  subst e
  refine da_nil ⟨[], _, parts_none, _, _, .inr rfl, ⟨by rw [List.length_map]; exact ok.d, ok.d0⟩, ?_⟩
  refine db_cons (ds_range1 (i := 6) PassesOwn.never rfl sc_law_shown.nd T.range (de_lenT T.len (de_var (i := 0) rfl ⟨by show (goal.length : Int) < _; omega, by show _ ≤ (goal.length : Int); omega, fun k δ' μ1 => ∃ s4 s6 s7 s8 s9 s10, δ' = [sl (Tup.mk goal), sl (Tup.mk rs), sl (Tup.mk st), sl (Tup.mk du), s4, sl (fworth goal rs st du k), s6, s7, s8, s9, s10] ∧ μ1 = μ', ⟨_, _, _, _, _, _, rfl, rfl⟩, fun k δ' μ1 hk hI => ?_, fun δ' μ1 hI => ?_⟩)))
  · obtain ⟨s4, s6, s7, s8, s9, s10, rfl, rfl⟩ := hI
    have hk : k < goal.length := Int.ofNat_lt.mp hk
    rw [hg] at hk
    refine db_cons (ds_set (i := 7) sc_law_shown.nd (de_c1 cd hr (by decide) (da_cons (de_var (i := 3) rfl (da_cons
      (de_lcT (own := [("row", 4)]) (β := Q2) rfl sc_law_shown.nd (blkOk_by (N := ["goal", "rows", "stretches", "duals", "row", "total", "j", "taken", "rest", "low", "high"]) (sc := defScope s_law_shown) (by decide +kernel)) (fun (x : Row) δ => δ.set 4 (sl x)) (fun _ _ _ _ _ => pg_name (i := 4) sc_law_shown.nd rfl (Or.inl rfl)) (fun x => wb_name) (by decide)
    (de_var (i := 1) rfl ⟨fun i ys μ' => ys = (rs.map fun r => vec r.1.l k).take i ∧ μ' = μ1, ⟨rfl, rfl⟩, fun i x ys μ' hx hJ => ?_, fun ys μ' hJ => ?_⟩)))))))
    · obtain ⟨rfl, rfl⟩ := hJ
      obtain ⟨e, hi⟩ := rowAt_of hx
      intro s H C cl fp
      refine de_ixT (de_ix0 (de_var (i := 4) rfl (de_var (i := 6) rfl ⟨_, atI_vec ?_, ⟨?_, (take_next (f := fun r : Row => vec r.1.l k) hx).symm, rfl⟩⟩)))
      · rw [← e, ok.r i hi]; exact hk
      · have h1 : ((rs.map fun r : Row => vec r.1.l k).take i).length ≤ i := List.length_take_le ..
        have h2 : i < rs.length := hi
        omega
    obtain ⟨e, rfl⟩ := hJ
    have e : ys = rs.map fun r => vec r.1.l k := e.trans take_all
    subst e
    refine da_nil ⟨[], _, parts_none, _, _, .inr rfl, ⟨by rw [List.length_map]; exact ok.d, ok.dj k hk⟩, ?_⟩
    have e1 : fadd (vec goal k) (-(fdot (vec du) (vec (rs.map fun r => vec r.1.l k)) du.length).1, (fdot (vec du) (vec (rs.map fun r => vec r.1.l k)) du.length).2) = restF goal rs du k := plus_turned
    refine db_cons (ds_set (i := 8) sc_law_shown.nd (de_c1 ca hr (by decide) (da_cons (de_ixT (de_var (i := 0) rfl (de_var (i := 6) rfl ⟨_, atI_vec (by rw [hg]; exact hk), (da_cons (de_c1 ct hr (by decide) (da_cons (de_var (i := 7) rfl (da_nil ⟨[], _, parts_none, _, rfl, trivial, (da_nil ⟨[], _, parts_none, _, _, rfl, (ok.rest k hk).turned, ?_⟩)⟩)))))⟩))))))
    rw [e1]
    refine db_cons (ds_set (i := 9) sc_law_shown.nd (de_c1 cm hr (by decide) (da_cons (de_var (i := 8) rfl (da_cons (de_ix0 (de_ixT (de_var (i := 2) rfl (de_var (i := 6) rfl ⟨_, atI_st hk, (da_nil ⟨[], _, parts_none, _, _, rfl, ok.low k hk, ?_⟩)⟩)))))))))
    refine db_cons (ds_set (i := 10) sc_law_shown.nd (de_c1 cm hr (by decide) (da_cons (de_var (i := 8) rfl (da_cons (de_ix1 (de_ixT (de_var (i := 2) rfl (de_var (i := 6) rfl ⟨_, atI_st hk, (da_nil ⟨[], _, parts_none, _, _, rfl, ok.high k hk, ?_⟩)⟩)))))))))
    have e2 : termF goal rs st du k = if lessB (fmul (restF goal rs du k) (stAt st k).2) (fmul (restF goal rs du k) (stAt st k).1) = true then fmul (restF goal rs du k) (stAt st k).2 else fmul (restF goal rs du k) (stAt st k).1 := least_other
    have sk := ok.sum k hk
    have fw : fworth goal rs st du (k + 1) = fadd (fworth goal rs st du k) (termF goal rs st du k) := rfl
    rw [e2] at sk fw
    refine db_cons (ds_set (i := 5) sc_law_shown.nd (de_c1 ca hr (by decide) (da_cons (de_var (i := 5) rfl (da_cons (de_if (dt_val (de_c1 cl hr (by decide) (da_cons (de_var (i := 10) rfl (da_cons (de_var (i := 9) rfl (da_nil ⟨[], _, parts_none, _, _, rfl, (ok.cmp k hk).swap, ⟨fun h => (de_var (i := 10) rfl (da_nil ⟨[], _, parts_none, _, _, rfl, ?_, ?_⟩)), fun h => (de_var (i := 9) rfl (da_nil ⟨[], _, parts_none, _, _, rfl, ?_, ?_⟩))⟩⟩)))))))))))))
    · rw [if_pos h] at sk; exact sk
    · rw [if_pos h] at fw
      exact db_nil ⟨_, _, _, _, _, _, by rw [fw]; rfl, rfl⟩
    · rw [h, if_neg (by decide)] at sk; exact sk
    · rw [h, if_neg (by decide)] at fw
      exact db_nil ⟨_, _, _, _, _, _, by rw [fw]; rfl, rfl⟩
  obtain ⟨s4, s6, s7, s8, s9, s10, rfl, rfl⟩ := hI
  refine db_one (ds_ret (de_var (i := 5) (v := fworth goal rs st du goal.length) rfl ?_))
  rw [hg]
  exact q
theorem c_pr (D : Dfn K mg "_law_point_right" s_law_point_right ["rows", "stretches", "point"]) (T : Txt mg) (cd : cLDot P w K mg base) (cl : Cal P w K mg base "_law_less" 1 ["one", "two"] (phC lessB)) (cb : CalG P w K mg base "broken_rows" 3 ["rows", "point"] phBroken)
    (ck : Cal P w K mg base "keeps_rows" 7 ["rows", "stretches", "point"] phKeeps) : Cal P w K mg base "_law_point_right" 8 ["rows", "stretches", "point"] phPR := by
  refine D.cal sc_law_point_right (fun as μ P h => ?_) fun f cdv A outer s H E hr as μ Pd h => ?_
  · obtain ⟨_, _, _, rfl, _⟩ := h; rfl
  obtain ⟨rs, st, pt, rfl, rfl, ⟨ok, oi⟩, q⟩ := h
  have hm := ok.m
  have hn := oi.n
  have hl := oi.l
  refine db_cons (ds_set (i := 3) sc_law_point_right.nd (de_lstN (α := Int) (da_nil ⟨[], rfl, by decide, fun l => ?_⟩)))
  refine db_cons (ds_range1 (i := 4) PassesOwn.never rfl sc_law_point_right.nd T.range (de_lenT T.len (de_var (i := 0) rfl ⟨by show (rs.length : Int) < _; omega, by show _ ≤ (rs.length : Int); omega, fun k δ' μ' => ∃ s4 s5 s6 s7 s8, δ' = [sl (Tup.mk rs), sl (Tup.mk st), sl (Tup.mk pt), sl (Ref.mk l), s4, s5, s6, s7, s8] ∧ μ' = [lst l (brL rs pt k)], ⟨_, _, _, _, _, rfl, rfl⟩, fun k δ' μ' hk hI => ?_, fun δ' μ' hI => ?_⟩)))
  · obtain ⟨s4, s5, s6, s7, s8, rfl, rfl⟩ := hI
    have hk : k < rs.length := Int.ofNat_lt.mp hk
    have hb := brL_len rs pt k
    refine db_one (ds_if (dt_val (de_c1 cl hr (by decide) (da_cons (de_c1 cd hr (by decide) (da_cons (de_ix0 (de_ixT (de_var (i := 0) rfl (de_var (i := 4) rfl ⟨_, atI_row hk, (da_cons (de_var (i := 2) rfl (da_nil ⟨[], _, parts_none, _, _, .inl rfl, ⟨ok.l k hk, ok.d k hk⟩, (da_cons (de_ix1 (de_ixT (de_var (i := 0) rfl (de_var (i := 4) rfl ⟨_, atI_row hk, (da_nil ⟨[], _, parts_none, _, _, rfl, ok.c k hk, ⟨fun h => ?_, fun h => ?_⟩⟩)⟩)))))⟩)))⟩))))))))))
    · have h : isBr rs pt k = true := h
      have e : brL rs pt (k + 1) = brL rs pt k ++ [(k : Int)] := if_pos h
      refine db_one (ds_expr (de_append 0 (de_var (i := 3) rfl ⟨⟨_, rfl⟩, (de_var (i := 4) rfl ⟨_, rfl, by omega, ?_⟩)⟩)))
      exact ⟨_, _, _, _, _, rfl, by rw [e]; rfl⟩
    · have h : isBr rs pt k = false := h
      have e : brL rs pt (k + 1) = brL rs pt k := if_neg (by rw [h]; decide)
      exact db_nil ⟨_, _, _, _, _, rfl, by rw [e]; rfl⟩
  obtain ⟨s4, s5, s6, s7, s8, rfl, rfl⟩ := hI
  refine db_frz 0 3 (xs := brL rs pt rs.length) rfl rfl ?_
  refine db_cons (ds_set (i := 5) sc_law_point_right.nd (de_bl ?_))
  refine db_cons (ds_range1 (i := 6) PassesOwn.never rfl sc_law_point_right.nd T.range (de_lenT T.len (de_var (i := 1) rfl ⟨by show (st.length : Int) < _; omega, by show _ ≤ (st.length : Int); omega, fun k δ' μ' => ∃ s4 s6 s7 s8, δ' = [sl (Tup.mk rs), sl (Tup.mk st), sl (Tup.mk pt), sl (brL rs pt rs.length), s4, sl (inB st pt k), s6, s7, s8] ∧ μ' = [], ⟨_, _, _, _, rfl, rfl⟩, fun k δ' μ' hk hI => ?_, fun δ' μ' hI => ?_⟩)))
  · obtain ⟨s4, s6, s7, s8, rfl, rfl⟩ := hI
    have hk : k < st.length := Int.ofNat_lt.mp hk
    have hp : k < pt.length := Nat.lt_of_lt_of_le hk hl
    have e : inB st pt (k + 1) = (inB st pt k && (uptoB (stAt st k).1 (vec pt k) && uptoB (vec pt k) (stAt st k).2)) := rfl
    have u1 : uptoB (stAt st k).1 (vec pt k) = !lessB (vec pt k) (stAt st k).1 := by rw [less_upto, Bool.not_not]
    have u2 : uptoB (vec pt k) (stAt st k).2 = !lessB (stAt st k).2 (vec pt k) := by rw [less_upto, Bool.not_not]
    rw [u1, u2] at e
    refine db_one (ds_if (dw_or (dt_val (de_c1 cl hr (by decide) (da_cons (de_ixT (de_var (i := 2) rfl (de_var (i := 6) rfl ⟨_, atI_vec hp, (da_cons (de_ix0 (de_ixT (de_var (i := 1) rfl (de_var (i := 6) rfl ⟨_, atI_st hk, (da_nil ⟨[], _, parts_none, _, _, rfl, (oi.c1 k hk).swap, ⟨fun h => ⟨fun _ => (db_one (ds_set (i := 5) sc_law_point_right.nd (de_bl ?_))), fun h => (nomatch h)⟩, fun h => (dw_or1 (dt_val (de_c1 cl hr (by decide) (da_cons (de_ix1 (de_ixT (de_var (i := 1) rfl (de_var (i := 6) rfl ⟨_, atI_st hk, (da_cons (de_ixT (de_var (i := 2) rfl (de_var (i := 6) rfl ⟨_, atI_vec hp, (da_nil ⟨[], _, parts_none, _, _, rfl, (oi.c2 k hk).swap, ⟨fun h2 => (db_one (ds_set (i := 5) sc_law_point_right.nd (de_bl ?_))), fun h2 => db_nil ?_⟩⟩)⟩))))⟩))))))))⟩⟩)⟩)))))⟩))))))).dt)
    · have z : inB st pt (k + 1) = false := by rw [e, h]; simp
      exact ⟨_, _, _, _, by rw [z]; rfl, rfl⟩
    · have z : inB st pt (k + 1) = false := by rw [e, h2]; simp
      exact ⟨_, _, _, _, by rw [z]; rfl, rfl⟩
    · have z : inB st pt (k + 1) = inB st pt k := by rw [e, h, h2]; simp
      exact ⟨_, _, _, _, by rw [z]; rfl, rfl⟩
  obtain ⟨s4, s6, s7, s8, rfl, rfl⟩ := hI
  refine db_cons (ds_set (i := 7) sc_law_point_right.nd (de_frz (α := Int) 0 (de_listG cb hr (by decide) T.list (da_cons (de_var (i := 0) rfl (da_cons (de_var (i := 2) rfl (da_nil ⟨[], _, parts_none, _, _, rfl, ok, _, rfl, fun l2 => ⟨_, rfl, ?_⟩⟩))))))))
  refine db_cons (ds_forL PassesOwn.never rfl (pg_name (i := 4) sc_law_point_right.nd rfl (Or.inl rfl)) (fun (x : Int) δ => δ.set 4 (sl x)) (fun x δ => wg_name) (de_var (i := 7) rfl ⟨fun k δ1 μ1 => ∃ s4 s6 s8, δ1 = [sl (Tup.mk rs), sl (Tup.mk st), sl (Tup.mk pt), sl (brL rs pt rs.length), s4, sl (inB st pt st.length), s6, sl (brL rs pt rs.length), s8] ∧ μ1 = [], ⟨_, _, _, rfl, rfl⟩, fun k x δ1 μ1 hx hI => ?_, fun δ1 μ1 hI => ?_⟩))
  · obtain ⟨s4, s6, s8, rfl, rfl⟩ := hI
    refine db_one (ds_if (dw_or (dt_not (dt_val (de_isi (T := "int") (r := true) (by decide +kernel) T.isinstance T.int (by decide +kernel) (de_var (i := 4) rfl ⟨fun h => (nomatch h), fun h => (dw_or1 (dt_val (de_isi (T := "bool") (r := false) (by decide +kernel) T.isinstance T.bool (by decide +kernel) (de_var (i := 4) rfl ⟨fun h => (nomatch h), fun h => ?_⟩))))⟩))))).dt)
    exact db_nil ⟨_, _, _, rfl, rfl⟩
  obtain ⟨s4, s6, s8, rfl, rfl⟩ := hI
  refine db_cons (ds_set (i := 8) sc_law_point_right.nd (de_c1 ck hr (by decide) (da_cons (de_var (i := 0) rfl (da_cons (de_var (i := 1) rfl (da_cons (de_var (i := 2) rfl (da_nil ⟨[], _, parts_none, _, _, _, rfl, rfl, ⟨ok, oi⟩, ?_⟩)))))))))
  have kb : keepB rs st pt = (inB st pt st.length && decide (((brL rs pt rs.length).length : Int) = 0)) := rfl
  refine db_cons (ds_if (dw_or (dt_neD (α := List Int) (un_of hr) (by decide) (de_var (i := 7) rfl (de_var (i := 3) rfl fun r1 hr1 => ⟨fun h => absurd rfl (hr1.mp h), fun h => (dw_or (dt_not (dt_val (de_isi (T := "bool") (r := true) (by decide +kernel) T.isinstance T.bool (by decide +kernel) (de_var (i := 8) rfl ⟨fun h => (nomatch h), fun h => (dw_or1 (dt_neD (α := Bool) (un_of hr) (by decide) (de_var (i := 8) rfl (de_and (de_var (i := 5) rfl ⟨fun h => (de_one (de_eqI (de_lenL T.len (de_var (i := 3) rfl (de_int fun r2 hr2 => ⟨fun h2 => absurd ?_ (hr2.mp h2), fun h2 => ?_⟩))))), fun h => fun r2 hr2 => ⟨fun h2 => absurd ?_ (hr2.mp h2), fun h2 => ?_⟩⟩)))))⟩)))))⟩)))).dt)
  · rw [kb, h, Bool.true_and]
  · exact db_nil (db_one (ds_ret (de_some (de_var (i := 8) rfl q))))
  · rw [kb, h, Bool.false_and]
  · exact db_nil (db_one (ds_ret (de_some (de_var (i := 8) rfl q))))
end
end K35
namespace K35
open PySem PySem.Spec PyProof.Rows L2 Dl
/-! ### the jar -/
section
variable {P : Program} {w : World} {K : PySem.W.Frag} {mg : Str → Option Value} {base : Heap}
theorem c_draw (D : Dfn K mg "_law_draw" s_law_draw ["jar", "many"]) (ml : mg "len" = none) (mi : mg "int" = none) : Cal P w K mg base "_law_draw" 1 ["jar", "many"] phDraw := by
  refine D.cal sc_law_draw (fun as μ P h => ?_) fun f cdv A outer s H0 E hr as μ Pd h => ?_
  · obtain ⟨j, g, m, rfl, _⟩ := h; rfl
  obtain ⟨j, g, m, rfl, rfl, ⟨m0, m9⟩, q⟩ := h
  refine of_pss (C8.pss_cut (ps_if (pw_and (pt_cmpR op_eq (pe_ix ix_list (pv 0) pe_int (fun _ _ => rfl)) pe_int (nomark _)) (pw_and1 (pt_cmpR op_gt (pe_callB call_len (by rfl) ml boot_len (pa_cons (pe_ix ix_list (pv 0) pe_int (fun _ _ => rfl)) pa_nil)) pe_int (nomark _)))).pt
      (pss_one (ps_asg (pe_bm PySem.F.plainAttrs_list PySem.F.slot_list_pop PySem.F.type_list_pop mt_popAt (pe_ix ix_list (pv 0) pe_int (fun _ _ => rfl)) (pa_cons pe_int pa_nil)) (pg_sub (pv 0) pe_int set_list))) pss_nil)
    (pss_cons (ps_if (pt_cmpR op_gt (pe_ix ix_list (pv 0) pe_int (fun _ _ => rfl)) pe_int (nomark _)) (pss_cons (ps_set (i := 2) sc_law_draw.nd rfl (.inl rfl) (pe_op op_mod (pe_callTy call_int1 (by rfl) mi (by decide +kernel) (pa_cons (pe_ix ix_list (pv 0) pe_int (fun _ _ => rfl)) pa_nil)) (pv 1)))
        (pss_cons (ps_asg (pe_op op_fdivW (pe_ix ix_list (pv 0) pe_int (fun _ _ => rfl)) (pv 1)) (pg_sub (pv 0) pe_int set_list)) (pss_one (ps_ret (pv 2))))) pss_nil)
    (pss_cons (ps_asg (pe_op op_add (pe_ix ix_list (pv 0) pe_int (fun _ _ => rfl)) pe_int) (pg_sub (pv 0) pe_int set_list))
    (pss_cons (ps_asg (pe_op op_mod (pe_op op_add (pe_op op_add (pe_op op_mul (pe_ix ix_list (pv 0) pe_int (fun _ _ => rfl)) pe_int) (pe_op op_mul (pe_ix ix_list (pv 0) pe_int (fun _ _ => rfl)) pe_int)) pe_int) pe_int) (pg_sub (pv 0) pe_int set_list))
    (pss_one (ps_ret (pe_op op_mod (pe_op op_fdiv (pe_ix ix_list (pv 0) pe_int (fun _ _ => rfl)) pe_int) (pv 1)))))))) fun M σ H En D nk rk bk ck => ?_
  obtain ⟨w0, e0, r0⟩ := En.get (i := 0) (x := Ref.mk j) rfl
  obtain ⟨w1, e1, r1⟩ := En.get (i := 1) (x := m) rfl
  cases r0; cases r1
  obtain ⟨ne, gs, a, b, c, hj, hg⟩ := En.h.cell _ (List.mem_singleton.mpr rfl)
  have at_ : ∀ (k : Nat) (x0 x1 x2 x3 v : V), [x0, x1, x2, x3][k]? = some v → atI [x0, x1, x2, x3] (k : Int) = some v := fun k _ _ _ _ _ h => atI_nat h
  have out : ∀ (H' : Hp) (gs : List Int) (a b c d : Int), H' j = some (.lst [.ref g, .int a, .int b, .int c]) → H' g = some (.lst (gs.map V.int)) → (∀ b o, H b = some o → b ≠ j → b ≠ g → H' b = some o) → 0 ≤ d → d < m → D.rt (.int d) H' := fun H' gs a b c d h1 h2 k d0 d1 => by
    obtain ⟨s1, s2⟩ := jar_ste En.h gs a b c h1 h2 ne k
    exact rk d _ M (.int d) H' (q d d0 d1) s1 s2 rfl
  refine ⟨fun σ' H' => σ' = σ ∧ ∃ (gs : List Int) (a b c : Int), H' j = some (.lst [.ref g, .int a, .int b, .int c]) ∧ H' g = some (.lst (gs.map V.int)) ∧ ∀ b o, H b = some o → b ≠ j → b ≠ g → H' b = some o, ?_, ?_⟩
  · -- jar[1] == 0 and len(jar[0]) > 0
    refine ⟨_, e0, j, _, 1, _, rfl, rfl, .inl (.inl hj), rfl, rfl, _, rfl, ?_⟩
    refine ite2 (fun _ => ?_) (fun _ => iteF ⟨rfl, gs, a, b, c, hj, hg, fun _ _ e _ _ => e⟩)
    refine ⟨_, e0, j, _, 0, _, rfl, rfl, .inl (.inl hj), rfl, _, (gs.map V.int).length, rfl, .inl ⟨_, .inl (.inl hg), rfl⟩, _, _, rfl, rfl, _, rfl, ?_⟩
    refine ite2 (fun hl => ?_) (fun _ => ⟨rfl, gs, a, b, c, hj, hg, fun _ _ e _ _ => e⟩)
    have hl := of_decide_eq_true hl
    obtain ⟨x, xs, rfl⟩ : ∃ x xs, gs = x :: xs := by
      cases gs with
      | nil => simp at hl
      | cons x xs => exact ⟨x, xs, rfl⟩
    refine ⟨_, e0, j, _, 0, _, rfl, rfl, .inl (.inl hj), rfl, .inl ⟨rfl, _, .inl (.inl hg)⟩, g, _, 0, 0, .int x, rfl, rfl, hg, by decide, by decide, by simp [seqIndex?], rfl, ?_⟩
    refine ⟨_, e0, j, _, 1, 1, rfl, rfl, by rw [upd_ne ne]; exact hj, rfl, rfl, xs, x, b, c, upd_same, by rw [upd_ne ne.symm, upd_same] <;> rfl, fun b o e n1 n2 => by rw [upd_ne n1, upd_ne n2]; exact e⟩
  · rintro σ' H' ⟨rfl, gs, a, b, c, hj, hg, kp⟩
    refine ⟨_, e0, j, _, 1, _, rfl, rfl, .inl (.inl hj), rfl, _, _, rfl, rfl, _, rfl, ?_⟩
    refine ite2 (fun _ => ?_) (fun _ => ?_)
    · refine ⟨_, e0, j, _, 1, _, rfl, rfl, .inl (.inl hj), rfl, .inl ⟨_, rfl, _, e1, _, _, rfl, rfl, m0, ?_⟩⟩
      have i0 : (σ'.set 2 (some (V.int (a % m))))[0]? = some (some (.ref j)) := by rw [List.getElem?_set_ne (by decide)]; exact e0
      have i1 : (σ'.set 2 (some (V.int (a % m))))[1]? = some (some (.int m)) := by rw [List.getElem?_set_ne (by decide)]; exact e1
      have i2 : (σ'.set 2 (some (V.int (a % m))))[2]? = some (some (.int (a % m))) := by rw [List.getElem?_set_self]; rw [En.len]; show 2 < 3; decide
      refine ⟨_, i0, j, _, 1, _, rfl, rfl, .inl (.inl hj), rfl, _, i1, _, _, rfl, rfl, ⟨m0, m9⟩, _, i0, j, _, 1, 1, rfl, rfl, hj, rfl, _, i2, ?_⟩
      exact out _ gs _ _ _ _ upd_same (by rw [upd_ne ne.symm]; exact hg) (fun b o e n1 n2 => by rw [upd_ne n1]; exact kp b o e n1 n2) (Int.emod_nonneg _ (by omega)) (Int.emod_lt_of_pos _ m0)
    · refine ⟨_, e0, j, _, 3, _, rfl, rfl, .inl (.inl hj), rfl, _, _, rfl, rfl, _, e0, j, _, 3, 3, rfl, rfl, hj, rfl, ?_⟩
      refine ⟨_, e0, j, _, 2, _, rfl, rfl, .inl (.inl upd_same), rfl, _, _, rfl, rfl, .inr ⟨by decide, by decide⟩, _, e0, j, _, 3, _, rfl, rfl, .inl (.inl upd_same), rfl, _, _, rfl, rfl, .inr ⟨by decide, by decide⟩, _, _, rfl, rfl, _, _, rfl, rfl, _, _, rfl, rfl, (show (0 : Int) < 2147483647 by decide), _, e0, j, _, 2, 2, rfl, rfl, upd_same, rfl, ?_⟩
      refine ⟨_, e0, j, _, 2, _, rfl, rfl, .inl (.inl upd_same), rfl, _, _, rfl, rfl, ⟨by decide, by decide⟩, _, e1, _, _, rfl, rfl, m0, ?_⟩
      exact out _ gs _ _ _ _ upd_same (by rw [upd_ne ne.symm, upd_ne ne.symm]; exact hg) (fun b o e n1 n2 => by rw [upd_ne n1, upd_ne n1]; exact kp b o e n1 n2) (Int.emod_nonneg _ (by omega)) (Int.emod_lt_of_pos _ m0)
def phJar : Pm Ref := fun as μ P => ∃ s : Scr, as = [sl s] ∧ μ = [] ∧ ∀ j g, P ⟨j⟩ [JarC j g]
theorem c_jar (D : Dfn K mg "_law_jar" s_law_jar ["script"]) (mi : mg "int" = none) : Cal P w K mg base "_law_jar" 1 ["script"] phJar := by
  refine D.cal sc_law_jar (fun as μ P h => ?_) fun f cdv A outer s H0 E hr as μ Pd h => ?_
  · obtain ⟨s, rfl, _⟩ := h; rfl
  obtain ⟨sc, rfl, rfl, q⟩ := h
  refine db_cons (ds_lcLN (i := 2) (own := [("cell", 1)]) (β := Int) rfl sc_law_jar.nd (blkOk_by (N := ["script", "cell", "great", "mix"]) (sc := defScope s_law_jar) (by decide +kernel)) (fun (x : Int) δ => δ.set 1 (sl x)) (fun _ _ _ _ _ => pg_name (i := 1) sc_law_jar.nd rfl (Or.inl rfl)) (fun x => wb_name) (by decide)
    (de_sliceScr (n := 63) (de_var (i := 0) rfl ⟨fun k ys μ' => μ' = [] ∧ ys.length ≤ k, ⟨rfl, Nat.le_refl _⟩, fun k x ys μ' hx hJ => ?_, fun ys μ' hJ g => ?_⟩)) (sw_true rfl rfl rfl (by decide +kernel)))
  · obtain ⟨rfl, hk⟩ := hJ
    have hk2 : k < 63 := by
      have := (List.getElem?_eq_some_iff.mp hx).1
      rw [List.length_take] at this
      omega
    intro s H C cl fp
    refine dt_ge (de_var (i := 1) rfl (de_pow (de_int (de_int ⟨⟨by decide, by decide, by decide⟩, ⟨fun _ s H C cl fp => ?_, fun _ => ?_⟩⟩))))
    · exact de_var (i := 1) rfl ⟨by omega, rfl, by rw [List.length_append]; exact Nat.succ_le_succ hk⟩
    · exact ⟨rfl, by omega⟩
  obtain ⟨rfl, hk⟩ := hJ
  refine db_cons (ds_set (i := 3) sc_law_jar.nd (de_int ?_))
  refine db_cons (ds_forL PassesOwn.never rfl (pg_name (i := 1) sc_law_jar.nd rfl (Or.inl rfl)) (fun (x : Int) δ => δ.set 1 (sl x)) (fun x δ => wg_name) (de_sliceScr (n := 63) (de_var (i := 0) rfl
    ⟨fun k δ1 μ1 => ∃ (c : Slot) (m : Int), δ1 = [sl sc, c, sl (Ref.mk g), sl m] ∧ μ1 = [lst g ys], ⟨_, _, rfl, rfl⟩, fun k x δ1 μ1 hx hI => ?_, fun δ1 μ1 hI => ?_⟩)))
  · obtain ⟨c, m, rfl, rfl⟩ := hI
    refine db_one (ds_set (i := 3) sc_law_jar.nd (de_mod (de_add (de_add (de_mulS (de_var (i := 3) rfl (de_int ⟨.inr ⟨by decide, by decide⟩, (de_mod (de_intI mi (de_var (i := 1) rfl (de_int ⟨by decide, (de_int (de_int ⟨by decide, ?_⟩))⟩))))⟩)))))))
    exact ⟨_, _, rfl, rfl⟩
  obtain ⟨c, m, rfl, rfl⟩ := hI
  exact db_one (ds_ret (de_jarLit (da_cons (de_var (i := 2) rfl (da_cons (de_int (da_cons (de_var (i := 3) rfl (da_cons (de_int (da_nil ⟨g, ys, _, _, _, rfl, rfl, fun j => q j g⟩)))))))))))
end
/-! ### what the law draws -/
theorem ipow_le {m n : Nat} (h : m ≤ n) : (2 : Int) ^ m ≤ 2 ^ n := by
  have := Nat.pow_le_pow_right (show 0 < 2 by decide) h
  have e : ∀ k : Nat, (2 : Int) ^ k = ((2 ^ k : Nat) : Int) := fun k => by rw [Int.natCast_pow] <;> rfl
  rw [e, e]
  exact_mod_cast this
structure StOk (s : St2) : Prop where
  a : Nm 5 s.1
  b : Nm 5 s.2
  a4 : s.1.2 ≤ 3
  b4 : s.2.2 ≤ 3
  le : qv s.1 ≤ qv s.2
def eL (L : Bool) : Nat := if L = true then 133 else 0
structure NumOk (L : Bool) (x : Q2) : Prop where
  n : Nm 134 x
  b : x.2 ≤ 2 ^ (2 + eL L)
def phStretch : Pm St2 := fun as μ P => ∃ (j g : Addr), as = [sl (Ref.mk j)] ∧ μ = [JarC j g] ∧ ∀ s : St2, StOk s → P s [JarC j g]
def phNumber : Pm Q2 := fun as μ P => ∃ (j g : Addr) (L : Bool), as = [sl (Ref.mk j), sl L] ∧ μ = [JarC j g] ∧ ∀ x : Q2, NumOk L x → P x [JarC j g]
def eJ (L : Bool) (j : Nat) : Nat := 2 * j + if j = 0 then 0 else eL L
structure VecOk (e : Nat) (n : Nat) (xs : List Q2) : Prop where
  l : xs.length = n
  nm : ∀ k, Nm 134 (vec xs k)
  b : Pn (fun k => (vec xs k).2) n ≤ 2 ^ e
def phVector : Pm (Tup Q2) := fun as μ P => ∃ (j g : Addr) (n : Nat) (L : Bool), as = [sl (Ref.mk j), sl (n : Int), sl L] ∧ μ = [JarC j g] ∧ n ≤ 13 ∧ ∀ xs : List Q2, VecOk (8 + eL L) n xs → P ⟨xs⟩ [JarC j g]
theorem vec_set {xs : List Q2} {i k : Nat} {y : Q2} (h : i < xs.length) : vec (xs.set i y) k = if k = i then y else vec xs k := by
  unfold vec
  rw [List.getD_eq_getElem?_getD, List.getD_eq_getElem?_getD, List.getElem?_set]
  by_cases e : i = k
  · subst e; rw [if_pos rfl, if_pos rfl, if_pos h]; rfl
  · rw [if_neg e, if_neg (fun z => e z.symm)]
theorem vec_rep {n k : Nat} : vec (List.replicate n (0, 1)) k = (0, 1) := by
  unfold vec
  rw [List.getD_eq_getElem?_getD, List.getElem?_replicate]
  split <;> rfl
theorem Nm.zero {A : Nat} (h : 1 ≤ A) : Nm A (0, 1) := ⟨by decide, by show 0 < _; exact Nat.pow_pos (by decide), by
  show 1 < 2 ^ A
  exact Nat.lt_of_lt_of_le (by decide : 1 < 2 ^ 1) (Nat.pow_le_pow_right (by decide) h)⟩
/-- a product with one factor changed -/
theorem Pn_set {f g : Nat → Int} {i n : Nat} (hf : ∀ k, k < n → 0 < f k) (hg : ∀ k, k < n → k ≠ i → g k = f k) (hi : ∀ k, k < n → k = i → 0 < g k) : Pn g n ≤ Pn f n * (if i < n then g i else 1) := by
  induction n with
  | zero => exact Int.le_refl _
  | succ n ih =>
    have ih := ih (fun k hk => hf k (by omega)) (fun k hk => hg k (by omega)) fun k hk => hi k (by omega)
    have p := Pn_pos (f := f) (n := n) fun k hk => hf k (by omega)
    have fn := hf n (by omega)
    show Pn g n * g n ≤ Pn f n * f n * _
    by_cases e : n = i
    · subst e
      rw [if_neg (by omega), Int.mul_one] at ih
      rw [if_pos (by omega)]
      have gn := hi n (by omega) rfl
      have h1 : Pn g n * g n ≤ Pn f n * g n := Int.mul_le_mul_of_nonneg_right ih (Int.le_of_lt gn)
      have h2 : Pn f n * 1 ≤ Pn f n * f n := Int.mul_le_mul_of_nonneg_left (by omega) (Int.le_of_lt p)
      rw [Int.mul_one] at h2
      exact Int.le_trans h1 (Int.mul_le_mul_of_nonneg_right h2 (Int.le_of_lt gn))
    · rw [hg n (by omega) e]
      by_cases hlt : i < n
      · rw [if_pos hlt] at ih
        rw [if_pos (by omega), Int.mul_assoc, Int.mul_comm (f n) (g i), ← Int.mul_assoc]
        exact Int.mul_le_mul_of_nonneg_right ih (Int.le_of_lt fn)
      · rw [if_neg hlt, Int.mul_one] at ih
        rw [if_neg (by omega), Int.mul_one]
        exact Int.mul_le_mul_of_nonneg_right ih (Int.le_of_lt fn)
theorem Pn_one {n : Nat} : Pn (fun _ => 1) n = 1 := by
  induction n with
  | zero => rfl
  | succ n ih => show Pn (fun _ => 1) n * 1 = 1; rw [ih]; rfl
theorem div_le {x y : Int} {b : Int} (hb : 0 < b) (h : x ≤ y) : (x : Rat) / (b : Rat) ≤ (y : Rat) / (b : Rat) := by
  have p := cast_pos hb
  rw [Rat.div_def, Rat.div_def]
  refine Rat.mul_le_mul_of_nonneg_right (by exact_mod_cast h) ?_
  have := Rat.inv_pos.mpr p
  grind
section
variable {P : Program} {w : World} {K : PySem.W.Frag} {mg : Str → Option Value} {base : Heap}
abbrev cDraw (P : Program) (w : World) (K : PySem.W.Frag) (mg : Str → Option Value) (base : Heap) : Prop := Cal P w K mg base "_law_draw" 1 ["jar", "many"] phDraw
theorem c_stretch (D : Dfn K mg "_law_stretch" s_law_stretch ["jar"]) (cd : cDraw P w K mg base) (cl : cLow P w K mg base) : Cal P w K mg base "_law_stretch" 2 ["jar"] phStretch := by
  refine D.cal sc_law_stretch (fun as μ P h => ?_) fun f cdv A outer s H E hr as μ Pd h => ?_
  · obtain ⟨_, _, rfl, _⟩ := h; rfl
  obtain ⟨j, g, rfl, rfl, q⟩ := h
  refine db_cons (ds_set (i := 1) sc_law_stretch.nd (de_add (de_int (de_c1 cd hr (by decide) (da_cons (de_var (i := 0) rfl (da_cons (de_int (da_nil ⟨_, _, parts_hd, _, _, _, rfl, rfl, ⟨by decide, by decide⟩, fun b b0 b1 => ?_⟩)))))))))
  refine db_cons (ds_set (i := 2) sc_law_stretch.nd (de_sub (de_c1 cd hr (by decide) (da_cons (de_var (i := 0) rfl (da_cons (de_int (da_nil ⟨_, _, parts_hd, _, _, _, rfl, rfl, ⟨by decide, by decide⟩, fun l l0 l1 => (de_int ?_)⟩))))))))
  have hb : 0 < 1 + b := by omega
  have h3 : 1 + b < 2 ^ 9000 := Int.lt_of_lt_of_le (show 1 + b < 2 ^ 2 by omega) (ipow_le (by decide))
  refine db_one (ds_ret (de_tup2 (de_c1 cl hr (by decide) (da_cons (de_var (i := 2) rfl (da_cons (de_var (i := 1) rfl (da_nil ⟨[], _, parts_none, _, _, rfl, ⟨hb, h3⟩, (de_c1 cl hr (by decide) (da_cons (de_add (de_var (i := 2) rfl (de_c1 cd hr (by decide) (da_cons (de_var (i := 0) rfl (da_cons (de_int (da_nil ⟨_, _, parts_hd, _, _, _, rfl, rfl, ⟨by decide, by decide⟩, fun d d0 d1 => (da_cons (de_var (i := 1) rfl (da_nil ⟨[], _, parts_none, _, _, rfl, ⟨hb, h3⟩, q _ ?_⟩)))⟩))))))))))⟩))))))))
  have k1 := lo_le2 (t := l - 10) hb
  have k2 := lo_le2 (t := l - 10 + d) hb
  refine ⟨Nm.lo hb (by omega) (by omega), Nm.lo hb (by omega) (by omega), by show (Dl.lo _ _).2 ≤ 3; omega, by show (Dl.lo _ _).2 ≤ 3; omega, ?_⟩
  show qv (Dl.lo _ _) ≤ qv (Dl.lo _ _)
  rw [qv_lo hb, qv_lo hb]
  exact div_le hb (by omega)
theorem c_number (D : Dfn K mg "_law_number" s_law_number ["jar", "large"]) (cd : cDraw P w K mg base) (cl : cLow P w K mg base) : Cal P w K mg base "_law_number" 2 ["jar", "large"] phNumber := by
  refine D.cal sc_law_number (fun as μ P h => ?_) fun f cdv A outer s H E hr as μ Pd h => ?_
  · obtain ⟨_, _, _, rfl, _⟩ := h; rfl
  obtain ⟨j, g, L, rfl, rfl, q⟩ := h
  have small : DB (cxD P w K mg base ["jar", "large"] "_law_number" s_law_number f cdv A outer s H E) [(defBody s_law_number).getD 1 (.Pass ⟨0, 0, 0, 0⟩)] [sl (Ref.mk j), sl L] [JarC j g] (fun _ μ' => ∃ x : Q2, (∀ K M H, Enc.R K M H .non x) ∧ Pd x μ') Pd (fun _ _ => False) (fun _ _ => False) := by
    refine db_one (ds_ret (de_c1 cl hr (by decide) (da_cons (de_sub (de_c1 cd hr (by decide) (da_cons (de_var (i := 0) rfl (da_cons (de_int (da_nil ⟨_, _, parts_hd, _, _, _, rfl, rfl, ⟨by decide, by decide⟩, fun t t0 t1 => (de_int (da_cons (de_ixL (de_lstF (da_cons (de_int (da_cons (de_int (da_cons (de_int (da_cons (de_int (da_cons (de_int (da_nil ⟨[_,_,_,_,_], rfl, by decide, (de_c1 cd hr (by decide) (da_cons (de_var (i := 0) rfl (da_cons (de_int (da_nil ⟨_, _, parts_hd, _, _, _, rfl, rfl, ⟨by decide, by decide⟩, fun d d0 d1 => ?_⟩))))))⟩)))))))))))))))⟩))))))))))
    obtain ⟨b, e, hm⟩ := atI_mem (xs := [(1 : Int), 1, 1, 2, 3]) d0 (by exact d1)
    have hb : 0 < b ∧ b ≤ 3 := by
      simp only [List.mem_cons, List.mem_nil_iff, or_false] at hm
      rcases hm with rfl | rfl | rfl | rfl | rfl <;> decide
    have h3 : b < 2 ^ 9000 := Int.lt_of_lt_of_le (show b < 2 ^ 2 by omega) (ipow_le (by decide))
    refine ⟨b, e, (da_nil ⟨[], _, parts_none, _, _, rfl, ⟨hb.1, h3⟩, q _ ⟨(Nm.lo (A := 3) hb.1 (by omega) (by omega)).mono (by decide), ?_⟩⟩)⟩
    have k1 := lo_le2 (t := t - 6) hb.1
    refine Int.le_trans (show (Dl.lo _ _).2 ≤ 2 ^ 2 by omega) (ipow_le (by omega))
  refine db_cons (ds_if (dw_and (dt_val (de_var (i := 1) rfl ⟨fun h => (dw_and1 (dt_eqI (de_c1 cd hr (by decide) (da_cons (de_var (i := 0) rfl (da_cons (de_int (da_nil ⟨_, _, parts_hd, _, _, _, rfl, rfl, ⟨by decide, by decide⟩, fun d h0 h1 => (de_int ⟨fun h2 => ?_, fun h2 => db_nil small⟩)⟩)))))))), fun h => ⟨fun h2 => (nomatch h2), fun h2 => db_nil small⟩⟩))).dt)
  refine db_one (ds_ret (de_c1 cl hr (by decide) (da_cons (de_sub (de_c1 cd hr (by decide) (da_cons (de_var (i := 0) rfl (da_cons (de_mulS (de_int (de_pow (de_int (de_int ⟨⟨by decide, by decide, by decide⟩, ⟨.inl ⟨by decide, by decide⟩, (da_nil ⟨_, _, parts_hd, _, _, _, rfl, rfl, ⟨by decide, by decide⟩, fun t t0 t1 => (de_pow (de_int (de_int ⟨⟨by decide, by decide, by decide⟩, (da_cons (de_add (de_int (de_c1 cd hr (by decide) (da_cons (de_var (i := 0) rfl (da_cons (de_pow (de_int (de_int ⟨⟨by decide, by decide, by decide⟩, (da_nil ⟨_, _, parts_hd, _, _, _, rfl, rfl, ⟨by decide, by decide⟩, fun b b0 b1 => (da_nil ⟨[], _, parts_none, _, _, rfl, ?_, q _ ?_⟩)⟩)⟩))))))))))⟩)))⟩)⟩⟩)))))))))))))
  · have e : (10 : Int) ^ (40 : Int).toNat < 2 ^ 8999 := by decide +kernel
    exact ⟨by omega, by rw [show (2 : Int) ^ 9000 = 2 ^ 8999 * 2 from Int.pow_succ _ _]; omega⟩
  · have e : (10 : Int) ^ (40 : Int).toNat < 2 ^ 133 := by decide +kernel
    have e2 : (2 : Nat) ^ 134 = 2 ^ 133 * 2 := Nat.pow_succ _ _
    have e3 : ((2 : Nat) ^ 133 : Nat) = 10889035741470030830827987437816582766592 := by decide +kernel
    have e4 : (2 : Int) ^ 133 = 10889035741470030830827987437816582766592 := by decide +kernel
    have hb : 0 < 1 + b := by omega
    have k1 := lo_le2 (t := t - 10 ^ (40 : Int).toNat) hb
    refine ⟨Nm.lo hb ?_ ?_, ?_⟩
    · rw [e2, e3]; rw [e4] at e; omega
    · rw [e2, e3]; rw [e4] at e; omega
    · refine Int.le_trans (show (Dl.lo _ _).2 ≤ 2 ^ 133 by omega) (ipow_le ?_)
      rw [h]; decide
end
end K35
namespace K35
open PySem PySem.Spec PyProof.Rows L2 Dl
/-! ### rows, duals, points -/
theorem VecOk.mono {e e' n : Nat} {xs : List Q2} (h : VecOk e n xs) (k : e ≤ e') : VecOk e' n xs := ⟨h.l, h.nm, Int.le_trans h.b (ipow_le k)⟩
theorem vec_step {L B : Bool} {n k i : Nat} {xs : List Q2} {y : Q2} (h : VecOk (eJ L k) n xs) (hy : NumOk B y) (h1 : k = 0 ∨ B = false) (h2 : B = true → L = true) (hi : i < n) : VecOk (eJ L (k + 1)) n (xs.set i y) := by
  have hl := h.l
  have hs := fun m => vec_set (xs := xs) (i := i) (k := m) (y := y) (by omega)
  refine ⟨by rw [List.length_set]; exact hl, fun m => ?_, ?_⟩
  · rw [hs m]
    split
    · exact hy.n
    · exact h.nm m
  · have p := Pn_set (f := fun m => (vec xs m).2) (g := fun m => (vec (xs.set i y) m).2) (i := i) (n := n) (fun m _ => (h.nm m).pos) (fun m _ e => by show (vec (xs.set i y) m).2 = _; rw [hs m, if_neg e]) (fun m _ e => by show 0 < (vec (xs.set i y) m).2; rw [hs m, if_pos e]; exact hy.n.pos)
    rw [if_pos hi] at p
    have e : (vec (xs.set i y) i).2 = y.2 := by rw [hs i, if_pos rfl]
    rw [e] at p
    refine Int.le_trans p ?_
    have b1 : Pn (fun m => (vec xs m).2) n * y.2 ≤ 2 ^ eJ L k * 2 ^ (2 + eL B) := Int.mul_le_mul h.b hy.b (Int.le_of_lt hy.n.pos) (Int.le_of_lt (Int.pow_pos (by decide)))
    refine Int.le_trans b1 ?_
    rw [← Int.pow_add]
    refine ipow_le ?_
    unfold eJ
    rcases h1 with h1 | h1
    · subst h1
      rw [if_pos rfl, if_neg (by omega)]
      unfold eL
      cases B with
      | true => rw [h2 rfl]; omega
      | false => rw [if_neg (by decide)]; omega
    · subst h1
      rw [if_neg (by omega : ¬ k + 1 = 0)]
      have : eL false = 0 := rfl
      rw [this]
      split <;> omega
theorem ixN_nat {n i : Nat} (h : i < n) : ixN n (i : Int) = some i := by
  unfold ixN
  rw [if_pos (by omega), if_pos (by omega)]
  rfl
structure InnerOk (n : Nat) (xs : List Q2) : Prop where
  l : xs.length = n
  nm : ∀ k, Nm 20 (vec xs k)
  b : ∀ k, (vec xs k).2 ≤ 2 ^ 7
def eR (r : Nat) : Nat := if r < 2 then 133 else 0
structure RowG (n r : Nat) (x : Row) : Prop where
  v : VecOk (8 + eR r) n x.1.l
  nm : Nm 3000 x.2
  b : x.2.2 ≤ 2 ^ (38 + eR r + 7 * n)
def brRow (x : Row) (pt : List Q2) : Bool := lessB (fdot (vec x.1.l) (vec pt) x.1.l.length) x.2
def phRows : Pm (Tup Row) := fun as μ P => ∃ (j g : Addr) (n c : Nat) (inner : List Q2) (kept L : Bool), as = [sl (Ref.mk j), sl (n : Int), sl (c : Int), sl (Tup.mk inner), sl kept, sl L] ∧ μ = [JarC j g] ∧ (n ≤ 13 ∧ c ≤ 100 ∧ InnerOk n inner) ∧
  ∀ rs : List Row, rs.length = c → (∀ r, r < c → RowG n r (rowAt rs r)) → (kept = true → ∀ r, r < c → brRow (rowAt rs r) inner = false) → P ⟨rs⟩ [JarC j g]
structure SlOk (kept : Bool) (s : Q2) : Prop where
  nm : Nm 31 s
  b : s.2 ≤ 2 ^ 30
  ge : kept = true → 0 ≤ s.1
theorem Pn_vec {n : Nat} {xs ys : List Q2} {e d : Nat} (h1 : ∀ k, 0 < (vec xs k).2) (h2 : ∀ k, 0 < (vec ys k).2 ∧ (vec ys k).2 ≤ 2 ^ d) (h3 : Pn (fun k => (vec xs k).2) n ≤ 2 ^ e) : Pn (fun k => (vec xs k).2 * (vec ys k).2) n ≤ 2 ^ (e + d * n) := by
  rw [Pn_mul, Int.pow_add]
  have p2 := Pn_two (f := fun k => (vec ys k).2) (e := fun _ => d) (n := n) fun k _ => h2 k
  have e2 : ((List.range n).map fun _ => d).sum = d * n := by rw [List.map_const', List.sum_replicate_nat, List.length_range, Nat.mul_comm]
  rw [e2] at p2
  exact Int.mul_le_mul h3 p2 (Int.le_of_lt (Pn_pos fun k _ => (h2 k).1)) (Int.le_of_lt (Int.pow_pos (by decide)))
theorem lt9000 {x : Int} {k : Nat} (h : x ≤ 2 ^ k) (hk : k < 9000) : x < 2 ^ 9000 := by
  have h1 : (2 : Int) ^ (k + 1) ≤ 2 ^ 9000 := ipow_le hk
  rw [Int.pow_succ] at h1
  have h2 : (0 : Int) < 2 ^ k := Int.pow_pos (by decide)
  omega
theorem row_dot {n e : Nat} {cs inner : List Q2} (hn : n ≤ 13) (v : VecOk e n cs) (he : e ≤ 141) (i : InnerOk n inner) : DotOk (vec cs) (vec inner) n ∧ Nm 2016 (fdot (vec cs) (vec inner) n) ∧ (fdot (vec cs) (vec inner) n).2 ≤ 2 ^ (e + 7 * n) := by
  have b := Pn_vec (n := n) (xs := cs) (ys := inner) (e := e) (d := 7) (fun k => (v.nm k).pos) (fun k => ⟨(i.nm k).pos, i.b k⟩) v.b
  refine ⟨⟨by omega, ⟨134, by decide, fun k _ => v.nm k, fun k _ => (i.nm k).mono (by decide)⟩, lt9000 b (by omega)⟩, (fdot_Nm (A := 134) (B := 20) (fun k _ => v.nm k) (fun k _ => i.nm k)).mono ?_, ?_⟩
  · have : n * (134 + 20 + 1) ≤ 13 * 155 := Nat.mul_le_mul hn (by decide)
    omega
  · exact Int.le_trans (fdot_b (fun k _ => (v.nm k).pos) fun k _ => (i.nm k).pos).2 b
theorem qv_nonneg {s : Q2} (h : 0 < s.2) (h0 : 0 ≤ s.1) : 0 ≤ qv s := by
  have := (qv_le (x := (0, 1)) (y := s) (by decide) h).mp (by show (0 : Int) * _ ≤ _ * (1 : Int); omega)
  have e : qv (0, 1) = 0 := by show (0 : Rat) / 1 = 0; grind
  rw [e] at this; exact this
theorem row_new {n k e : Nat} {cs inner : List Q2} {s : Q2} {kept : Bool} (hn : n ≤ 13) (v : VecOk e n cs) (he : e ≤ 8 + eR k) (i : InnerOk n inner) (so : SlOk kept s) :
    Ok2 (fdot (vec cs) (vec inner) n) s ∧ RowG n k (⟨cs⟩, fsub (fdot (vec cs) (vec inner) n) s) ∧ (kept = true → brRow (⟨cs⟩, fsub (fdot (vec cs) (vec inner) n) s) inner = false) := by
  have er : eR k ≤ 133 := by unfold eR; split <;> omega
  obtain ⟨d1, d2, d3⟩ := row_dot hn v (by omega) i
  have b : (fdot (vec cs) (vec inner) n).2 * s.2 ≤ 2 ^ (e + 7 * n + 30) := by
    rw [Int.pow_add]
    exact Int.mul_le_mul d3 so.b (Int.le_of_lt so.nm.pos) (Int.le_of_lt (Int.pow_pos (by decide)))
  refine ⟨⟨⟨3000, by decide, d2.mono (by decide), so.nm.mono (by decide)⟩, lt9000 b (by omega)⟩, ⟨v.mono he, (d2.sub so.nm).mono (by decide), ?_⟩, fun hk => ?_⟩
  · exact Int.le_trans (fsub_b d2.pos so.nm.pos).2 (Int.le_trans b (ipow_le (by omega)))
  · unfold brRow lessB
    refine decide_eq_false fun z => ?_
    have hl : (⟨cs⟩ : Tup Q2).l.length = n := v.l
    rw [hl] at z
    have z := (qv_lt d2.pos (fsub_b d2.pos so.nm.pos).1).mp z
    rw [qv_sub d2.pos so.nm.pos] at z
    have := qv_nonneg so.nm.pos (so.ge hk)
    grind
theorem rowAt_snoc {rs : List Row} {x : Row} {r : Nat} : rowAt (rs ++ [x]) r = if r < rs.length then rowAt rs r else if r = rs.length then x else (⟨[]⟩, (0, 1)) := by
  unfold rowAt
  rw [List.getD_eq_getElem?_getD, List.getD_eq_getElem?_getD]
  by_cases h : r < rs.length
  · rw [if_pos h, List.getElem?_append_left h]
  · rw [if_neg h, List.getElem?_append_right (by omega)]
    by_cases e : r = rs.length
    · rw [if_pos e, e, Nat.sub_self]; rfl
    · rw [if_neg e, List.getElem?_eq_none (by rw [List.length_singleton]; omega)]; rfl
theorem vec_snoc {xs : List Q2} {x : Q2} {r : Nat} : vec (xs ++ [x]) r = if r < xs.length then vec xs r else if r = xs.length then x else (0, 1) := by
  unfold vec
  rw [List.getD_eq_getElem?_getD, List.getD_eq_getElem?_getD]
  by_cases h : r < xs.length
  · rw [if_pos h, List.getElem?_append_left h]
  · rw [if_neg h, List.getElem?_append_right (by omega)]
    by_cases e : r = xs.length
    · rw [if_pos e, e, Nat.sub_self]; rfl
    · rw [if_neg e, List.getElem?_eq_none (by rw [List.length_singleton]; omega)]; rfl
structure DuOk (c : Nat) (du : List Q2) : Prop where
  l : du.length = c
  nm : ∀ r, r < c → Nm 134 (vec du r)
  b : ∀ r, r < c → (vec du r).2 ≤ 2 ^ (2 + eR r)
  ge : ∀ r, r < c → 0 ≤ (vec du r).1
def phDuals : Pm (Tup Q2) := fun as μ P => ∃ (j g : Addr) (c : Nat) (L : Bool), as = [sl (Ref.mk j), sl (c : Int), sl L] ∧ μ = [JarC j g] ∧ c ≤ 100 ∧ ∀ du : List Q2, DuOk c du → P ⟨du⟩ [JarC j g]
section
variable {P : Program} {w : World} {K : PySem.W.Frag} {mg : Str → Option Value} {base : Heap}
theorem c_vector (D : Dfn K mg "_law_vector" s_law_vector ["jar", "many", "large"]) (T : Txt mg) (cd : cDraw P w K mg base) (cn : Cal P w K mg base "_law_number" 2 ["jar", "large"] phNumber) : Cal P w K mg base "_law_vector" 3 ["jar", "many", "large"] phVector := by
  refine D.cal sc_law_vector (fun as μ P h => ?_) fun f cdv A outer s H E hr as μ Pd h => ?_
  · obtain ⟨_, _, _, _, rfl, _⟩ := h; rfl
  obtain ⟨j, g, n, L, rfl, rfl, hn, q⟩ := h
  refine db_cons (ds_lcRN (i0 := 3) (i := 4) (own := [("j", 3)]) (β := Q2) rfl sc_law_vector.nd (blkOk_by (N := ["jar", "many", "large", "j", "found", "at"]) (sc := defScope s_law_vector) (by decide +kernel)) (by decide) (fun _ _ _ _ _ => pg_name (i := 3) sc_law_vector.nd rfl (Or.inl rfl)) (by decide) T.range
    (de_var (i := 1) rfl ⟨⟨by omega, by omega⟩, fun k ys μ' => ys = List.replicate k (0, 1) ∧ μ' = [JarC j g], ⟨rfl, rfl⟩, fun k ys μ' hk hJ => ?_, fun ys μ' hJ l => ?_⟩) (sw_true rfl rfl rfl (by decide +kernel)))
  · obtain ⟨rfl, rfl⟩ := hJ
    intro s H C cl fp
    exact de_tup2 (de_int (de_int ⟨by rw [List.length_replicate]; omega, by rw [List.replicate_succ'], rfl⟩))
  obtain ⟨rfl, rfl⟩ := hJ
  have v0 : VecOk (eJ L 0) n (List.replicate n (0, 1)) := ⟨List.length_replicate .., fun k => by rw [vec_rep]; exact Nm.zero (by decide), by
    have : (fun k => (vec (List.replicate n (0, 1)) k).2) = fun _ => 1 := funext fun k => by rw [vec_rep]
    rw [this, Pn_one]; exact (by decide : (1 : Int) ≤ 2 ^ 0)⟩
  refine db_cons (ds_range1 (i := 3) PassesOwn.never rfl sc_law_vector.nd T.range (de_min rfl T.min (de_var (i := 1) rfl (de_int ⟨by omega, by omega, fun k δ' μ' => ∃ s3 s5 xs, δ' = [sl (Ref.mk j), sl (n : Int), sl L, s3, sl (Ref.mk l), s5] ∧ μ' = [JarC j g, lst l xs] ∧ VecOk (eJ L k) n xs, ⟨_, _, _, rfl, rfl, v0⟩, fun k δ' μ' hk hI => ?_, fun δ' μ' hI => ?_⟩))))
  · obtain ⟨s3, s5, xs, rfl, rfl, v⟩ := hI
    have hl := v.l
    refine db_cons (ds_set (i := 5) sc_law_vector.nd (de_var (i := 3) rfl ?_))
    refine db_cons (DS.mid (fun δ' μ' => ∃ a : Nat, a < n ∧ δ' = [sl (Ref.mk j), sl (n : Int), sl L, sl (k : Int), sl (Ref.mk l), sl (a : Int)] ∧ μ' = [JarC j g, lst l xs]) ?_ ?_)
    · refine ds_if (dt_gt (de_var (i := 1) rfl (de_int ⟨fun h => ?_, fun h => ?_⟩)))
      · have h := of_decide_eq_true h
        refine db_one (ds_set (i := 5) sc_law_vector.nd (de_c1 cd hr (by decide) (da_cons (de_var (i := 0) rfl (da_cons (de_var (i := 1) rfl (da_nil ⟨_, _, parts_hd, _, _, _, rfl, rfl, ⟨by omega, ?_⟩, fun d d0 d1 => ?_⟩)))))))
        · have : (n : Int).natAbs < 2 ^ 4 := by omega
          exact Nat.lt_trans (bits_of this (by decide)) (by decide)
        · obtain ⟨a, rfl⟩ := Int.eq_ofNat_of_zero_le d0
          exact ⟨a, by omega, rfl, rfl⟩
      · exact db_nil ⟨k, by omega, rfl, rfl⟩
    · rintro δ' μ' ⟨a, ha, rfl, rfl⟩
      have fin : ∀ (B : Bool) (x : Q2), NumOk B x → (k = 0 ∨ B = false) → (B = true → L = true) → VecOk (eJ L (k + 1)) n (xs.set a x) := fun B x hx h1 h2 => vec_step v hx h1 h2 ha
      refine db_one (ds_setItem 1 (de_c1 cn hr (by decide) (da_cons (de_var (i := 0) rfl (da_cons (de_and (de_var (i := 2) rfl ⟨fun h => (de_one (de_eqI (de_var (i := 3) rfl (de_int (da_nil ⟨_, _, parts_hd, _, _, _, rfl, rfl, fun x hx => (de_var (i := 4) rfl (de_var (i := 5) rfl ⟨_, rfl, a, ixN_nat (by omega), ?_⟩))⟩))))), fun h => (da_nil ⟨_, _, parts_hd, _, _, _, rfl, rfl, fun x hx => (de_var (i := 4) rfl (de_var (i := 5) rfl ⟨_, rfl, a, ixN_nat (by omega), ?_⟩))⟩)⟩)))))))
      · refine ⟨_, _, _, rfl, rfl, fin _ x hx ?_ fun _ => h⟩
        by_cases e : (k : Int) = 0
        · exact .inl (by omega)
        · exact .inr (decide_eq_false e)
      · exact ⟨_, _, _, rfl, rfl, fin _ x hx (.inr rfl) fun z => nomatch z⟩
  obtain ⟨s3, s5, xs, rfl, rfl, v⟩ := hI
  refine db_one (ds_ret (de_tuple T.tuple (de_frz 1 (de_var (i := 4) rfl ⟨xs, rfl, q xs (v.mono ?_)⟩))))
  unfold eJ
  split <;> omega
end
end K35
namespace K35
open PySem PySem.Spec PyProof.Rows L2 Dl
/-- a number of the stretch at a drawn quarter -/
def midF (s : St2) (d : Int) : Q2 := fadd s.1 (fmul (fsub s.2 s.1) (d, 4))
theorem mid_ok {s : St2} {d : Int} (h : StOk s) (d0 : 0 ≤ d) (d1 : d < 5) : Ok2 s.2 s.1 ∧ Ok2 (fsub s.2 s.1) (d, 4) ∧ Ok2 s.1 (fmul (fsub s.2 s.1) (d, 4)) ∧ Nm 20 (midF s d) ∧ (midF s d).2 ≤ 2 ^ 7 ∧ qv s.1 ≤ qv (midF s d) ∧ qv (midF s d) ≤ qv s.2 := by
  have n1 := h.a
  have n2 := h.b
  have a1 := h.a4
  have a2 := h.b4
  have nd : Nm 3 ((d, 4) : Q2) := ⟨(by decide : (0 : Int) < 4), by show d.natAbs < _; omega, (by decide : (4 : Int).natAbs < 2 ^ 3)⟩
  have m1 := n2.sub n1
  have m2 := m1.mul nd
  have m3 := n1.add m2
  obtain ⟨b1, c1⟩ := fsub_b n2.pos n1.pos
  obtain ⟨b2, c2⟩ := fmul_b m1.pos nd.pos
  obtain ⟨b3, c3⟩ := fadd_b n1.pos m2.pos
  have e1 : s.2.2 * s.1.2 ≤ 3 * 3 := Int.mul_le_mul a2 a1 (Int.le_of_lt n1.pos) (by decide)
  have e2 : (fsub s.2 s.1).2 * 4 ≤ 36 := by omega
  have c2' : (fmul (fsub s.2 s.1) (d, 4)).2 ≤ 36 := Int.le_trans c2 e2
  have e3 : s.1.2 * (fmul (fsub s.2 s.1) (d, 4)).2 ≤ 3 * 36 := Int.mul_le_mul a1 c2' (Int.le_of_lt b2) (by decide)
  have small : ∀ {x : Int}, x ≤ 2 ^ 7 → x < 2 ^ 9000 := fun h => lt9000 h (by decide)
  have q2 : qv (fmul (fsub s.2 s.1) (d, 4)) = (qv s.2 - qv s.1) * qv (d, 4) := by rw [qv_mul m1.pos nd.pos, qv_sub n2.pos n1.pos]
  have q3 : qv (midF s d) = qv s.1 + (qv s.2 - qv s.1) * qv (d, 4) := by
    unfold midF
    rw [qv_add n1.pos m2.pos, q2]
  have t0 : 0 ≤ qv (d, 4) := qv_nonneg nd.pos d0
  have t1 : qv (d, 4) ≤ 1 := by
    have := (qv_le (x := (d, 4)) (y := (1, 1)) (by exact (by decide : (0 : Int) < 4)) (by decide)).mp (by show d * 1 ≤ 1 * 4; omega)
    have e : qv (1, 1) = 1 := by show (1 : Rat) / 1 = 1; grind
    rw [e] at this; exact this
  have w0 : 0 ≤ qv s.2 - qv s.1 := by have := h.le; grind
  have p0 : 0 ≤ (qv s.2 - qv s.1) * qv (d, 4) := Rat.mul_nonneg w0 t0
  have p1 : (qv s.2 - qv s.1) * qv (d, 4) ≤ (qv s.2 - qv s.1) * 1 := Rat.mul_le_mul_of_nonneg_left t1 w0
  refine ⟨⟨⟨20, by decide, n2.mono (by decide), n1.mono (by decide)⟩, small (by omega)⟩, ⟨⟨20, by decide, m1.mono (by decide), nd.mono (by decide)⟩, small (by show (fsub s.2 s.1).2 * 4 ≤ _; omega)⟩, ⟨⟨20, by decide, n1.mono (by decide), m2.mono (by decide)⟩, small (by omega)⟩, m3.mono (by decide), ?_, ?_, ?_⟩
  · show (fadd s.1 _).2 ≤ _
    omega
  · rw [q3]; grind
  · rw [q3]; grind
structure PtOk (n : Nat) (pt : Tup Q2) : Prop where
  l : pt.l.length = n
  nm : ∀ k, Nm 51 (vec pt.l k)
def phPoints : Pm Ref := fun as μ P => ∃ (j g : Addr) (n : Nat) (st : List St2) (inner : List Q2), as = [sl (Ref.mk j), sl (Tup.mk st), sl (Tup.mk inner)] ∧ μ = [JarC j g] ∧ (n ≤ 13 ∧ st.length = n ∧ (∀ k, k < n → StOk (stAt st k)) ∧ InnerOk n inner) ∧
  ∀ (l : Addr) (pts : List (Tup Q2)), pts.length ≤ 20 → (∀ pt, pt ∈ pts → PtOk n pt) → (⟨inner⟩ : Tup Q2) ∈ pts → P ⟨l⟩ [JarC j g, lst l pts]
theorem vec_mem {xs : List Q2} {A : Nat} (hA : 1 ≤ A) (h : ∀ x, x ∈ xs → Nm A x) (k : Nat) : Nm A (vec xs k) := by
  unfold vec
  rw [List.getD_eq_getElem?_getD]
  cases e : xs[k]? with
  | none => exact Nm.zero hA
  | some x => exact h x (List.mem_of_getElem? e)
section
variable {P : Program} {w : World} {K : PySem.W.Frag} {mg : Str → Option Value} {base : Heap}
theorem c_rows (D : Dfn K mg "_law_rows" s_law_rows ["jar", "many", "count", "inner", "kept", "large"]) (T : Txt mg) (cd : cDraw P w K mg base) (cl : cLow P w K mg base) (cv : Cal P w K mg base "_law_vector" 3 ["jar", "many", "large"] phVector) (cm : Cal P w K mg base "_law_minus" 2 ["one", "two"] (ph2 fsub)) (cdt : cLDot P w K mg base) :
    Cal P w K mg base "_law_rows" 4 ["jar", "many", "count", "inner", "kept", "large"] phRows := by
  refine D.cal sc_law_rows (fun as μ P h => ?_) fun f cdv A outer s H E hr as μ Pd h => ?_
  · obtain ⟨_, _, _, _, _, _, _, rfl, _⟩ := h; rfl
  obtain ⟨j, g, n, c, inner, kept, L, rfl, rfl, ⟨hn, hc, hi⟩, q⟩ := h
  have hil := hi.l
  refine db_cons (ds_set (i := 6) sc_law_rows.nd (de_lstN (α := Row) (da_nil ⟨[], rfl, by decide, fun l => ?_⟩)))
  refine db_cons (ds_range1 (i := 7) PassesOwn.never rfl sc_law_rows.nd T.range (de_var (i := 2) rfl ⟨by omega, by omega, fun k δ' μ' => ∃ s7 s8 s9 rs, δ' = [sl (Ref.mk j), sl (n : Int), sl (c : Int), sl (Tup.mk inner), sl kept, sl L, sl (Ref.mk l), s7, s8, s9] ∧ μ' = [JarC j g, lst l rs] ∧ rs.length = k ∧ (∀ r, r < k → RowG n r (rowAt rs r)) ∧ (kept = true → ∀ r, r < k → brRow (rowAt rs r) inner = false),
    ⟨_, _, _, _, rfl, rfl, rfl, fun r hr => absurd hr (Nat.not_lt_zero _), fun _ r hr => absurd hr (Nat.not_lt_zero _)⟩, fun k δ' μ' hk hI => ?_, fun δ' μ' hI => ?_⟩))
  · obtain ⟨s7, s8, s9, rs, rfl, rfl, hl, g1, g2⟩ := hI
    have hk : k < c := Int.ofNat_lt.mp hk
    refine db_cons (DS.mid (fun δ' μ' => ∃ cs : List Q2, δ' = [sl (Ref.mk j), sl (n : Int), sl (c : Int), sl (Tup.mk inner), sl kept, sl L, sl (Ref.mk l), sl (k : Int), sl (Tup.mk cs), s9] ∧ μ' = [JarC j g, lst l rs] ∧ VecOk (8 + eR k) n cs) ?_ ?_)
    · refine ds_set (i := 8) sc_law_rows.nd (de_c1 cv hr (by decide) (da_cons (de_var (i := 0) rfl (da_cons (de_var (i := 1) rfl (da_cons (de_and (de_var (i := 5) rfl ⟨fun h => (de_one (de_lt (de_var (i := 7) rfl (de_int (da_nil ⟨_, _, parts_hd, _, _, _, _, rfl, rfl, hn, fun cs v => ⟨cs, rfl, rfl, v.mono ?_⟩⟩))))), fun h => (da_nil ⟨_, _, parts_hd, _, _, _, _, rfl, rfl, hn, fun cs v => ⟨cs, rfl, rfl, v.mono ?_⟩⟩)⟩))))))))
      · unfold eL eR
        by_cases h2 : k < 2
        · rw [if_pos h2]; split <;> omega
        · rw [if_neg (fun z => h2 (by have := of_decide_eq_true z; omega))]; omega
      · exact Nat.add_le_add_left (Nat.zero_le _) _
    rintro δ' μ' ⟨cs, rfl, rfl, v⟩
    refine db_cons (ds_set (i := 9) sc_law_rows.nd (de_c1 cl hr (by decide) (da_cons (de_mul (de_c1 cd hr (by decide) (da_cons (de_var (i := 0) rfl (da_cons (de_int (da_nil ⟨_, _, parts_hd, _, _, _, rfl, rfl, ⟨by decide, by decide⟩, fun a a0 a1 => (de_c1 cd hr (by decide) (da_cons (de_var (i := 0) rfl (da_cons (de_int (da_nil ⟨_, _, parts_hd, _, _, _, rfl, rfl, ⟨by decide, by decide⟩, fun b b0 b1 => ⟨mulx_of (a := 4) (b := 4) (by omega) (by omega) (by decide), (da_cons (de_int (da_nil ⟨[], _, parts_none, _, _, rfl, ⟨by decide, by decide +kernel⟩, ?_⟩)))⟩⟩))))))⟩))))))))))
    have hab : 0 ≤ a * b ∧ a * b ≤ 8 * 1 := ⟨Int.mul_nonneg a0 b0, Int.mul_le_mul (by omega) (by omega) b0 (by decide)⟩
    have so0 : SlOk kept (lo (a * b) 2) := by
      have k1 := lo_le2 (t := a * b) (b := 2) (by decide)
      refine ⟨(Nm.lo (A := 4) (by decide) (by omega) (by decide)).mono (by decide), by show (Dl.lo _ _).2 ≤ _; omega, fun _ => ?_⟩
      exact Int.ediv_nonneg hab.1 (Int.natCast_nonneg _)
    refine db_cons (DS.mid (fun δ' μ' => ∃ s : Q2, δ' = [sl (Ref.mk j), sl (n : Int), sl (c : Int), sl (Tup.mk inner), sl kept, sl L, sl (Ref.mk l), sl (k : Int), sl (Tup.mk cs), sl s] ∧ μ' = [JarC j g, lst l rs] ∧ SlOk kept s) ?_ ?_)
    · refine ds_if (dw_and (dt_not (dt_val (de_var (i := 4) rfl ⟨fun h => (dw_and1 (dt_eqI (de_c1 cd hr (by decide) (da_cons (de_var (i := 0) rfl (da_cons (de_int (da_nil ⟨_, _, parts_hd, _, _, _, rfl, rfl, ⟨by decide, by decide⟩, fun d h0 h1 => (de_int ⟨fun h2 => ?_, fun h2 => db_nil ⟨_, rfl, rfl, so0⟩⟩)⟩)))))))), fun h => ⟨fun h2 => (nomatch h2), fun h2 => db_nil ⟨_, rfl, rfl, so0⟩⟩⟩)))).dt
      refine db_one (ds_set (i := 9) sc_law_rows.nd (de_ixL (de_lstF (da_cons (de_tup2 (de_neg (de_int (de_pow (de_int (de_int ⟨⟨by decide, by decide, by decide⟩, (da_cons (de_tup2 (de_neg (de_int (de_int (da_cons (de_tup2 (de_neg (de_int (de_int (da_nil ⟨[((-1 : Int), (10 : Int) ^ (9 : Int).toNat), (-1, 2), (-7, 1)], rfl, by decide, (de_c1 cd hr (by decide) (da_cons (de_var (i := 0) rfl (da_cons (de_int (da_nil ⟨_, _, parts_hd, _, _, _, rfl, rfl, ⟨by decide, by decide⟩, fun d h0 h1 => ?_⟩))))))⟩)))))))))))⟩))))))))))
      obtain ⟨s, e, hm⟩ := atI_mem (xs := [((-1 : Int), (10 : Int) ^ (9 : Int).toNat), (-1, 2), (-7, 1)]) h0 (by exact h1)
      refine ⟨s, e, s, rfl, rfl, ?_⟩
      have hk : kept = false := by rw [Bool.not_eq_true'] at h; exact h
      simp only [List.mem_cons, List.mem_nil_iff, or_false] at hm
      rcases hm with rfl | rfl | rfl
      · exact ⟨⟨by decide, by decide, by decide⟩, by decide, fun z => by rw [hk] at z; exact nomatch z⟩
      · exact ⟨⟨by decide, by decide, by decide⟩, by decide, fun z => by rw [hk] at z; exact nomatch z⟩
      · exact ⟨⟨by decide, by decide, by decide⟩, by decide, fun z => by rw [hk] at z; exact nomatch z⟩
    rintro δ' μ' ⟨s, rfl, rfl, so⟩
    obtain ⟨o1, o2, o3⟩ := row_new hn v (Nat.le_refl _) hi so
    obtain ⟨d1, _, _⟩ := row_dot hn v (by unfold eR; split <;> omega) hi
    have hcs : cs.length = n := v.l
    refine db_one (ds_expr (de_append 1 (de_var (i := 6) rfl ⟨⟨_, rfl⟩, (de_tup2 (de_var (i := 8) rfl (de_c1 cm hr (by decide) (da_cons (de_c1 cdt hr (by decide) (da_cons (de_var (i := 8) rfl (da_cons (de_var (i := 3) rfl (da_nil ⟨[], _, parts_none, ⟨cs⟩, inner, .inl rfl, ⟨by show cs.length ≤ _; omega, by show DotOk _ _ cs.length; rw [hcs]; exact d1⟩, (da_cons (de_var (i := 9) rfl (da_nil ⟨[], _, parts_none, _, _, rfl, (by show Ok2 (fdot _ _ cs.length) _; rw [hcs]; exact o1), ⟨_, rfl, by omega, ?_⟩⟩)))⟩))))))))))⟩)))
    refine ⟨_, _, _, rs ++ [(⟨cs⟩, fsub (fdot (vec cs) (vec inner) cs.length) s)], rfl, rfl, by rw [List.length_append, hl]; rfl, fun r hr => ?_, fun hkp r hr => ?_⟩
    · rw [rowAt_snoc, hcs]
      by_cases e : r < rs.length
      · rw [if_pos e]; exact g1 r (by omega)
      · rw [if_neg e, if_pos (by omega)]
        have : r = k := by omega
        subst this
        exact o2
    · rw [rowAt_snoc, hcs]
      by_cases e : r < rs.length
      · rw [if_pos e]; exact g2 hkp r (by omega)
      · rw [if_neg e, if_pos (by omega)]
        exact o3 hkp
  obtain ⟨s7, s8, s9, rs, rfl, rfl, hl, g1, g2⟩ := hI
  exact db_one (ds_ret (de_tuple T.tuple (de_frz 1 (de_var (i := 6) rfl ⟨rs, rfl, q rs hl g1 g2⟩))))
theorem c_duals (D : Dfn K mg "_law_duals" s_law_duals ["jar", "count", "large"]) (T : Txt mg) (cd : cDraw P w K mg base) (cn : Cal P w K mg base "_law_number" 2 ["jar", "large"] phNumber) : Cal P w K mg base "_law_duals" 3 ["jar", "count", "large"] phDuals := by
  refine D.cal sc_law_duals (fun as μ P h => ?_) fun f cdv A outer s H E hr as μ Pd h => ?_
  · obtain ⟨_, _, _, _, rfl, _⟩ := h; rfl
  obtain ⟨j, g, c, L, rfl, rfl, hc, q⟩ := h
  refine db_cons (ds_set (i := 3) sc_law_duals.nd (de_lstN (α := Q2) (da_nil ⟨[], rfl, by decide, fun l => ?_⟩)))
  refine db_cons (ds_range1 (i := 4) PassesOwn.never rfl sc_law_duals.nd T.range (de_var (i := 1) rfl ⟨by omega, by omega, fun k δ' μ' => ∃ s4 s5 du, δ' = [sl (Ref.mk j), sl (c : Int), sl L, sl (Ref.mk l), s4, s5] ∧ μ' = [JarC j g, lst l du] ∧ DuOk k du, ⟨_, _, _, rfl, rfl, ⟨rfl, fun r hr => absurd hr (Nat.not_lt_zero _), fun r hr => absurd hr (Nat.not_lt_zero _), fun r hr => absurd hr (Nat.not_lt_zero _)⟩⟩, fun k δ' μ' hk hI => ?_, fun δ' μ' hI => ?_⟩))
  · obtain ⟨s4, s5, du, rfl, rfl, ok⟩ := hI
    have hk : k < c := Int.ofNat_lt.mp hk
    have hl := ok.l
    have grow : ∀ x : Q2, Nm 134 x → x.2 ≤ 2 ^ (2 + eR k) → 0 ≤ x.1 → DuOk (k + 1) (du ++ [x]) := fun x h1 h2 h3 => by
      have e : ∀ r, r < k + 1 → (r < k ∧ vec (du ++ [x]) r = vec du r) ∨ (r = k ∧ vec (du ++ [x]) r = x) := fun r hr => by
        rw [vec_snoc]
        by_cases e : r < du.length
        · exact .inl ⟨by omega, if_pos e⟩
        · exact .inr ⟨by omega, by rw [if_neg e, if_pos (by omega)]⟩
      refine ⟨by rw [List.length_append, hl]; rfl, fun r hr => ?_, fun r hr => ?_, fun r hr => ?_⟩
      · rcases e r hr with ⟨a, b⟩ | ⟨a, b⟩
        · rw [b]; exact ok.nm r a
        · rw [b]; exact h1
      · rcases e r hr with ⟨a, b⟩ | ⟨a, b⟩
        · rw [b]; exact ok.b r a
        · rw [b, a]; exact h2
      · rcases e r hr with ⟨a, b⟩ | ⟨a, b⟩
        · rw [b]; exact ok.ge r a
        · rw [b]; exact h3
    refine db_cons (DS.mid (fun δ' μ' => ∃ x : Q2, δ' = [sl (Ref.mk j), sl (c : Int), sl L, sl (Ref.mk l), sl (k : Int), sl x] ∧ μ' = [JarC j g, lst l du] ∧ Nm 134 x ∧ x.2 ≤ 2 ^ (2 + eR k)) ?_ ?_)
    · refine ds_set (i := 5) sc_law_duals.nd (de_c1 cn hr (by decide) (da_cons (de_var (i := 0) rfl (da_cons (de_and (de_var (i := 2) rfl ⟨fun h => (de_one (de_lt (de_var (i := 4) rfl (de_int (da_nil ⟨_, _, parts_hd, _, _, _, rfl, rfl, fun x hx => ⟨x, rfl, rfl, hx.n, Int.le_trans hx.b (ipow_le ?_)⟩⟩))))), fun h => (da_nil ⟨_, _, parts_hd, _, _, _, rfl, rfl, fun x hx => ⟨x, rfl, rfl, hx.n, Int.le_trans hx.b (ipow_le ?_)⟩⟩)⟩))))))
      · unfold eL eR
        by_cases h2 : k < 2
        · rw [if_pos h2]; split <;> omega
        · rw [if_neg (fun z => h2 (by have := of_decide_eq_true z; omega))]; omega
      · exact Nat.add_le_add_left (Nat.zero_le _) _
    rintro δ' μ' ⟨x, rfl, rfl, x1, x2⟩
    refine db_cons (DS.mid (fun δ' μ' => ∃ x : Q2, δ' = [sl (Ref.mk j), sl (c : Int), sl L, sl (Ref.mk l), sl (k : Int), sl x] ∧ μ' = [JarC j g, lst l du] ∧ Nm 134 x ∧ x.2 ≤ 2 ^ (2 + eR k) ∧ 0 ≤ x.1) ?_ ?_)
    · have z1 : ((0, 1) : Q2).2 ≤ 2 ^ (2 + eR k) := Int.le_trans (by decide : (1 : Int) ≤ 2 ^ 0) (ipow_le (Nat.zero_le _))
      refine ds_if (dw_or (dt_lt (de_ix0 (de_var (i := 5) rfl (de_int ⟨fun h => ⟨fun _ => ?_, fun h => (nomatch h)⟩, fun h => (dw_or1 (dt_eqI (de_c1 cd hr (by decide) (da_cons (de_var (i := 0) rfl (da_cons (de_int (da_nil ⟨_, _, parts_hd, _, _, _, rfl, rfl, ⟨by decide, by decide⟩, fun d h0 h1 => (de_int ⟨fun h2 => ?_, fun h2 => ?_⟩)⟩))))))))⟩))))).dt
      · exact db_one (ds_set (i := 5) sc_law_duals.nd (de_tup2 (de_int (de_int ⟨(0, 1), rfl, rfl, Nm.zero (by decide), z1, (by decide : (0 : Int) ≤ 0)⟩))))
      · exact db_one (ds_set (i := 5) sc_law_duals.nd (de_tup2 (de_int (de_int ⟨(0, 1), rfl, rfl, Nm.zero (by decide), z1, (by decide : (0 : Int) ≤ 0)⟩))))
      · have := of_decide_eq_false h
        exact db_nil ⟨x, rfl, rfl, x1, x2, by omega⟩
    rintro δ' μ' ⟨x, rfl, rfl, x1, x2, x3⟩
    refine db_one (ds_expr (de_append 1 (de_var (i := 3) rfl ⟨⟨_, rfl⟩, (de_var (i := 5) rfl ⟨_, rfl, by omega, ?_⟩)⟩)))
    exact ⟨_, _, _, rfl, rfl, grow x x1 x2 x3⟩
  obtain ⟨s4, s5, du, rfl, rfl, ok⟩ := hI
  exact db_one (ds_ret (de_tuple T.tuple (de_frz 1 (de_var (i := 3) rfl ⟨du, rfl, q du ok⟩))))
theorem c_points (D : Dfn K mg "_law_points" s_law_points ["jar", "stretches", "inner"]) (T : Txt mg) (cd : cDraw P w K mg base) (ca : Cal P w K mg base "_law_plus" 2 ["one", "two"] (ph2 fadd)) (cs : Cal P w K mg base "_law_minus" 2 ["one", "two"] (ph2 fsub)) (cm : Cal P w K mg base "_law_times" 2 ["one", "two"] (ph2 fmul)) :
    Cal P w K mg base "_law_points" 3 ["jar", "stretches", "inner"] phPoints := by
  refine D.cal sc_law_points (fun as μ P h => ?_) fun f cdv A outer s H E hr as μ Pd h => ?_
  · obtain ⟨_, _, _, _, _, rfl, _⟩ := h; rfl
  obtain ⟨j, g, n, st, inner, rfl, rfl, ⟨hn, hst, hs, hi⟩, q⟩ := h
  have hil := hi.l
  have pin : PtOk n ⟨inner⟩ := ⟨hil, fun k => (hi.nm k).mono (by decide)⟩
  refine db_cons (ds_set (i := 3) sc_law_points.nd (de_lstN (α := Tup Q2) (da_cons (de_var (i := 2) rfl (da_nil ⟨[⟨inner⟩], rfl, by exact (by decide : 1 ≤ 1000), fun l => ?_⟩)))))
  refine db_cons (ds_set (i := 4) sc_law_points.nd (de_lenT T.len (de_var (i := 1) rfl ?_)))
  refine db_cons (ds_range1 (i := 5) PassesOwn.never rfl sc_law_points.nd T.range (de_mulS (de_int (de_intB T.int (de_gt (de_var (i := 4) rfl (de_int ⟨.inl ⟨by decide, by decide⟩, ⟨by split <;> decide, by split <;> decide, fun k δ' μ' => ∃ s5 s6 s7 s8 s9 s10 s11 pts, δ' = [sl (Ref.mk j), sl (Tup.mk st), sl (Tup.mk inner), sl (Ref.mk l), sl (st.length : Int), s5, s6, s7, s8, s9, s10, s11] ∧ μ' = [JarC j g, lst l pts] ∧ pts.length = k + 1 ∧ (∀ pt, pt ∈ pts → PtOk n pt) ∧ (⟨inner⟩ : Tup Q2) ∈ pts,
    ⟨_, _, _, _, _, _, _, _, rfl, rfl, rfl, fun pt hp => by rw [List.mem_singleton.mp hp]; exact pin, List.mem_singleton.mpr rfl⟩, fun k δ' μ' hk hI => ?_, fun δ' μ' hI => ?_⟩⟩)))))))
  · obtain ⟨s5, s6, s7, s8, s9, s10, s11, pts, rfl, rfl, hl, g1, g2⟩ := hI
    have hk5 : 0 < n ∧ k < 5 := by
      by_cases z : 0 < (st.length : Int)
      · rw [if_pos (decide_eq_true z)] at hk; omega
      · rw [if_neg (fun e => z (of_decide_eq_true e))] at hk; omega
    refine db_cons (ds_set (i := 6) sc_law_points.nd (de_list T.list (de_var (i := 2) rfl fun l2 => ?_)))
    refine db_cons (ds_set (i := 7) sc_law_points.nd (de_c1 cd hr (by decide) (da_cons (de_var (i := 0) rfl (da_cons (de_var (i := 4) rfl (da_nil ⟨_, _, parts_hd, _, _, _, rfl, rfl, ⟨by omega, Nat.lt_trans (bits_of (n := 4) (by omega) (by decide)) (by decide)⟩, fun d d0 d1 => ?_⟩)))))))
    obtain ⟨i, rfl⟩ := Int.eq_ofNat_of_zero_le d0
    have hi' : i < st.length := by omega
    have so := hs i (by omega)
    have nt : Nm 30 ((1, (10 : Int) ^ (9 : Int).toNat) : Q2) := ⟨by decide, by decide, by decide⟩
    have np := hi.nm i
    have h7 := hi.b i
    have big : ∀ {A B : Nat} {x y : Q2}, Nm A x → Nm B y → A + B < 9000 → Ok2 x y := fun {A B x y} a b hab => by
      refine ⟨⟨9000, by decide, a.mono (by omega), b.mono (by omega)⟩, ?_⟩
      obtain ⟨p, _, _, c, _⟩ := a.raw b
      refine lt9000 (k := A + B) ?_ hab
      have e : (2 : Int) ^ (A + B) = ((2 ^ (A + B) : Nat) : Int) := by rw [Int.natCast_pow] <;> rfl
      rw [e]; omega
    refine db_cons (ds_unpack2 (i := 8) (j := 9) rfl sc_law_points.nd (de_ixT (de_var (i := 1) rfl (de_var (i := 7) rfl ⟨_, atI_st hi', ?_⟩))))
    refine db_cons (ds_set (i := 10) sc_law_points.nd (de_tup2 (de_int (de_pow (de_int (de_int ⟨⟨by decide, by decide, by decide⟩, ?_⟩))))))
    refine db_cons (DS.mid (fun δ' μ' => ∃ (y : Q2) (s7 s8 s9 s10 s11 : Slot), δ' = [sl (Ref.mk j), sl (Tup.mk st), sl (Tup.mk inner), sl (Ref.mk l), sl (st.length : Int), sl (k : Int), sl (Ref.mk l2), s7, s8, s9, s10, s11] ∧ μ' = [JarC j g, lst l pts, lst l2 (inner.set i y)] ∧ Nm 51 y) ?_ ?_)
    · refine ds_setItem 2 (de_ixL (de_lstF (da_cons (de_var (i := 8) rfl (da_cons (de_var (i := 9) rfl (da_cons (de_c1 ca hr (by decide) (da_cons (de_var (i := 9) rfl (da_cons (de_var (i := 10) rfl (da_nil ⟨[], _, parts_none, _, _, rfl, big so.b nt (by decide), (da_cons (de_c1 cs hr (by decide) (da_cons (de_var (i := 8) rfl (da_cons (de_var (i := 10) rfl (da_nil ⟨[], _, parts_none, _, _, rfl, big so.a nt (by decide), (da_cons (de_c1 ca hr (by decide) (da_cons (de_ixC (α := Q2) 2 (de_var (i := 6) rfl (de_var (i := 7) rfl ⟨inner, rfl, _, atI_vec (by omega), (da_cons (de_var (i := 10) rfl (da_nil ⟨[], _, parts_none, _, _, rfl, big np nt (by decide), (da_cons (de_c1 cs hr (by decide) (da_cons (de_ixC (α := Q2) 2 (de_var (i := 6) rfl (de_var (i := 7) rfl ⟨inner, rfl, _, atI_vec (by omega), (da_cons (de_var (i := 10) rfl (da_nil ⟨[], _, parts_none, _, _, rfl, big np nt (by decide), (da_nil ⟨[(stAt st i).1, (stAt st i).2, fadd (stAt st i).2 (1, 10 ^ (9 : Int).toNat), fsub (stAt st i).1 (1, 10 ^ (9 : Int).toNat), fadd (vec inner i) (1, 10 ^ (9 : Int).toNat), fsub (vec inner i) (1, 10 ^ (9 : Int).toNat)], rfl, (by exact (by decide : 6 ≤ 1000)), (de_c1 cd hr (by decide) (da_cons (de_var (i := 0) rfl (da_cons (de_int (da_nil ⟨_, _, parts_hd, _, _, _, rfl, rfl, ⟨by decide, by decide⟩, fun d h0 h1 => ?_⟩))))))⟩)⟩)))⟩))))))⟩)))⟩))))))⟩)))))))⟩)))))))))))))
      obtain ⟨y, e, hm⟩ := atI_mem (xs := [(stAt st i).1, (stAt st i).2, fadd (stAt st i).2 (1, 10 ^ (9 : Int).toNat), fsub (stAt st i).1 (1, 10 ^ (9 : Int).toNat), fadd (vec inner i) (1, 10 ^ (9 : Int).toNat), fsub (vec inner i) (1, 10 ^ (9 : Int).toNat)]) h0 (by exact h1)
      have ny : Nm 51 y := by
        simp only [List.mem_cons, List.mem_nil_iff, or_false] at hm
        rcases hm with rfl | rfl | rfl | rfl | rfl | rfl
        · exact so.a.mono (by decide)
        · exact so.b.mono (by decide)
        · exact (so.b.add nt).mono (by decide)
        · exact (so.a.sub nt).mono (by decide)
        · exact (np.add nt).mono (by decide)
        · exact (np.sub nt).mono (by decide)
      exact ⟨y, e, (de_var (i := 6) rfl (de_var (i := 7) rfl ⟨inner, rfl, i, ixN_nat (by omega), y, _, _, _, _, _, rfl, rfl, ny⟩))⟩
    rintro δ' μ' ⟨y, s7, s8, s9, s10, s11, rfl, rfl, ny⟩
    refine db_one (ds_expr (de_append 1 (de_var (i := 3) rfl ⟨⟨_, rfl⟩, (de_tuple T.tuple (de_frz 2 (de_var (i := 6) rfl ⟨_, rfl, ⟨_, rfl, by omega, ?_⟩⟩)))⟩)))
    refine ⟨_, _, _, _, _, _, _, pts ++ [⟨inner.set i y⟩], rfl, rfl, by rw [List.length_append, hl]; rfl, fun pt hp => ?_, List.mem_append_left _ g2⟩
    rcases List.mem_append.mp hp with hp | hp
    · exact g1 pt hp
    · rw [List.mem_singleton.mp hp]
      refine ⟨by show (inner.set i y).length = n; rw [List.length_set]; exact hil, fun k => ?_⟩
      show Nm _ (vec (inner.set i y) k)
      rw [vec_set (by omega)]
      split
      · exact ny
      · exact (hi.nm k).mono (by decide)
  obtain ⟨s5, s6, s7, s8, s9, s10, s11, pts, rfl, rfl, hl, g1, g2⟩ := hI
  have hl6 : pts.length ≤ 6 := by
    rw [hl]
    split <;> decide
  refine db_cons (ds_range1 (i := 5) PassesOwn.never rfl sc_law_points.nd T.range (de_int ⟨by decide, by decide, fun k δ' μ' => ∃ s5 s11 pts, δ' = [sl (Ref.mk j), sl (Tup.mk st), sl (Tup.mk inner), sl (Ref.mk l), sl (st.length : Int), s5, s6, s7, s8, s9, s10, s11] ∧ μ' = [JarC j g, lst l pts] ∧ pts.length ≤ k + 6 ∧ (∀ pt, pt ∈ pts → PtOk n pt) ∧ (⟨inner⟩ : Tup Q2) ∈ pts,
    ⟨_, _, _, rfl, rfl, hl6, g1, g2⟩, fun k δ' μ' hk hI => ?_, fun δ' μ' hI => ?_⟩))
  · obtain ⟨s5, s11, pts, rfl, rfl, hl, g1, g2⟩ := hI
    refine db_one (ds_expr (de_append 1 (de_var (i := 3) rfl ⟨⟨_, rfl⟩, (de_tuple T.tuple (de_lcT (own := [("row", 11)]) (β := Q2) rfl sc_law_points.nd (blkOk_by (N := ["jar", "stretches", "inner", "found", "many", "step", "point", "j", "low", "high", "tiny", "row"]) (sc := defScope s_law_points) (by decide +kernel)) (fun (x : St2) δ => δ.set 11 (sl x)) (fun _ _ _ _ _ => pg_name (i := 11) sc_law_points.nd rfl (Or.inl rfl)) (fun x => wb_name) (by decide)
      (de_var (i := 1) rfl ⟨fun i ys μ' => ys.length = i ∧ (∀ y, y ∈ ys → Nm 51 y) ∧ μ' = [JarC j g, lst l pts], ⟨rfl, fun y hy => absurd hy List.not_mem_nil, rfl⟩, fun i x ys μ' hx hJ => ?_, fun ys μ' hJ => ?_⟩)))⟩)))
    · obtain ⟨hy, hall, rfl⟩ := hJ
      have hi' : i < st.length := (List.getElem?_eq_some_iff.mp hx).1
      have ex : stAt st i = x := by unfold stAt; rw [List.getD_eq_getElem?_getD, hx]; rfl
      have so : StOk x := by rw [← ex]; exact hs i (by omega)
      intro s H C cl fp
      refine (de_c1 ca hr (by decide) (da_cons (de_ix0 (de_var (i := 11) rfl (da_cons (de_c1 cm hr (by decide) (da_cons (de_c1 cs hr (by decide) (da_cons (de_ix1 (de_var (i := 11) rfl (da_cons (de_ix0 (de_var (i := 11) rfl (da_nil ⟨[], _, parts_none, _, _, rfl, ?_, (da_cons (de_tup2 (de_c1 cd hr (by decide) (da_cons (de_var (i := 0) rfl (da_cons (de_int (da_nil ⟨_, _, parts_hd, _, _, _, rfl, rfl, ⟨by decide, by decide⟩, fun d d0 d1 => (de_int (da_nil ⟨[], _, parts_none, _, _, rfl, ?_, (da_nil ⟨[], _, parts_none, _, _, rfl, ?_, ?_⟩)⟩))⟩))))))))⟩)))))))))))))))
      · exact (mid_ok so (Int.le_refl 0) (by decide)).1
      · exact (mid_ok so d0 d1).2.1
      · exact (mid_ok so d0 d1).2.2.1
      · refine ⟨by omega, by rw [List.length_append, hy]; rfl, fun y hm => ?_, rfl⟩
        rcases List.mem_append.mp hm with hm | hm
        · exact hall y hm
        · rw [List.mem_singleton.mp hm]
          exact (mid_ok so d0 d1).2.2.2.1.mono (by decide)
    obtain ⟨hy, hall, rfl⟩ := hJ
    refine ⟨_, rfl, by omega, ?_⟩
    refine ⟨_, _, pts ++ [⟨ys⟩], rfl, rfl, by rw [List.length_append, List.length_singleton]; omega, fun pt hp => ?_, List.mem_append_left _ g2⟩
    rcases List.mem_append.mp hp with hp | hp
    · exact g1 pt hp
    · rw [List.mem_singleton.mp hp]
      exact ⟨hy.trans hst, fun k => vec_mem (by decide) hall k⟩
  obtain ⟨s5, s11, pts, rfl, rfl, hl, g1, g2⟩ := hI
  refine db_one (ds_ret (de_var (i := 3) rfl (q l pts ?_ g1 g2)))
  have : ((2 : Int)).toNat = 2 := rfl
  omega
end
end K35
namespace K35
open PySem PySem.Spec PyProof.Rows L2 Dl
/-! ### sizes -/
def SZ (n c : Nat) : Prop := (n ≤ 13 ∧ c ≤ 12) ∨ (n ≤ 3 ∧ c ≤ 81)
theorem SZ.le {n c : Nat} (h : SZ n c) : n ≤ 13 ∧ c ≤ 81 ∧ n * c ≤ 243 := by
  rcases h with ⟨a, b⟩ | ⟨a, b⟩
  · have := Nat.mul_le_mul a b; omega
  · have := Nat.mul_le_mul a b; omega
structure Rs (n c : Nat) (rs : List Row) : Prop where
  l : rs.length = c
  g : ∀ r, r < c → RowG n r (rowAt rs r)
structure StsOk (n : Nat) (st : List St2) : Prop where
  l : st.length = n
  s : ∀ k, k < n → StOk (stAt st k)
structure GoalOk (n : Nat) (goal : List Q2) : Prop where
  l : goal.length = n
  nm : ∀ k, Nm 134 (vec goal k)
  b : ∀ k, (vec goal k).2 ≤ 4
theorem nm_b {A : Nat} {x : Q2} (h : Nm A x) : x.2 ≤ 2 ^ A := by
  have e : (2 : Int) ^ A = ((2 ^ A : Nat) : Int) := by rw [Int.natCast_pow] <;> rfl
  have := h.b
  rw [e]; omega
theorem rows_ok {n c : Nat} {rs : List Row} {pt : Tup Q2} (hn : n ≤ 13) (hc : c ≤ 100) (h : Rs n c rs) (p : PtOk n pt) : RowsOk rs pt.l := by
  have hl := h.l
  have lk := fun r (hr : r < rs.length) => (h.g r (by omega)).v.l
  refine ⟨by omega, fun r hr => by rw [lk r hr, p.l]; exact Nat.le_refl _, fun r hr => ?_, fun r hr => ?_⟩
  · rw [lk r hr]
    have v := (h.g r (by omega)).v
    have b := Pn_vec (n := n) (ys := pt.l) (d := 51) (fun k => (v.nm k).pos) (fun k => ⟨(p.nm k).pos, nm_b (p.nm k)⟩) v.b
    refine ⟨by omega, ⟨134, by decide, fun k _ => v.nm k, fun k _ => (p.nm k).mono (by decide)⟩, lt9000 b ?_⟩
    unfold eR; split <;> omega
  · rw [lk r hr]
    have v := (h.g r (by omega)).v
    refine ⟨3000, by decide, (fdot_Nm (A := 134) (B := 51) (fun k _ => v.nm k) (fun k _ => p.nm k)).mono ?_, (h.g r (by omega)).nm⟩
    have : n * (134 + 51 + 1) ≤ 13 * 186 := Nat.mul_le_mul hn (by decide)
    omega
theorem in_ok {n : Nat} {st : List St2} {pt : Tup Q2} (hn : n ≤ 13) (h : StsOk n st) (p : PtOk n pt) : InOk st pt.l := by
  have hl := h.l
  have pl := p.l
  exact ⟨by omega, by omega, fun k hk => ⟨51, by decide, (h.s k (by omega)).a.mono (by decide), p.nm k⟩, fun k hk => ⟨51, by decide, p.nm k, (h.s k (by omega)).b.mono (by decide)⟩⟩
theorem vec_map {rs : List Row} {f : Row → Q2} {r : Nat} (h : r < rs.length) : vec (rs.map f) r = f (rowAt rs r) := by
  unfold vec rowAt
  rw [List.getD_eq_getElem?_getD, List.getD_eq_getElem?_getD, List.getElem?_map, List.getElem?_eq_getElem h]
  rfl
theorem sum_eR (a m : Nat) : ∀ c : Nat, ((List.range c).map fun r => a + m * eR r).sum ≤ a * c + m * 266
  | 0 => Nat.zero_le _
  | 1 => by
    show a + m * eR 0 + 0 ≤ _
    have : eR 0 = 133 := rfl
    rw [this]; omega
  | 2 => by
    show a + m * eR 0 + (a + m * eR 1 + 0) ≤ _
    have h0 : eR 0 = 133 := rfl
    have h1 : eR 1 = 133 := rfl
    rw [h0, h1]; omega
  | c + 3 => by
    have ih := sum_eR a m (c + 2)
    rw [List.range_succ, List.map_append, List.sum_append]
    have z : eR (c + 2) = 0 := if_neg (by omega)
    simp only [List.map_cons, List.map_nil, List.sum_cons, List.sum_nil, Nat.add_zero]
    rw [z, Nat.mul_zero, Nat.add_zero, show a * (c + 3) = a * (c + 2) + a by rw [← Nat.mul_succ]]
    omega
theorem Pn_swap {f : Nat → Nat → Int} {c : Nat} : ∀ n : Nat, Pn (fun j => Pn (fun r => f r j) c) n = Pn (fun r => Pn (fun j => f r j) n) c
  | 0 => (Pn_one (n := c)).symm
  | n + 1 => by
    show Pn (fun j => Pn (fun r => f r j) c) n * Pn (fun r => f r n) c = Pn (fun r => Pn (fun j => f r j) n * f r n) c
    rw [Pn_mul, Pn_swap n]
section
variable {n c : Nat} {goal : List Q2} {rs : List Row} {st : List St2} {du : List Q2}
def Cj (rs : List Row) (c j : Nat) : Int := Pn (fun r => (vec (rowAt rs r).1.l j).2) c
def Dd (du : List Q2) (c : Nat) : Int := Pn (fun r => (vec du r).2) c
def W0 (rs : List Row) (du : List Q2) (c : Nat) : Int := Pn (fun r => (vec du r).2 * (rowAt rs r).2.2) c
theorem W0_le (R : Rs n c rs) (d : DuOk c du) : 0 < W0 rs du c ∧ W0 rs du c ≤ 2 ^ ((40 + 7 * n) * c + 2 * 266) := by
  have p : ∀ r, r < c → 0 < (vec du r).2 * (rowAt rs r).2.2 ∧ (vec du r).2 * (rowAt rs r).2.2 ≤ 2 ^ ((40 + 7 * n) + 2 * eR r) := fun r hr => by
    have a := (d.nm r hr).pos
    have b := (R.g r hr).nm.pos
    refine ⟨Int.mul_pos a b, ?_⟩
    rw [show 40 + 7 * n + 2 * eR r = (2 + eR r) + (38 + eR r + 7 * n) by omega, Int.pow_add]
    exact Int.mul_le_mul (d.b r hr) (R.g r hr).b (Int.le_of_lt b) (Int.le_of_lt (Int.pow_pos (by decide)))
  exact ⟨Pn_pos fun r hr => (p r hr).1, Int.le_trans (Pn_two (e := fun r => (40 + 7 * n) + 2 * eR r) p) (ipow_le (sum_eR _ _ _))⟩
theorem Dd_le (d : DuOk c du) : 0 < Dd du c ∧ Dd du c ≤ 2 ^ (2 * c + 1 * 266) :=
  ⟨Pn_pos fun r hr => (d.nm r hr).pos, Int.le_trans (Pn_two (e := fun r => 2 + 1 * eR r) fun r hr => ⟨(d.nm r hr).pos, by rw [Nat.one_mul]; exact d.b r hr⟩) (ipow_le (sum_eR _ _ _))⟩
theorem Cj_pos (R : Rs n c rs) (j : Nat) : 0 < Cj rs c j := Pn_pos fun r hr => ((R.g r hr).v.nm j).pos
theorem Cj_all (R : Rs n c rs) : Pn (fun j => Cj rs c j) n ≤ 2 ^ (8 * c + 1 * 266) := by
  show Pn (fun j => Pn (fun r => (vec (rowAt rs r).1.l j).2) c) n ≤ _
  rw [Pn_swap]
  exact Int.le_trans (Pn_two (e := fun r => 8 + 1 * eR r) fun r hr => ⟨Pn_pos fun j _ => ((R.g r hr).v.nm j).pos, by rw [Nat.one_mul]; exact (R.g r hr).v.b⟩) (ipow_le (sum_eR _ _ _))
theorem Pn_congr {f g : Nat → Int} {n : Nat} (h : ∀ k, k < n → f k = g k) : Pn f n = Pn g n := by
  induction n with
  | zero => rfl
  | succ n ih =>
    show Pn f n * f n = Pn g n * g n
    rw [ih fun k hk => h k (by omega), h n (by omega)]
def TT (rs : List Row) (du : List Q2) (c j : Nat) : Int := 2 ^ 4 * Dd du c * Cj rs c j
theorem TT_all (R : Rs n c rs) (d : DuOk c du) : Pn (TT rs du c) n ≤ 2 ^ ((4 + (2 * c + 1 * 266)) * n + (8 * c + 1 * 266)) := by
  obtain ⟨d0, d1⟩ := Dd_le d
  have e : Pn (TT rs du c) n = Pn (fun _ => 2 ^ 4 * Dd du c) n * Pn (fun j => Cj rs c j) n := Pn_mul (f := fun _ => 2 ^ 4 * Dd du c) (g := fun j => Cj rs c j)
  have h0 : 0 < 2 ^ 4 * Dd du c := by omega
  have h1 : 2 ^ 4 * Dd du c ≤ 2 ^ (4 + (2 * c + 1 * 266)) := by rw [Int.pow_add]; omega
  have p := Pn_two (f := fun _ => 2 ^ 4 * Dd du c) (e := fun _ => 4 + (2 * c + 1 * 266)) (n := n) fun _ _ => ⟨h0, h1⟩
  have e2 : ((List.range n).map fun _ => 4 + (2 * c + 1 * 266)).sum = (4 + (2 * c + 1 * 266)) * n := by rw [List.map_const', List.sum_replicate_nat, List.length_range, Nat.mul_comm]
  rw [e2] at p
  rw [e, Int.pow_add]
  exact Int.mul_le_mul p (Cj_all R) (Int.le_of_lt (Pn_pos fun j _ => Cj_pos R j)) (Int.le_of_lt (Int.pow_pos (by decide)))
theorem total_lt (z : SZ n c) (R : Rs n c rs) (d : DuOk c du) : W0 rs du c * Pn (TT rs du c) n < 2 ^ 9000 := by
  obtain ⟨hn, hc, hnc⟩ := z.le
  obtain ⟨w0, w1⟩ := W0_le R d
  have t0 : 0 < Pn (TT rs du c) n := Pn_pos fun j _ => Int.mul_pos (Int.mul_pos (by decide) (Dd_le d).1) (Cj_pos R j)
  have h := Int.mul_le_mul w1 (TT_all R d) (Int.le_of_lt t0) (Int.le_of_lt (Int.pow_pos (by decide)))
  rw [← Int.pow_add] at h
  refine lt9000 h ?_
  have a1 : (40 + 7 * n) * c = 40 * c + 7 * (n * c) := by rw [Nat.add_mul, Nat.mul_assoc]
  have a2 : (4 + (2 * c + 1 * 266)) * n = 270 * n + 2 * (n * c) := by rw [show 4 + (2 * c + 1 * 266) = 270 + 2 * c by omega, Nat.add_mul, Nat.mul_assoc, Nat.mul_comm c n]
  rw [a1, a2]
  rcases z with ⟨x, y⟩ | ⟨x, y⟩
  · have := Nat.mul_le_mul x y; omega
  · have := Nat.mul_le_mul x y; omega
theorem least_b {x y : Q2} {b : Int} {A : Nat} (h1 : Nm A x ∧ x.2 ≤ b) (h2 : Nm A y ∧ y.2 ≤ b) : Nm A (leastF x y) ∧ (leastF x y).2 ≤ b := by
  unfold leastF; split
  · exact h1
  · exact h2
/-- the parts of the worth of duals: sizes -/
theorem parts_j (z : SZ n c) (R : Rs n c rs) (S : StsOk n st) (G : GoalOk n goal) (d : DuOk c du) {j : Nat} (hj : j < n) :
    DotOk (vec du) (vec (rs.map fun r => vec r.1.l j)) c ∧ Ok2 (vec goal j) (fdot (vec du) (vec (rs.map fun r => vec r.1.l j)) c) ∧
    (∀ s, Nm 5 s → s.2 ≤ 3 → Ok2 (restF goal rs du j) s ∧ Nm 22300 (fmul (restF goal rs du j) s) ∧ (fmul (restF goal rs du j) s).2 ≤ TT rs du c j) := by
  obtain ⟨hn, hc, hnc⟩ := z.le
  have dl := d.l
  have rl := R.l
  have ev : ∀ r, r < c → vec (rs.map fun r => vec r.1.l j) r = vec (rowAt rs r).1.l j := fun r hr => vec_map (by omega)
  have b0 : Pn (fun r => (vec du r).2 * (vec (rs.map fun r => vec r.1.l j) r).2) c = Dd du c * Cj rs c j := by
    rw [Pn_congr (g := fun r => (vec du r).2 * (vec (rowAt rs r).1.l j).2) fun r hr => by rw [ev r hr]]
    exact Pn_mul
  obtain ⟨d0, d1⟩ := Dd_le d
  have c0 := Cj_pos R j
  have c1 : Cj rs c j ≤ 2 ^ (8 * c + 1 * 266) := by
    refine Int.le_trans ?_ (Cj_all R)
    have q0 : ∀ i, i < n → 0 < Cj rs c i := fun i _ => Cj_pos R i
    have m := Pn_mono (f := fun i => Cj rs c i) (k := j + 1) (n := n) q0 hj
    refine Int.le_trans ?_ m
    have p1 : 0 < Pn (fun i => Cj rs c i) j := Pn_pos fun i _ => Cj_pos R i
    show Cj rs c j ≤ Pn (fun i => Cj rs c i) j * Cj rs c j
    have : 1 * Cj rs c j ≤ Pn (fun i => Cj rs c i) j * Cj rs c j := Int.mul_le_mul_of_nonneg_right (by omega) (Int.le_of_lt c0)
    omega
  have dc0 : 0 < Dd du c * Cj rs c j := Int.mul_pos d0 c0
  have dc : Dd du c * Cj rs c j ≤ 2 ^ ((2 * c + 1 * 266) + (8 * c + 1 * 266)) := by
    rw [Int.pow_add]
    exact Int.mul_le_mul d1 c1 (Int.le_of_lt c0) (Int.le_of_lt (Int.pow_pos (by decide)))
  have n1 : ∀ r, r < c → Nm 134 (vec du r) := d.nm
  have n2 : ∀ r, r < c → Nm 134 (vec (rs.map fun r => vec r.1.l j) r) := fun r hr => by rw [ev r hr]; exact (R.g r hr).v.nm j
  have dn : Nm 22000 (fdot (vec du) (vec (rs.map fun r => vec r.1.l j)) c) := (fdot_Nm n1 n2).mono (by
    have : c * (134 + 134 + 1) ≤ 81 * 269 := Nat.mul_le_mul hc (by decide)
    omega)
  have db : (fdot (vec du) (vec (rs.map fun r => vec r.1.l j)) c).2 ≤ Dd du c * Cj rs c j := by
    rw [← b0]
    exact (fdot_b (fun r hr => (n1 r hr).pos) fun r hr => (n2 r hr).pos).2
  have gp := (G.nm j).pos
  have gb : (vec goal j).2 * (fdot (vec du) (vec (rs.map fun r => vec r.1.l j)) c).2 ≤ 4 * (Dd du c * Cj rs c j) := Int.mul_le_mul (G.b j) db (Int.le_of_lt dn.pos) (by decide)
  have small : ∀ k : Int, 0 ≤ k → k ≤ 16 → ∀ x : Int, x ≤ k * (Dd du c * Cj rs c j) → x < 2 ^ 9000 := fun k k0 k1 x hx => by
    have h1 : k * (Dd du c * Cj rs c j) ≤ 2 ^ 4 * 2 ^ ((2 * c + 1 * 266) + (8 * c + 1 * 266)) := Int.mul_le_mul k1 dc (Int.le_of_lt dc0) (by decide)
    rw [← Int.pow_add] at h1
    exact lt9000 (Int.le_trans hx h1) (by omega)
  have rn : Nm 22200 (restF goal rs du j) := by
    unfold restF
    rw [dl]
    exact ((G.nm j).sub dn).mono (by decide)
  have rb : (restF goal rs du j).2 ≤ 4 * (Dd du c * Cj rs c j) := by
    unfold restF
    rw [dl]
    exact Int.le_trans (fsub_b gp dn.pos).2 gb
  refine ⟨⟨by omega, ⟨134, by decide, n1, n2⟩, by rw [b0]; exact small 1 (by decide) (by decide) _ (by omega)⟩, ⟨⟨22000, by decide, (G.nm j).mono (by decide), dn⟩, small 4 (by decide) (by decide) _ gb⟩, fun s sn sb => ?_⟩
  have mb : (restF goal rs du j).2 * s.2 ≤ 4 * (Dd du c * Cj rs c j) * 3 := Int.mul_le_mul rb sb (Int.le_of_lt sn.pos) (by omega)
  refine ⟨⟨⟨22200, by decide, rn, sn.mono (by decide)⟩, small 12 (by decide) (by decide) _ (by omega)⟩, (rn.mul sn).mono (by decide), ?_⟩
  refine Int.le_trans (fmul_b rn.pos sn.pos).2 (Int.le_trans mb ?_)
  show _ ≤ 2 ^ 4 * Dd du c * Cj rs c j
  rw [Int.mul_assoc (2 ^ 4)]
  omega
theorem worth_b (z : SZ n c) (R : Rs n c rs) (S : StsOk n st) (G : GoalOk n goal) (d : DuOk c du) : ∀ j, j ≤ n → Nm (260000 + j * 22301) (fworth goal rs st du j) ∧ (fworth goal rs st du j).2 ≤ W0 rs du c * Pn (TT rs du c) j
  | 0, _ => by
    obtain ⟨hn, hc, hnc⟩ := z.le
    have dl := d.l
    have rl := R.l
    have ev : ∀ r, r < c → vec (rs.map fun r => r.2) r = (rowAt rs r).2 := fun r hr => vec_map (by omega)
    have n2 : ∀ r, r < c → Nm 3000 (vec (rs.map fun r => r.2) r) := fun r hr => by rw [ev r hr]; exact (R.g r hr).nm
    have e : fworth goal rs st du 0 = fdot (vec du) (vec (rs.map fun r => r.2)) c := by show fdot _ _ du.length = _; rw [dl]
    rw [e]
    refine ⟨(fdot_Nm d.nm n2).mono ?_, ?_⟩
    · have : c * (134 + 3000 + 1) ≤ 81 * 3135 := Nat.mul_le_mul hc (by decide)
      omega
    · show _ ≤ W0 rs du c * 1
      rw [Int.mul_one]
      unfold W0
      rw [← Pn_congr (f := fun r => (vec du r).2 * (vec (rs.map fun r => r.2) r).2) fun r hr => by rw [ev r hr]]
      exact (fdot_b (fun r hr => (d.nm r hr).pos) fun r hr => (n2 r hr).pos).2
  | j + 1, hj => by
    obtain ⟨a, b⟩ := worth_b z R S G d j (by omega)
    obtain ⟨_, _, p⟩ := parts_j z R S G d (j := j) (by omega)
    have so := S.s j (by omega)
    obtain ⟨t1, t2⟩ := least_b (p _ so.a so.a4).2 (p _ so.b so.b4).2
    show Nm _ (fadd _ (termF goal rs st du j)) ∧ (fadd _ (termF goal rs st du j)).2 ≤ _
    have t1 : Nm 22300 (termF goal rs st du j) := t1
    have t2 : (termF goal rs st du j).2 ≤ TT rs du c j := t2
    refine ⟨(a.add t1).mono (by rw [Nat.succ_mul]; omega), Int.le_trans (fadd_b a.pos t1.pos).2 ?_⟩
    show _ ≤ W0 rs du c * (Pn (TT rs du c) j * TT rs du c j)
    rw [← Int.mul_assoc]
    exact Int.mul_le_mul b t2 (Int.le_of_lt t1.pos) (Int.le_of_lt (Int.mul_pos (W0_le R d).1 (Pn_pos fun i _ => Int.mul_pos (Int.mul_pos (by decide) (Dd_le d).1) (Cj_pos R i))))
theorem worth_lt (z : SZ n c) (R : Rs n c rs) (d : DuOk c du) {j : Nat} (hj : j ≤ n) : W0 rs du c * Pn (TT rs du c) j < 2 ^ 9000 := by
  have tp : ∀ i, i < n → 0 < TT rs du c i := fun i _ => Int.mul_pos (Int.mul_pos (by decide) (Dd_le d).1) (Cj_pos R i)
  exact Int.lt_of_le_of_lt (Int.mul_le_mul_of_nonneg_left (Pn_mono tp hj) (Int.le_of_lt (W0_le R d).1)) (total_lt z R d)
theorem worth_ok (z : SZ n c) (R : Rs n c rs) (S : StsOk n st) (G : GoalOk n goal) (d : DuOk c du) : WorthOk goal rs st du := by
  obtain ⟨hn, hc, hnc⟩ := z.le
  have dl := d.l
  have rl := R.l
  have sl' := S.l
  have P := fun j (hj : j < st.length) => parts_j z R S G d (j := j) (by omega)
  have so := fun j (hj : j < st.length) => S.s j (by omega)
  have T := fun j (hj : j < st.length) => least_b ((P j hj).2.2 _ (so j hj).a (so j hj).a4).2 ((P j hj).2.2 _ (so j hj).b (so j hj).b4).2
  have ev : ∀ r, r < c → vec (rs.map fun r => r.2) r = (rowAt rs r).2 := fun r hr => vec_map (by omega)
  refine ⟨by omega, by omega, by rw [G.l, sl'], by omega, fun k hk => by rw [(R.g k (by omega)).v.l, sl'], ?_, fun j hj => by rw [dl]; exact (P j hj).1, fun j hj => by rw [dl]; exact (P j hj).2.1, fun j hj => ((P j hj).2.2 _ (so j hj).a (so j hj).a4).1, fun j hj => ((P j hj).2.2 _ (so j hj).b (so j hj).b4).1,
    fun j hj => ⟨22300, by decide, ((P j hj).2.2 _ (so j hj).a (so j hj).a4).2.1, ((P j hj).2.2 _ (so j hj).b (so j hj).b4).2.1⟩, fun j hj => ?_⟩
  · rw [dl]
    refine ⟨by omega, ⟨3000, by decide, fun r hr => (d.nm r hr).mono (by decide), fun r hr => by rw [ev r hr]; exact (R.g r hr).nm⟩, ?_⟩
    rw [Pn_congr (g := fun r => (vec du r).2 * (rowAt rs r).2.2) fun r hr => by rw [ev r hr]]
    have := worth_lt z R d (Nat.zero_le n)
    show W0 rs du c < _
    have e : W0 rs du c * Pn (TT rs du c) 0 = W0 rs du c := Int.mul_one _
    omega
  · obtain ⟨a, b⟩ := worth_b z R S G d j (by omega)
    obtain ⟨t1, t2⟩ := T j hj
    refine ⟨⟨600000, by decide, a.mono ?_, t1.mono (by decide)⟩, Int.lt_of_le_of_lt ?_ (worth_lt z R d (j := j + 1) (by omega))⟩
    · have : j * 22301 ≤ 13 * 22301 := Nat.mul_le_mul (by omega) (Nat.le_refl _)
      omega
    · show _ ≤ W0 rs du c * (Pn (TT rs du c) j * TT rs du c j)
      rw [← Int.mul_assoc]
      exact Int.mul_le_mul b t2 (Int.le_of_lt t1.pos) (Int.le_of_lt (Int.mul_pos (W0_le R d).1 (Pn_pos fun i _ => Int.mul_pos (Int.mul_pos (by decide) (Dd_le d).1) (Cj_pos R i))))
theorem worth_lo (z : SZ n c) (R : Rs n c rs) (S : StsOk n st) (G : GoalOk n goal) (d : DuOk c du) : lo (fworth goal rs st du n).1 (fworth goal rs st du n).2 = fworth goal rs st du n := by
  cases n with
  | zero =>
    obtain ⟨hn, hc, hnc⟩ := z.le
    have dl := d.l
    have rl := R.l
    show lo (fdot _ _ du.length).1 (fdot _ _ du.length).2 = fdot _ _ du.length
    rw [dl]
    exact lo_lo (dtb_pos (fun r hr => (d.nm r hr).pos) fun r hr => by rw [vec_map (by omega)]; exact (R.g r hr).nm.pos).1
  | succ n =>
    obtain ⟨a, _⟩ := worth_b z R S G d n (by omega)
    obtain ⟨_, _, p⟩ := parts_j z R S G d (j := n) (by omega)
    have so := S.s n (by omega)
    obtain ⟨t1, _⟩ := least_b (p _ so.a so.a4).2 (p _ so.b so.b4).2
    exact lo_lo (Int.mul_pos a.pos t1.pos)
/-! ### what is kept -/
theorem brL_nil {pt : List Q2} : ∀ {k : Nat}, (brL rs pt k).length = 0 → ∀ r, r < k → isBr rs pt r = false
  | 0, _, r, hr => absurd hr (Nat.not_lt_zero _)
  | k + 1, h, r, hr => by
    cases e : isBr rs pt k with
    | true =>
      have e1 : brL rs pt (k + 1) = brL rs pt k ++ [(k : Int)] := if_pos e
      rw [e1, List.length_append] at h
      exact absurd h (by simp)
    | false =>
      have e1 : brL rs pt (k + 1) = brL rs pt k := if_neg (by rw [e]; decide)
      rw [e1] at h
      by_cases hk : r = k
      · rw [hk]; exact e
      · exact brL_nil h r (by omega)
theorem brL_none {pt : List Q2} : ∀ {k : Nat}, (∀ r, r < k → isBr rs pt r = false) → (brL rs pt k).length = 0
  | 0, _ => rfl
  | k + 1, h => by
    have e1 : brL rs pt (k + 1) = brL rs pt k := if_neg (by rw [h k (by omega)]; decide)
    rw [e1]
    exact brL_none fun r hr => h r (by omega)
theorem inB_all {pt : List Q2} : ∀ {k : Nat}, inB st pt k = true → ∀ j, j < k → uptoB (stAt st j).1 (vec pt j) = true ∧ uptoB (vec pt j) (stAt st j).2 = true
  | 0, _, j, hj => absurd hj (Nat.not_lt_zero _)
  | k + 1, h, j, hj => by
    have h : (inB st pt k && (uptoB (stAt st k).1 (vec pt k) && uptoB (vec pt k) (stAt st k).2)) = true := h
    rw [Bool.and_eq_true, Bool.and_eq_true] at h
    by_cases e : j = k
    · rw [e]; exact h.2
    · exact inB_all h.1 j (by omega)
theorem inB_of {pt : List Q2} : ∀ {k : Nat}, (∀ j, j < k → uptoB (stAt st j).1 (vec pt j) = true ∧ uptoB (vec pt j) (stAt st j).2 = true) → inB st pt k = true
  | 0, _ => rfl
  | k + 1, h => by
    show (inB st pt k && (uptoB (stAt st k).1 (vec pt k) && uptoB (vec pt k) (stAt st k).2)) = true
    rw [inB_of fun j hj => h j (by omega), (h k (by omega)).1, (h k (by omega)).2]
    rfl
theorem least_le {x y : Q2} (hx : 0 < x.2) (hy : 0 < y.2) : qv (leastF x y) ≤ qv x ∧ qv (leastF x y) ≤ qv y := by
  unfold leastF uptoB
  by_cases h : x.1 * y.2 ≤ y.1 * x.2
  · rw [if_pos (decide_eq_true h)]
    exact ⟨Rat.le_refl, (qv_le hx hy).mp h⟩
  · rw [if_neg (fun z => h (of_decide_eq_true z))]
    refine ⟨(qv_le hy hx).mp (by omega), Rat.le_refl⟩
/-- the worth of duals is no more than the goal at a point that is kept -/
theorem kept_le (z : SZ n c) (R : Rs n c rs) (S : StsOk n st) (G : GoalOk n goal) (d : DuOk c du) {pt : Tup Q2} (p : PtOk n pt) (hk : keepB rs st pt.l = true) : lessB (fdot (vec goal) (vec pt.l) n) (fworth goal rs st du n) = false := by
  obtain ⟨hn, hc, hnc⟩ := z.le
  have rl := R.l
  have dl := d.l
  unfold keepB at hk
  rw [Bool.and_eq_true] at hk
  obtain ⟨k1, k2⟩ := hk
  have k2 := brL_nil (rs := rs) (pt := pt.l) (k := rs.length) (by have := of_decide_eq_true k2; omega)
  have k1 := inB_all k1
  rw [S.l] at k1
  have fdp : 0 < (fdot (vec goal) (vec pt.l) n).2 := (fdot_b (fun k _ => (G.nm k).pos) fun k _ => (p.nm k).pos).1
  have fwp := (worth_b z R S G d n (Nat.le_refl _)).1.pos
  refine decide_eq_false fun h => ?_
  have h := (qv_lt fdp fwp).mp h
  rw [qv_dot (fun k _ => (G.nm k).pos) fun k _ => (p.nm k).pos] at h
  have ev : ∀ r, r < c → vec (rs.map fun r => r.2) r = (rowAt rs r).2 := fun r hr => vec_map (by omega)
  have w : ∀ j, j ≤ n → qv (fworth goal rs st du j) = Sm c (fun r => qv (vec du r) * qv (rowAt rs r).2) + Sm j (fun i => qv (termF goal rs st du i)) := by
    intro j
    induction j with
    | zero =>
      intro _
      show qv (fdot (vec du) _ du.length) = _ + 0
      rw [dl, qv_dot (fun r hr => (d.nm r hr).pos) fun r hr => by rw [ev r hr]; exact (R.g r hr).nm.pos]
      rw [Sm_eq (g := fun r => qv (vec du r) * qv (rowAt rs r).2) fun r hr => by rw [ev r hr]]
      grind
    | succ j ih =>
      intro hj
      have a := (worth_b z R S G d j (by omega)).1
      obtain ⟨_, _, q⟩ := parts_j z R S G d (j := j) (by omega)
      have so := S.s j (by omega)
      have t : Nm 22300 (termF goal rs st du j) := (least_b (q _ so.a so.a4).2 (q _ so.b so.b4).2).1
      show qv (fadd _ _) = _ + (_ + _)
      rw [qv_add a.pos t.pos, ih (by omega)]
      grind
  rw [w n (Nat.le_refl _)] at h
  refine absurd (weak_dual (n := n) (m := c) (A := fun r j => qv (vec (rowAt rs r).1.l j)) (b := fun r => qv (rowAt rs r).2) (y := fun r => qv (vec du r)) (g := fun j => qv (vec goal j)) (p := fun j => qv (vec pt.l j)) (mn := fun j => qv (termF goal rs st du j)) (fun r hr => ?_) (fun r hr => qv_nonneg (d.nm r hr).pos (d.ge r hr)) fun j hj => ?_) (by grind)
  · have v := (R.g r hr).v
    have b := k2 r (by omega)
    unfold isBr lessB at b
    rw [v.l] at b
    have dp := (fdot_b (X := vec (rowAt rs r).1.l) (Y := vec pt.l) (n := n) (fun k _ => (v.nm k).pos) fun k _ => (p.nm k).pos).1
    have b := of_decide_eq_false b
    have b := fun z => b ((qv_lt dp (R.g r hr).nm.pos).mpr z)
    rw [qv_dot (fun k _ => (v.nm k).pos) fun k _ => (p.nm k).pos] at b
    exact Rat.not_lt.mp b
  · obtain ⟨d1, _, q⟩ := parts_j z R S G d (j := j) hj
    have so := S.s j hj
    obtain ⟨u1, u2⟩ := k1 j hj
    have l1 := (qv_le so.a.pos (p.nm j).pos).mp (of_decide_eq_true u1)
    have l2 := (qv_le (p.nm j).pos so.b.pos).mp (of_decide_eq_true u2)
    have q1 := (q _ so.a so.a4).2.1.pos
    have q2 := (q _ so.b so.b4).2.1.pos
    obtain ⟨A, _, a1, a2⟩ := d1.A
    have dp := (fdot_b (fun r hr => (a1 r hr).pos) fun r hr => (a2 r hr).pos).1
    have rv : qv (restF goal rs du j) = qv (vec goal j) - Sm c (fun r => qv (vec du r) * qv (vec (rowAt rs r).1.l j)) := by
      unfold restF
      rw [dl, qv_sub (G.nm j).pos dp, qv_dot (fun r hr => (a1 r hr).pos) fun r hr => (a2 r hr).pos]
      rw [Sm_eq (g := fun r => qv (vec du r) * qv (vec (rowAt rs r).1.l j)) fun r hr => by rw [vec_map (by omega)]]
    have rp : 0 < (restF goal rs du j).2 := by
      unfold restF
      rw [dl]
      exact (fsub_b (G.nm j).pos dp).1
    rw [← rv]
    obtain ⟨m1, m2⟩ := least_le q1 q2
    have e1 : qv (fmul (restF goal rs du j) (stAt st j).1) = qv (restF goal rs du j) * qv (stAt st j).1 := qv_mul rp so.a.pos
    have e2 : qv (fmul (restF goal rs du j) (stAt st j).2) = qv (restF goal rs du j) * qv (stAt st j).2 := qv_mul rp so.b.pos
    rw [e1] at m1
    rw [e2] at m2
    show qv (leastF _ _) ≤ _
    rcases Rat.le_total (a := 0) (b := qv (restF goal rs du j)) with r0 | r0
    · exact Rat.le_trans m1 (Rat.mul_le_mul_of_nonneg_left l1 r0)
    · refine Rat.le_trans m2 ?_
      have := Rat.mul_le_mul_of_nonneg_left (c := -qv (restF goal rs du j)) l2 (by grind)
      grind
theorem inner_kept (R : Rs n c rs) (S : StsOk n st) {inner : List Q2} (hi : InnerOk n inner) (hin : ∀ j, j < n → qv (stAt st j).1 ≤ qv (vec inner j) ∧ qv (vec inner j) ≤ qv (stAt st j).2) (hb : ∀ r, r < c → brRow (rowAt rs r) inner = false) : keepB rs st inner = true := by
  unfold keepB
  rw [inB_of (st := st) (pt := inner) (k := st.length), Bool.true_and]
  · exact decide_eq_true (by rw [brL_none fun r hr => hb r (by rw [← R.l]; exact hr)]; rfl)
  · intro j hj
    rw [S.l] at hj
    have so := S.s j hj
    exact ⟨decide_eq_true ((qv_le so.a.pos (hi.nm j).pos).mpr (hin j hj).1), decide_eq_true ((qv_le (hi.nm j).pos so.b.pos).mpr (hin j hj).2)⟩
end
end K35
namespace K35
open PySem PySem.Spec PyProof.Rows L2 Dl
/-! ### the law -/
section
variable {P : Program} {w : World} {K : PySem.W.Frag} {mg : Str → Option Value} {base : Heap}
theorem goal_of {ys : List Q2} (h : ∀ y, y ∈ ys → NumOk false y) : GoalOk ys.length ys := by
  have z : ∀ k, vec ys k = (0, 1) ∨ vec ys k ∈ ys := fun k => by
    unfold vec
    rw [List.getD_eq_getElem?_getD]
    cases e : ys[k]? with
    | none => exact .inl rfl
    | some x => exact .inr (List.mem_of_getElem? e)
  refine ⟨rfl, fun k => ?_, fun k => ?_⟩
  · rcases z k with e | e
    · rw [e]; exact Nm.zero (by decide)
    · exact (h _ e).n
  · rcases z k with e | e
    · rw [e]; decide
    · exact (h _ e).b
theorem f_law {f : Addr} {fd : FuncData} {dvs : List V} (F : FunD K "law" "law" (defArgs s_law) (defBody s_law) (defScope s_law) dvs [] f fd) (T : Txt mg) (cj : Cal P w K mg base "_law_jar" 1 ["script"] phJar) (cd : cDraw P w K mg base) (cst : Cal P w K mg base "_law_stretch" 2 ["jar"] phStretch)
    (ca : Cal P w K mg base "_law_plus" 2 ["one", "two"] (ph2 fadd)) (cs : Cal P w K mg base "_law_minus" 2 ["one", "two"] (ph2 fsub)) (cm : Cal P w K mg base "_law_times" 2 ["one", "two"] (ph2 fmul)) (cl : Cal P w K mg base "_law_less" 1 ["one", "two"] (phC lessB)) (cdt : cLDot P w K mg base)
    (crw : Cal P w K mg base "_law_rows" 4 ["jar", "many", "count", "inner", "kept", "large"] phRows) (cpt : Cal P w K mg base "_law_points" 3 ["jar", "stretches", "inner"] phPoints) (cpr : Cal P w K mg base "_law_point_right" 8 ["rows", "stretches", "point"] phPR)
    (cn : Cal P w K mg base "_law_number" 2 ["jar", "large"] phNumber) (cdu : Cal P w K mg base "_law_duals" 3 ["jar", "count", "large"] phDuals) (cw : Cal P w K mg base "dual_worth" 3 ["goal", "rows", "stretches", "duals"] phWorth) (csh : Cal P w K mg base "_law_shown" 3 ["goal", "rows", "stretches", "duals"] phWorth)
    (cis : Cal P w K mg base "_law_is_number" 2 ["x"] phIsNum) : FnOk P w K mg base CX0 9 f fd ["script"] (spO K phLaw) := by
  refine fnD_ok F sc_law (fun as μ P h => ?_) fun f cdv A outer s H E hr as μ Pd h => ?_
  · obtain ⟨sc, rfl, _⟩ := h; rfl
  obtain ⟨sc, rfl, rfl, q⟩ := h
  refine db_cons (ds_set (i := 1) sc_law.nd (de_c1 cj hr (by decide) (da_cons (de_var (i := 0) rfl (da_nil ⟨[], _, parts_none, _, rfl, rfl, fun j g => ?_⟩)))))
  refine db_cons (ds_set (i := 2) sc_law.nd (de_ixL (α := Int) (de_lstF (α := Int) ?_)))
  iterate 10 refine da_cons (de_int ?_)
  refine da_nil ⟨[(2 : Int), 1, 3, 0, 5, 2, 4, 13, 3, 8], rfl, by decide, (de_c1 cd hr (by decide) (da_cons (de_var (i := 1) rfl (da_cons (de_int (da_nil ⟨_, _, parts_hd, _, _, _, rfl, rfl, ⟨by decide, by decide⟩, fun d h0 h1 => ?_⟩))))))⟩
  obtain ⟨m, em, hm⟩ := atI_mem (xs := [(2 : Int), 1, 3, 0, 5, 2, 4, 13, 3, 8]) h0 (by exact h1)
  have m0 : 0 ≤ m ∧ m ≤ 13 := by
    simp only [List.mem_cons, List.mem_nil_iff, or_false] at hm
    rcases hm with rfl | rfl | rfl | rfl | rfl | rfl | rfl | rfl | rfl | rfl <;> decide
  refine ⟨m, em, ?_⟩
  refine db_cons (ds_set (i := 3) sc_law.nd (de_ixL (α := Int) (de_lstF (α := Int) ?_)))
  iterate 8 refine da_cons (de_int ?_)
  refine da_nil ⟨[(3 : Int), 1, 0, 5, 2, 8, 4, 12], rfl, by decide, (de_c1 cd hr (by decide) (da_cons (de_var (i := 1) rfl (da_cons (de_int (da_nil ⟨_, _, parts_hd, _, _, _, rfl, rfl, ⟨by decide, by decide⟩, fun d h2 h3 => ?_⟩))))))⟩
  obtain ⟨c, ec, hc⟩ := atI_mem (xs := [(3 : Int), 1, 0, 5, 2, 8, 4, 12]) h2 (by exact h3)
  have c0 : 0 ≤ c ∧ c ≤ 12 := by
    simp only [List.mem_cons, List.mem_nil_iff, or_false] at hc
    rcases hc with rfl | rfl | rfl | rfl | rfl | rfl | rfl | rfl <;> decide
  refine ⟨c, ec, ?_⟩
  refine db_cons (DS.mid (fun δ' μ' => ∃ n c : Nat, SZ n c ∧ δ' = [sl sc, sl (Ref.mk j), sl (n : Int), sl (c : Int), .any, .any, .any, .any, .any, .any, .any, .any, .any, .any, .any, .any, .any, .any] ∧ μ' = [JarC j g]) ?_ ?_)
  · obtain ⟨n, rfl⟩ := Int.eq_ofNat_of_zero_le m0.1
    obtain ⟨c', rfl⟩ := Int.eq_ofNat_of_zero_le c0.1
    refine ds_if (dt_eqI (de_c1 cd hr (by decide) (da_cons (de_var (i := 1) rfl (da_cons (de_int (da_nil ⟨_, _, parts_hd, _, _, _, rfl, rfl, ⟨by decide, by decide⟩, fun d a0 a1 => (de_int ⟨fun h => ?_, fun h => ?_⟩)⟩)))))))
    · refine db_cons (ds_set (i := 2) sc_law.nd (de_min rfl T.min (de_var (i := 2) rfl (de_int ?_))))
      refine db_one (ds_set (i := 3) sc_law.nd (de_int ⟨min n 3, 81, .inr ⟨by omega, by decide⟩, ?_, rfl⟩))
      have e : (min (n : Int) 3) = ((min n 3 : Nat) : Int) := by omega
      rw [e]; rfl
    · exact db_nil ⟨n, c', .inl ⟨by omega, by omega⟩, rfl, rfl⟩
  rintro δ' μ' ⟨n, c, z, rfl, rfl⟩
  obtain ⟨hn, hc, hnc⟩ := z.le
  refine db_cons (ds_set (i := 4) sc_law.nd (de_eqI (de_c1 cd hr (by decide) (da_cons (de_var (i := 1) rfl (da_cons (de_int (da_nil ⟨_, _, parts_hd, _, _, _, rfl, rfl, ⟨by decide, by decide⟩, fun d a0 a1 => (de_int ?_)⟩))))))))
  refine db_cons (ds_set (i := 5) sc_law.nd (de_eqI (de_c1 cd hr (by decide) (da_cons (de_var (i := 1) rfl (da_cons (de_int (da_nil ⟨_, _, parts_hd, _, _, _, rfl, rfl, ⟨by decide, by decide⟩, fun d2 a2 a3 => (de_int ?_)⟩))))))))
  generalize decide (d = 0) = large
  generalize decide (d2 = 0) = kept
  refine db_cons (ds_set (i := 7) sc_law.nd (de_tuple T.tuple (de_lcR (i0 := 6) (own := [("j", 6)]) (β := St2) rfl sc_law.nd (blkOk_by (N := ["script", "jar", "many", "count", "large", "kept", "j", "stretches", "row", "inner", "rows", "feasible", "point", "answer", "goal", "step", "duals", "told"]) (sc := defScope s_law) (by decide +kernel)) (by decide) (fun _ _ _ _ _ => pg_name (i := 6) sc_law.nd rfl (Or.inl rfl)) (by decide) T.range
    (de_var (i := 2) rfl ⟨⟨by omega, by omega⟩, fun k ys μ' => ys.length = k ∧ (∀ y, y ∈ ys → StOk y) ∧ μ' = [JarC j g], ⟨rfl, fun y hy => absurd hy List.not_mem_nil, rfl⟩, fun k ys μ' hk hJ => ?_, fun st μ' hJ => ?_⟩))))
  · obtain ⟨hy, hall, rfl⟩ := hJ
    intro s H C cl fp
    refine de_c1 cst hr (by decide) (da_cons (de_var (i := 1) rfl (da_nil ⟨_, _, parts_hd, _, _, rfl, rfl, fun s so => ⟨by omega, by rw [List.length_append, hy]; rfl, fun y hm => ?_, rfl⟩⟩)))
    rcases List.mem_append.mp hm with hm | hm
    · exact hall y hm
    · rw [List.mem_singleton.mp hm]; exact so
  obtain ⟨hst, hall, rfl⟩ := hJ
  have S : StsOk n st := ⟨by omega, fun k hk => by
    have hk' : k < st.length := by omega
    unfold stAt
    rw [List.getD_eq_getElem?_getD, List.getElem?_eq_getElem hk']
    exact hall _ (List.getElem_mem hk')⟩
  have hsl := S.l
  refine db_cons (ds_set (i := 9) sc_law.nd (de_tuple T.tuple (de_lcT (own := [("row", 8)]) (β := Q2) rfl sc_law.nd (blkOk_by (N := ["script", "jar", "many", "count", "large", "kept", "j", "stretches", "row", "inner", "rows", "feasible", "point", "answer", "goal", "step", "duals", "told"]) (sc := defScope s_law) (by decide +kernel)) (fun (x : St2) δ => δ.set 8 (sl x)) (fun _ _ _ _ _ => pg_name (i := 8) sc_law.nd rfl (Or.inl rfl)) (fun x => wb_name) (by decide)
    (de_var (i := 7) rfl ⟨fun i ys μ' => ys.length = i ∧ (∀ k, k < i → Nm 20 (vec ys k) ∧ (vec ys k).2 ≤ 2 ^ 7 ∧ qv (stAt st k).1 ≤ qv (vec ys k) ∧ qv (vec ys k) ≤ qv (stAt st k).2) ∧ μ' = [JarC j g], ⟨rfl, fun k hk => absurd hk (Nat.not_lt_zero _), rfl⟩, fun i x ys μ' hx hJ => ?_, fun inner μ' hJ => ?_⟩))))
  · obtain ⟨hy, hall, rfl⟩ := hJ
    have hi' : i < st.length := (List.getElem?_eq_some_iff.mp hx).1
    have ex : stAt st i = x := by unfold stAt; rw [List.getD_eq_getElem?_getD, hx]; rfl
    have so : StOk x := by rw [← ex]; exact S.s i (by omega)
    intro s H C cl fp
    refine (de_c1 ca hr (by decide) (da_cons (de_ix0 (de_var (i := 8) rfl (da_cons (de_c1 cm hr (by decide) (da_cons (de_c1 cs hr (by decide) (da_cons (de_ix1 (de_var (i := 8) rfl (da_cons (de_ix0 (de_var (i := 8) rfl (da_nil ⟨[], _, parts_none, _, _, rfl, ?_, (da_cons (de_tup2 (de_c1 cd hr (by decide) (da_cons (de_var (i := 1) rfl (da_cons (de_int (da_nil ⟨_, _, parts_hd, _, _, _, rfl, rfl, ⟨by decide, by decide⟩, fun d d0 d1 => (de_int (da_nil ⟨[], _, parts_none, _, _, rfl, ?_, (da_nil ⟨[], _, parts_none, _, _, rfl, ?_, ?_⟩)⟩))⟩))))))))⟩)))))))))))))))
    · exact (mid_ok so (Int.le_refl 0) (by decide)).1
    · exact (mid_ok so d0 d1).2.1
    · exact (mid_ok so d0 d1).2.2.1
    · refine ⟨by omega, by rw [List.length_append, hy]; rfl, fun k hk => ?_, rfl⟩
      rw [vec_snoc]
      by_cases e : k < ys.length
      · rw [if_pos e]; exact hall k (by omega)
      · rw [if_neg e, if_pos (by omega)]
        have : k = i := by omega
        subst this
        rw [ex]
        exact ⟨(mid_ok so d0 d1).2.2.2.1, (mid_ok so d0 d1).2.2.2.2⟩
  obtain ⟨hil, hin, rfl⟩ := hJ
  have hil : inner.length = n := hil.trans hsl
  have hin : ∀ k, k < n → Nm 20 (vec inner k) ∧ (vec inner k).2 ≤ 2 ^ 7 ∧ qv (stAt st k).1 ≤ qv (vec inner k) ∧ qv (vec inner k) ≤ qv (stAt st k).2 := fun k hk => hin k (by show k < st.length; omega)
  have out : ∀ k, ¬ k < n → vec inner k = (0, 1) := fun k hk => by
    unfold vec
    rw [List.getD_eq_getElem?_getD, List.getElem?_eq_none (by omega)]
    rfl
  have hi : InnerOk n inner := ⟨hil, fun k => by
    by_cases hk : k < n
    · exact (hin k hk).1
    · rw [out k hk]; exact Nm.zero (by decide), fun k => by
    by_cases hk : k < n
    · exact (hin k hk).2.1
    · rw [out k hk]; decide⟩
  refine db_cons (ds_set (i := 10) sc_law.nd (de_c1 crw hr (by decide) (da_cons (de_var (i := 1) rfl (da_cons (de_var (i := 2) rfl (da_cons (de_var (i := 3) rfl (da_cons (de_var (i := 9) rfl (da_cons (de_var (i := 5) rfl (da_cons (de_var (i := 4) rfl (da_nil ⟨_, _, parts_hd, _, _, _, _, _, _, _, rfl, rfl, ⟨hn, by omega, hi⟩, fun rs rl rg rk => ?_⟩)))))))))))))))
  have R : Rs n c rs := ⟨rl, rg⟩
  refine db_cons (ds_set (i := 11) sc_law.nd (de_lstN (α := Tup Q2) (da_nil ⟨[], rfl, by decide, fun lf => ?_⟩)))
  refine db_cons (ds_forL PassesOwn.never rfl (pg_name (i := 12) sc_law.nd rfl (Or.inl rfl)) (fun (x : Tup Q2) δ => δ.set 12 (sl x)) (fun x δ => wg_name) (de_frz 1 (de_c1 cpt hr (by decide) (da_cons (de_var (i := 1) rfl (da_cons (de_var (i := 7) rfl (da_cons (de_var (i := 9) rfl (da_nil ⟨_, _, parts_hd, _, _, _, _, _, rfl, rfl, ⟨hn, hsl, S.s, hi⟩, fun l pts pl pok pin => ⟨pts, rfl,
    ⟨fun i δ1 μ1 => ∃ (s12 s13 : Slot) (fs : List (Tup Q2)), δ1 = [sl sc, sl (Ref.mk j), sl (n : Int), sl (c : Int), sl large, sl kept, .any, sl (Tup.mk st), .any, sl (Tup.mk inner), sl (Tup.mk rs), sl (Ref.mk lf), s12, s13, .any, .any, .any, .any] ∧ μ1 = [JarC j g, lst lf fs] ∧ fs.length ≤ i ∧ (∀ pt, pt ∈ fs → PtOk n pt ∧ keepB rs st pt.l = true) ∧ (∀ pt, pt ∈ pts.take i → keepB rs st pt.l = true → pt ∈ fs),
      ⟨_, _, _, rfl, rfl, Nat.le_refl _, fun pt hp => absurd hp List.not_mem_nil, fun pt hp => absurd hp (by simp)⟩, fun i pt δ1 μ1 hx hI => ?_, fun δ1 μ1 hI => ?_⟩⟩⟩))))))))))
  · obtain ⟨s12, s13, fs, rfl, rfl, hfl, f1, f2⟩ := hI
    have hi20 : i < pts.length := (List.getElem?_eq_some_iff.mp hx).1
    have po := pok pt (List.mem_of_getElem? hx)
    have tk : pts.take (i + 1) = pts.take i ++ [pt] := by rw [List.take_add_one, hx]; rfl
    refine db_cons (ds_set (i := 13) sc_law.nd (de_unsome (de_c1 cpr hr (by decide) (da_cons (de_var (i := 10) rfl (da_cons (de_var (i := 7) rfl (da_cons (de_var (i := 12) rfl (da_nil ⟨[], _, parts_none, _, _, _, rfl, rfl, ⟨rows_ok hn (by omega) R po, in_ok hn S po⟩, ⟨_, rfl, ?_⟩⟩))))))))))
    refine db_cons (ds_if (dt_isN (de_some (de_var (i := 13) rfl ⟨fun h => (nomatch h), fun _ => ?_⟩))))
    refine db_nil ?_
    refine db_one (ds_if (dt_val (de_var (i := 13) rfl ⟨fun h => ?_, fun h => ?_⟩)))
    · refine db_one (ds_expr (de_append 1 (de_var (i := 11) rfl ⟨⟨_, rfl⟩, (de_var (i := 12) rfl ⟨_, rfl, by omega, ?_⟩)⟩)))
      refine ⟨_, _, fs ++ [pt], rfl, rfl, by rw [List.length_append]; exact Nat.succ_le_succ hfl, fun x hm => ?_, fun x hm hk => ?_⟩
      · rcases List.mem_append.mp hm with hm | hm
        · exact f1 x hm
        · rw [List.mem_singleton.mp hm]; exact ⟨po, h⟩
      · rw [tk] at hm
        rcases List.mem_append.mp hm with hm | hm
        · exact List.mem_append_left _ (f2 x hm hk)
        · exact List.mem_append_right _ hm
    · refine db_nil ⟨_, _, fs, rfl, rfl, by omega, f1, fun x hm hk => ?_⟩
      rw [tk] at hm
      rcases List.mem_append.mp hm with hm | hm
      · exact f2 x hm hk
      · rw [List.mem_singleton.mp hm] at hk
        have h : keepB rs st pt.l = false := h
        rw [h] at hk
        exact nomatch hk
  obtain ⟨s12, s13, fs, rfl, rfl, hfl, f1, f2⟩ := hI
  rw [List.take_length] at f2
  refine db_frz 1 11 (xs := fs) rfl rfl ?_
  have ne : kept = true → fs ≠ [] := fun hk e => by
    have := f2 _ pin (inner_kept R S hi (fun k hk => (hin k hk).2.2) (rk hk))
    rw [e] at this
    exact absurd this List.not_mem_nil
  refine db_cons (DS.mid (fun δ' μ' => δ' = [sl sc, sl (Ref.mk j), sl (n : Int), sl (c : Int), sl large, sl kept, .any, sl (Tup.mk st), .any, sl (Tup.mk inner), sl (Tup.mk rs), sl fs, s12, s13, .any, .any, .any, .any] ∧ μ' = [JarC j g]) ?_ ?_)
  · refine ds_if (dw_and (dt_val (de_var (i := 5) rfl ⟨fun h => (dw_and1 (dt_eqI (de_lenL T.len (de_var (i := 11) rfl (de_int ⟨fun h2 => ?_, fun h2 => db_nil ⟨rfl, rfl⟩⟩))))), fun h => ⟨fun h2 => (nomatch h2), fun h2 => db_nil ⟨rfl, rfl⟩⟩⟩))).dt
    refine absurd ?_ (ne h)
    have := of_decide_eq_true h2
    exact List.eq_nil_of_length_eq_zero (by omega)
  rintro δ' μ' ⟨rfl, rfl⟩
  refine db_cons (ds_set (i := 14) sc_law.nd (de_tuple T.tuple (de_lcR (i0 := 6) (own := [("j", 6)]) (β := Q2) rfl sc_law.nd (blkOk_by (N := ["script", "jar", "many", "count", "large", "kept", "j", "stretches", "row", "inner", "rows", "feasible", "point", "answer", "goal", "step", "duals", "told"]) (sc := defScope s_law) (by decide +kernel)) (by decide) (fun _ _ _ _ _ => pg_name (i := 6) sc_law.nd rfl (Or.inl rfl)) (by decide) T.range
    (de_var (i := 2) rfl ⟨⟨by omega, by omega⟩, fun k ys μ' => ys.length = k ∧ (∀ y, y ∈ ys → NumOk false y) ∧ μ' = [JarC j g], ⟨rfl, fun y hy => absurd hy List.not_mem_nil, rfl⟩, fun k ys μ' hk hJ => ?_, fun goal μ' hJ => ?_⟩))))
  · obtain ⟨hy, hall, rfl⟩ := hJ
    intro s H C cl fp
    refine de_c1 cn hr (by decide) (da_cons (de_var (i := 1) rfl (da_cons (de_bl (da_nil ⟨_, _, parts_hd, _, _, _, rfl, rfl, fun s so => ⟨by omega, by rw [List.length_append, hy]; rfl, fun y hm => ?_, rfl⟩⟩)))))
    rcases List.mem_append.mp hm with hm | hm
    · exact hall y hm
    · rw [List.mem_singleton.mp hm]; exact so
  obtain ⟨hgl, hgall, rfl⟩ := hJ
  have hgl : goal.length = n := hgl
  have G : GoalOk n goal := hgl ▸ goal_of hgall
  refine db_cons (ds_range1 (i := 15) PassesOwn.never rfl sc_law.nd T.range (de_int ⟨by decide, by decide, fun k δ' μ' => ∃ s12 s15 s16 s17 : Slot, δ' = [sl sc, sl (Ref.mk j), sl (n : Int), sl (c : Int), sl large, sl kept, .any, sl (Tup.mk st), .any, sl (Tup.mk inner), sl (Tup.mk rs), sl fs, s12, s13, sl (Tup.mk goal), s15, s16, s17] ∧ μ' = [JarC j g], ⟨_, _, _, _, rfl, rfl⟩, fun k δ' μ' hk hI => ?_, fun δ' μ' hI => ?_⟩))
  · obtain ⟨s12, s15, s16, s17, rfl, rfl⟩ := hI
    refine db_cons (ds_set (i := 16) sc_law.nd (de_c1 cdu hr (by decide) (da_cons (de_var (i := 1) rfl (da_cons (de_var (i := 3) rfl (da_cons (de_var (i := 4) rfl (da_nil ⟨_, _, parts_hd, _, _, _, _, rfl, rfl, by omega, fun du dok => ?_⟩)))))))))
    have wok := worth_ok z R S G dok
    have wlo := worth_lo z R S G dok
    obtain ⟨wn, wb⟩ := worth_b z R S G dok n (Nat.le_refl _)
    have wlt := Int.lt_of_le_of_lt wb (worth_lt z R dok (Nat.le_refl _))
    refine db_cons (ds_set (i := 17) sc_law.nd (de_c1 cw hr (by decide) (da_cons (de_var (i := 14) rfl (da_cons (de_var (i := 10) rfl (da_cons (de_var (i := 7) rfl (da_cons (de_var (i := 16) rfl (da_nil ⟨[], _, parts_none, goal, rs, st, du, rfl, wok, ?_⟩)))))))))))
    rw [hsl]
    refine db_cons (ds_if (dw_or (dt_not (dt_val (de_c1 cis hr (by decide) (da_cons (de_var (i := 17) rfl (da_nil ⟨[], _, parts_none, _, rfl, ⟨wn.pos, wlt, wlo⟩, ⟨fun h => (nomatch h), fun h => (dw_or1 (dt_neD (α := Q2) (un_of hr) (by decide) (de_var (i := 17) rfl (de_c1 csh hr (by decide) (da_cons (de_var (i := 14) rfl (da_cons (de_var (i := 10) rfl (da_cons (de_var (i := 7) rfl (da_cons (de_var (i := 16) rfl (da_nil ⟨[], _, parts_none, goal, rs, st, du, rfl, wok, fun r hr1 => ⟨fun h2 => absurd (by rw [hsl]) (hr1.mp h2), fun h2 => ?_⟩⟩)))))))))))))⟩⟩))))))).dt)
    refine db_nil ?_
    refine db_one (ds_forL PassesOwn.never rfl (pg_name (i := 12) sc_law.nd rfl (Or.inl rfl)) (fun (x : Tup Q2) δ => δ.set 12 (sl x)) (fun x δ => wg_name) (de_var (i := 11) rfl ⟨fun i δ1 μ1 => ∃ (s12 : Slot), δ1 = [sl sc, sl (Ref.mk j), sl (n : Int), sl (c : Int), sl large, sl kept, .any, sl (Tup.mk st), .any, sl (Tup.mk inner), sl (Tup.mk rs), sl fs, s12, s13, sl (Tup.mk goal), sl (k : Int), sl (Tup.mk du), sl (fworth goal rs st du n)] ∧ μ1 = [JarC j g], ⟨_, rfl, rfl⟩, fun i pt δ1 μ1 hx hI => ?_, fun δ1 μ1 hI => ?_⟩))
    · obtain ⟨s12, rfl, rfl⟩ := hI
      obtain ⟨po, kp⟩ := f1 pt (List.mem_of_getElem? hx)
      have no := kept_le z R S G dok po kp
      have pl := po.l
      have dn : Nm 3000 (fdot (vec goal) (vec pt.l) goal.length) := (fdot_Nm (A := 134) (B := 51) (fun k _ => G.nm k) (fun k _ => po.nm k)).mono (by
        have : goal.length * (134 + 51 + 1) ≤ 13 * 186 := Nat.mul_le_mul (by omega) (by decide)
        omega)
      have db : Pn (fun k => (vec goal k).2 * (vec pt.l k).2) goal.length < 2 ^ 9000 := by
        have p := Pn_two (f := fun k => (vec goal k).2 * (vec pt.l k).2) (e := fun _ => 53) (n := goal.length) fun k _ => ⟨Int.mul_pos (G.nm k).pos (po.nm k).pos, by
          rw [show 53 = 2 + 51 from rfl, Int.pow_add]
          exact Int.mul_le_mul (G.b k) (nm_b (po.nm k)) (Int.le_of_lt (po.nm k).pos) (by decide)⟩
        have e2 : ((List.range goal.length).map fun _ => 53).sum = 53 * goal.length := by rw [List.map_const', List.sum_replicate_nat, List.length_range, Nat.mul_comm]
        rw [e2] at p
        exact lt9000 p (by omega)
      refine db_one (ds_if (dt_val (de_c1 cl hr (by decide) (da_cons (de_c1 cdt hr (by decide) (da_cons (de_var (i := 14) rfl (da_cons (de_var (i := 12) rfl (da_nil ⟨[], _, parts_none, ⟨goal⟩, pt.l, .inl rfl, ⟨by show goal.length ≤ _; omega, ⟨by show goal.length ≤ _; omega, ⟨134, by decide, fun k _ => G.nm k, fun k _ => (po.nm k).mono (by decide)⟩, db⟩⟩, (da_cons (de_var (i := 17) rfl (da_nil ⟨[], _, parts_none, _, _, rfl, ⟨600000, by decide, dn.mono (by decide), wn.mono ?_⟩, ⟨fun h => absurd h ?_, fun h => db_nil ⟨_, rfl, rfl⟩⟩⟩)))⟩))))))))))
      · have : n * 22301 ≤ 13 * 22301 := Nat.mul_le_mul hn (Nat.le_refl _)
        omega
      · show ¬ lessB (fdot (vec goal) (vec pt.l) goal.length) _ = true
        rw [hgl, no]; decide
    obtain ⟨s12, rfl, rfl⟩ := hI
    exact ⟨_, _, _, _, rfl, rfl⟩
  obtain ⟨s12, s15, s16, s17, rfl, rfl⟩ := hI
  exact db_one (ds_ret (de_bl (q _)))
end
end K35
namespace K35
open PySem PySem.Spec PyProof.Rows L2 Dl
/-! ### the head -/
def d_ratio : He.DefD := ⟨("ratio", none), "ratio", "ratio", defArgs s_ratio, defBody s_ratio, defScope s_ratio, [.int 1], []⟩
def d_add : He.DefD := ⟨("add", none), "add", "add", defArgs s_add, defBody s_add, defScope s_add, [], []⟩
def d_sub : He.DefD := ⟨("sub", none), "sub", "sub", defArgs s_sub, defBody s_sub, defScope s_sub, [], []⟩
def d_mul : He.DefD := ⟨("mul", none), "mul", "mul", defArgs s_mul, defBody s_mul, defScope s_mul, [], []⟩
def d_less : He.DefD := ⟨("less", none), "less", "less", defArgs s_less, defBody s_less, defScope s_less, [], []⟩
def d_upto : He.DefD := ⟨("upto", none), "upto", "upto", defArgs s_upto, defBody s_upto, defScope s_upto, [], []⟩
def d_lesser : He.DefD := ⟨("lesser", none), "lesser", "lesser", defArgs s_lesser, defBody s_lesser, defScope s_lesser, [], []⟩
def d_contains : He.DefD := ⟨("contains", none), "contains", "contains", defArgs s_contains, defBody s_contains, defScope s_contains, [], []⟩
def d_dot : He.DefD := ⟨("dot", none), "dot", "dot", defArgs s_dot, defBody s_dot, defScope s_dot, [], []⟩
def d_dual_worth : He.DefD := ⟨("dual_worth", none), "dual_worth", "dual_worth", defArgs s_dual_worth, defBody s_dual_worth, defScope s_dual_worth, [], []⟩
def d_broken_rows : He.DefD := ⟨("broken_rows", none), "broken_rows", "broken_rows", defArgs s_broken_rows, defBody s_broken_rows, defScope s_broken_rows, [], []⟩
def d_keeps_rows : He.DefD := ⟨("keeps_rows", none), "keeps_rows", "keeps_rows", defArgs s_keeps_rows, defBody s_keeps_rows, defScope s_keeps_rows, [], []⟩
def d_law_jar : He.DefD := ⟨("_law_jar", none), "_law_jar", "_law_jar", defArgs s_law_jar, defBody s_law_jar, defScope s_law_jar, [], []⟩
def d_law_draw : He.DefD := ⟨("_law_draw", none), "_law_draw", "_law_draw", defArgs s_law_draw, defBody s_law_draw, defScope s_law_draw, [], []⟩
def d_law_low : He.DefD := ⟨("_law_low", none), "_law_low", "_law_low", defArgs s_law_low, defBody s_law_low, defScope s_law_low, [], []⟩
def d_law_less : He.DefD := ⟨("_law_less", none), "_law_less", "_law_less", defArgs s_law_less, defBody s_law_less, defScope s_law_less, [], []⟩
def d_law_plus : He.DefD := ⟨("_law_plus", none), "_law_plus", "_law_plus", defArgs s_law_plus, defBody s_law_plus, defScope s_law_plus, [], []⟩
def d_law_minus : He.DefD := ⟨("_law_minus", none), "_law_minus", "_law_minus", defArgs s_law_minus, defBody s_law_minus, defScope s_law_minus, [], []⟩
def d_law_times : He.DefD := ⟨("_law_times", none), "_law_times", "_law_times", defArgs s_law_times, defBody s_law_times, defScope s_law_times, [], []⟩
def d_law_is_number : He.DefD := ⟨("_law_is_number", none), "_law_is_number", "_law_is_number", defArgs s_law_is_number, defBody s_law_is_number, defScope s_law_is_number, [], []⟩
def d_law_dot : He.DefD := ⟨("_law_dot", none), "_law_dot", "_law_dot", defArgs s_law_dot, defBody s_law_dot, defScope s_law_dot, [], []⟩
def d_law_turned : He.DefD := ⟨("_law_turned", none), "_law_turned", "_law_turned", defArgs s_law_turned, defBody s_law_turned, defScope s_law_turned, [], []⟩
def d_law_shown : He.DefD := ⟨("_law_shown", none), "_law_shown", "_law_shown", defArgs s_law_shown, defBody s_law_shown, defScope s_law_shown, [], []⟩
def d_law_stretch : He.DefD := ⟨("_law_stretch", none), "_law_stretch", "_law_stretch", defArgs s_law_stretch, defBody s_law_stretch, defScope s_law_stretch, [], []⟩
def d_law_number : He.DefD := ⟨("_law_number", none), "_law_number", "_law_number", defArgs s_law_number, defBody s_law_number, defScope s_law_number, [], []⟩
def d_law_vector : He.DefD := ⟨("_law_vector", none), "_law_vector", "_law_vector", defArgs s_law_vector, defBody s_law_vector, defScope s_law_vector, [], []⟩
def d_law_rows : He.DefD := ⟨("_law_rows", none), "_law_rows", "_law_rows", defArgs s_law_rows, defBody s_law_rows, defScope s_law_rows, [], []⟩
def d_law_points : He.DefD := ⟨("_law_points", none), "_law_points", "_law_points", defArgs s_law_points, defBody s_law_points, defScope s_law_points, [], []⟩
def d_law_duals : He.DefD := ⟨("_law_duals", none), "_law_duals", "_law_duals", defArgs s_law_duals, defBody s_law_duals, defScope s_law_duals, [], []⟩
def d_law_point_right : He.DefD := ⟨("_law_point_right", none), "_law_point_right", "_law_point_right", defArgs s_law_point_right, defBody s_law_point_right, defScope s_law_point_right, [], []⟩
def d_law : He.DefD := ⟨("law", none), "law", "law", defArgs s_law, defBody s_law, defScope s_law, [], []⟩
def fnL : List He.DefD := [d_ratio, d_add, d_sub, d_mul, d_less, d_upto, d_lesser, d_contains, d_dot, d_dual_worth, d_broken_rows, d_keeps_rows, d_law_jar, d_law_draw, d_law_low, d_law_less, d_law_plus, d_law_minus, d_law_times, d_law_is_number, d_law_dot, d_law_turned, d_law_shown, d_law_stretch, d_law_number, d_law_vector, d_law_rows, d_law_points, d_law_duals, d_law_point_right, d_law]
def faL : List He.Fa := [.glo "ratio", .glo "add", .glo "sub", .glo "mul", .glo "less", .glo "upto", .glo "lesser", .glo "contains", .glo "dot", .glo "dual_worth", .glo "broken_rows", .glo "keeps_rows", .glo "_law_jar", .glo "_law_draw", .glo "_law_low", .glo "_law_less", .glo "_law_plus", .glo "_law_minus", .glo "_law_times", .glo "_law_is_number", .glo "_law_dot", .glo "_law_turned", .glo "_law_shown", .glo "_law_stretch", .glo "_law_number", .glo "_law_vector", .glo "_law_rows", .glo "_law_points", .glo "_law_duals", .glo "_law_point_right", .glo "law", .free "range", .free "abs", .free "int", .free "len", .free "isinstance", .free "tuple", .free "bool", .free "list", .free "min"]
def biL : List (Str × String) := [("gcd", "math.gcd")]
abbrev R : PySem.W.OpenRow := PySem.W.OpenLaw.row PySem.Challenge.rw_leastinbox_k35_lines_any_duals
abbrev hk : PySem.W.Hook := hookZ 4 biL faL fnL
def ob (s : PySem.W.SharedT) : He.AlD := obsZG 4 biL faL fnL (HandSHeadRun.getT s)
theorem ob_eq (s : PySem.W.SharedT) : ob s = hk.obs s.abs := obsZG_eq (HandSHeadRun.getT_eq s)
theorem run (w : World) : HandSHeadRun.RunEqI R (PySem.W.view R.prog [0, 36]) hk ob 8000 ["ratio", "add", "sub", "mul", "less", "upto", "lesser", "contains", "dot", "dual_worth", "broken_rows", "keeps_rows", "_law_jar", "_law_draw", "_law_low", "_law_less", "_law_plus", "_law_minus", "_law_times", "_law_is_number", "_law_dot", "_law_turned", "_law_shown", "_law_stretch", "_law_number", "_law_vector", "_law_rows", "_law_points", "_law_duals", "_law_point_right"] w := by
  unfold HandSHeadRun.RunEqI
  kernel_rfl
section
variable {K : PySem.W.Frag} {h : Heap} {mg : Str → Option Value}
theorem at_ratio (X : K.In h) (G : h.Ns mainGlobals mg) (c : SaysZ biL faL fnL K) : Dfn K mg "ratio" s_ratio ["top", "bottom"] := by
  obtain ⟨fd, F⟩ := c.saysD.def_ 0 (d := d_ratio) rfl
  obtain ⟨ds, hv, hb⟩ := F.binds1 (ps := ["top", "bottom"]) 2 1 (by intro z; cases z) rfl fun T kV doc pm an cdv ct us its hu hi => match us, its, hu, hi with | [_, _], [_], _, _ => ⟨_, rfl, rfl⟩
  cases hv
  exact ⟨⟨_, fd, _, F, He.glo_ok X G (c.saysD.fact 0 (f := .glo "ratio") rfl), hb⟩⟩
theorem at_add (X : K.In h) (G : h.Ns mainGlobals mg) (c : SaysZ biL faL fnL K) : Dfn K mg "add" s_add ["one", "two"] := by
  obtain ⟨fd, F⟩ := c.saysD.def_ 1 (d := d_add) rfl
  exact ⟨⟨_, fd, _, F, He.glo_ok X G (c.saysD.fact 1 (f := .glo "add") rfl), F.bindsN fun _ _ _ _ _ _ us hl => match us, hl with | [_, _], _ => rfl⟩⟩
theorem at_sub (X : K.In h) (G : h.Ns mainGlobals mg) (c : SaysZ biL faL fnL K) : Dfn K mg "sub" s_sub ["one", "two"] := by
  obtain ⟨fd, F⟩ := c.saysD.def_ 2 (d := d_sub) rfl
  exact ⟨⟨_, fd, _, F, He.glo_ok X G (c.saysD.fact 2 (f := .glo "sub") rfl), F.bindsN fun _ _ _ _ _ _ us hl => match us, hl with | [_, _], _ => rfl⟩⟩
theorem at_mul (X : K.In h) (G : h.Ns mainGlobals mg) (c : SaysZ biL faL fnL K) : Dfn K mg "mul" s_mul ["one", "two"] := by
  obtain ⟨fd, F⟩ := c.saysD.def_ 3 (d := d_mul) rfl
  exact ⟨⟨_, fd, _, F, He.glo_ok X G (c.saysD.fact 3 (f := .glo "mul") rfl), F.bindsN fun _ _ _ _ _ _ us hl => match us, hl with | [_, _], _ => rfl⟩⟩
theorem at_less (X : K.In h) (G : h.Ns mainGlobals mg) (c : SaysZ biL faL fnL K) : Dfn K mg "less" s_less ["one", "two"] := by
  obtain ⟨fd, F⟩ := c.saysD.def_ 4 (d := d_less) rfl
  exact ⟨⟨_, fd, _, F, He.glo_ok X G (c.saysD.fact 4 (f := .glo "less") rfl), F.bindsN fun _ _ _ _ _ _ us hl => match us, hl with | [_, _], _ => rfl⟩⟩
theorem at_upto (X : K.In h) (G : h.Ns mainGlobals mg) (c : SaysZ biL faL fnL K) : Dfn K mg "upto" s_upto ["one", "two"] := by
  obtain ⟨fd, F⟩ := c.saysD.def_ 5 (d := d_upto) rfl
  exact ⟨⟨_, fd, _, F, He.glo_ok X G (c.saysD.fact 5 (f := .glo "upto") rfl), F.bindsN fun _ _ _ _ _ _ us hl => match us, hl with | [_, _], _ => rfl⟩⟩
theorem at_lesser (X : K.In h) (G : h.Ns mainGlobals mg) (c : SaysZ biL faL fnL K) : Dfn K mg "lesser" s_lesser ["one", "two"] := by
  obtain ⟨fd, F⟩ := c.saysD.def_ 6 (d := d_lesser) rfl
  exact ⟨⟨_, fd, _, F, He.glo_ok X G (c.saysD.fact 6 (f := .glo "lesser") rfl), F.bindsN fun _ _ _ _ _ _ us hl => match us, hl with | [_, _], _ => rfl⟩⟩
theorem at_contains (X : K.In h) (G : h.Ns mainGlobals mg) (c : SaysZ biL faL fnL K) : Dfn K mg "contains" s_contains ["one", "number"] := by
  obtain ⟨fd, F⟩ := c.saysD.def_ 7 (d := d_contains) rfl
  exact ⟨⟨_, fd, _, F, He.glo_ok X G (c.saysD.fact 7 (f := .glo "contains") rfl), F.bindsN fun _ _ _ _ _ _ us hl => match us, hl with | [_, _], _ => rfl⟩⟩
theorem at_dot (X : K.In h) (G : h.Ns mainGlobals mg) (c : SaysZ biL faL fnL K) : Dfn K mg "dot" s_dot ["one", "two"] := by
  obtain ⟨fd, F⟩ := c.saysD.def_ 8 (d := d_dot) rfl
  exact ⟨⟨_, fd, _, F, He.glo_ok X G (c.saysD.fact 8 (f := .glo "dot") rfl), F.bindsN fun _ _ _ _ _ _ us hl => match us, hl with | [_, _], _ => rfl⟩⟩
theorem at_dual_worth (X : K.In h) (G : h.Ns mainGlobals mg) (c : SaysZ biL faL fnL K) : Dfn K mg "dual_worth" s_dual_worth ["goal", "rows", "stretches", "duals"] := by
  obtain ⟨fd, F⟩ := c.saysD.def_ 9 (d := d_dual_worth) rfl
  exact ⟨⟨_, fd, _, F, He.glo_ok X G (c.saysD.fact 9 (f := .glo "dual_worth") rfl), F.bindsN fun _ _ _ _ _ _ us hl => match us, hl with | [_, _, _, _], _ => rfl⟩⟩
theorem at_broken_rows (X : K.In h) (G : h.Ns mainGlobals mg) (c : SaysZ biL faL fnL K) : Dfn K mg "broken_rows" s_broken_rows ["rows", "point"] := by
  obtain ⟨fd, F⟩ := c.saysD.def_ 10 (d := d_broken_rows) rfl
  exact ⟨⟨_, fd, _, F, He.glo_ok X G (c.saysD.fact 10 (f := .glo "broken_rows") rfl), F.bindsN fun _ _ _ _ _ _ us hl => match us, hl with | [_, _], _ => rfl⟩⟩
theorem at_keeps_rows (X : K.In h) (G : h.Ns mainGlobals mg) (c : SaysZ biL faL fnL K) : Dfn K mg "keeps_rows" s_keeps_rows ["rows", "stretches", "point"] := by
  obtain ⟨fd, F⟩ := c.saysD.def_ 11 (d := d_keeps_rows) rfl
  exact ⟨⟨_, fd, _, F, He.glo_ok X G (c.saysD.fact 11 (f := .glo "keeps_rows") rfl), F.bindsN fun _ _ _ _ _ _ us hl => match us, hl with | [_, _, _], _ => rfl⟩⟩
theorem at_law_jar (X : K.In h) (G : h.Ns mainGlobals mg) (c : SaysZ biL faL fnL K) : Dfn K mg "_law_jar" s_law_jar ["script"] := by
  obtain ⟨fd, F⟩ := c.saysD.def_ 12 (d := d_law_jar) rfl
  exact ⟨⟨_, fd, _, F, He.glo_ok X G (c.saysD.fact 12 (f := .glo "_law_jar") rfl), F.bindsN fun _ _ _ _ _ _ us hl => match us, hl with | [_], _ => rfl⟩⟩
theorem at_law_draw (X : K.In h) (G : h.Ns mainGlobals mg) (c : SaysZ biL faL fnL K) : Dfn K mg "_law_draw" s_law_draw ["jar", "many"] := by
  obtain ⟨fd, F⟩ := c.saysD.def_ 13 (d := d_law_draw) rfl
  exact ⟨⟨_, fd, _, F, He.glo_ok X G (c.saysD.fact 13 (f := .glo "_law_draw") rfl), F.bindsN fun _ _ _ _ _ _ us hl => match us, hl with | [_, _], _ => rfl⟩⟩
theorem at_law_low (X : K.In h) (G : h.Ns mainGlobals mg) (c : SaysZ biL faL fnL K) : Dfn K mg "_law_low" s_law_low ["top", "bottom"] := by
  obtain ⟨fd, F⟩ := c.saysD.def_ 14 (d := d_law_low) rfl
  exact ⟨⟨_, fd, _, F, He.glo_ok X G (c.saysD.fact 14 (f := .glo "_law_low") rfl), F.bindsN fun _ _ _ _ _ _ us hl => match us, hl with | [_, _], _ => rfl⟩⟩
theorem at_law_less (X : K.In h) (G : h.Ns mainGlobals mg) (c : SaysZ biL faL fnL K) : Dfn K mg "_law_less" s_law_less ["one", "two"] := by
  obtain ⟨fd, F⟩ := c.saysD.def_ 15 (d := d_law_less) rfl
  exact ⟨⟨_, fd, _, F, He.glo_ok X G (c.saysD.fact 15 (f := .glo "_law_less") rfl), F.bindsN fun _ _ _ _ _ _ us hl => match us, hl with | [_, _], _ => rfl⟩⟩
theorem at_law_plus (X : K.In h) (G : h.Ns mainGlobals mg) (c : SaysZ biL faL fnL K) : Dfn K mg "_law_plus" s_law_plus ["one", "two"] := by
  obtain ⟨fd, F⟩ := c.saysD.def_ 16 (d := d_law_plus) rfl
  exact ⟨⟨_, fd, _, F, He.glo_ok X G (c.saysD.fact 16 (f := .glo "_law_plus") rfl), F.bindsN fun _ _ _ _ _ _ us hl => match us, hl with | [_, _], _ => rfl⟩⟩
theorem at_law_minus (X : K.In h) (G : h.Ns mainGlobals mg) (c : SaysZ biL faL fnL K) : Dfn K mg "_law_minus" s_law_minus ["one", "two"] := by
  obtain ⟨fd, F⟩ := c.saysD.def_ 17 (d := d_law_minus) rfl
  exact ⟨⟨_, fd, _, F, He.glo_ok X G (c.saysD.fact 17 (f := .glo "_law_minus") rfl), F.bindsN fun _ _ _ _ _ _ us hl => match us, hl with | [_, _], _ => rfl⟩⟩
theorem at_law_times (X : K.In h) (G : h.Ns mainGlobals mg) (c : SaysZ biL faL fnL K) : Dfn K mg "_law_times" s_law_times ["one", "two"] := by
  obtain ⟨fd, F⟩ := c.saysD.def_ 18 (d := d_law_times) rfl
  exact ⟨⟨_, fd, _, F, He.glo_ok X G (c.saysD.fact 18 (f := .glo "_law_times") rfl), F.bindsN fun _ _ _ _ _ _ us hl => match us, hl with | [_, _], _ => rfl⟩⟩
theorem at_law_is_number (X : K.In h) (G : h.Ns mainGlobals mg) (c : SaysZ biL faL fnL K) : Dfn K mg "_law_is_number" s_law_is_number ["x"] := by
  obtain ⟨fd, F⟩ := c.saysD.def_ 19 (d := d_law_is_number) rfl
  exact ⟨⟨_, fd, _, F, He.glo_ok X G (c.saysD.fact 19 (f := .glo "_law_is_number") rfl), F.bindsN fun _ _ _ _ _ _ us hl => match us, hl with | [_], _ => rfl⟩⟩
theorem at_law_dot (X : K.In h) (G : h.Ns mainGlobals mg) (c : SaysZ biL faL fnL K) : Dfn K mg "_law_dot" s_law_dot ["one", "two"] := by
  obtain ⟨fd, F⟩ := c.saysD.def_ 20 (d := d_law_dot) rfl
  exact ⟨⟨_, fd, _, F, He.glo_ok X G (c.saysD.fact 20 (f := .glo "_law_dot") rfl), F.bindsN fun _ _ _ _ _ _ us hl => match us, hl with | [_, _], _ => rfl⟩⟩
theorem at_law_turned (X : K.In h) (G : h.Ns mainGlobals mg) (c : SaysZ biL faL fnL K) : Dfn K mg "_law_turned" s_law_turned ["one"] := by
  obtain ⟨fd, F⟩ := c.saysD.def_ 21 (d := d_law_turned) rfl
  exact ⟨⟨_, fd, _, F, He.glo_ok X G (c.saysD.fact 21 (f := .glo "_law_turned") rfl), F.bindsN fun _ _ _ _ _ _ us hl => match us, hl with | [_], _ => rfl⟩⟩
theorem at_law_shown (X : K.In h) (G : h.Ns mainGlobals mg) (c : SaysZ biL faL fnL K) : Dfn K mg "_law_shown" s_law_shown ["goal", "rows", "stretches", "duals"] := by
  obtain ⟨fd, F⟩ := c.saysD.def_ 22 (d := d_law_shown) rfl
  exact ⟨⟨_, fd, _, F, He.glo_ok X G (c.saysD.fact 22 (f := .glo "_law_shown") rfl), F.bindsN fun _ _ _ _ _ _ us hl => match us, hl with | [_, _, _, _], _ => rfl⟩⟩
theorem at_law_stretch (X : K.In h) (G : h.Ns mainGlobals mg) (c : SaysZ biL faL fnL K) : Dfn K mg "_law_stretch" s_law_stretch ["jar"] := by
  obtain ⟨fd, F⟩ := c.saysD.def_ 23 (d := d_law_stretch) rfl
  exact ⟨⟨_, fd, _, F, He.glo_ok X G (c.saysD.fact 23 (f := .glo "_law_stretch") rfl), F.bindsN fun _ _ _ _ _ _ us hl => match us, hl with | [_], _ => rfl⟩⟩
theorem at_law_number (X : K.In h) (G : h.Ns mainGlobals mg) (c : SaysZ biL faL fnL K) : Dfn K mg "_law_number" s_law_number ["jar", "large"] := by
  obtain ⟨fd, F⟩ := c.saysD.def_ 24 (d := d_law_number) rfl
  exact ⟨⟨_, fd, _, F, He.glo_ok X G (c.saysD.fact 24 (f := .glo "_law_number") rfl), F.bindsN fun _ _ _ _ _ _ us hl => match us, hl with | [_, _], _ => rfl⟩⟩
theorem at_law_vector (X : K.In h) (G : h.Ns mainGlobals mg) (c : SaysZ biL faL fnL K) : Dfn K mg "_law_vector" s_law_vector ["jar", "many", "large"] := by
  obtain ⟨fd, F⟩ := c.saysD.def_ 25 (d := d_law_vector) rfl
  exact ⟨⟨_, fd, _, F, He.glo_ok X G (c.saysD.fact 25 (f := .glo "_law_vector") rfl), F.bindsN fun _ _ _ _ _ _ us hl => match us, hl with | [_, _, _], _ => rfl⟩⟩
theorem at_law_rows (X : K.In h) (G : h.Ns mainGlobals mg) (c : SaysZ biL faL fnL K) : Dfn K mg "_law_rows" s_law_rows ["jar", "many", "count", "inner", "kept", "large"] := by
  obtain ⟨fd, F⟩ := c.saysD.def_ 26 (d := d_law_rows) rfl
  exact ⟨⟨_, fd, _, F, He.glo_ok X G (c.saysD.fact 26 (f := .glo "_law_rows") rfl), F.bindsN fun _ _ _ _ _ _ us hl => match us, hl with | [_, _, _, _, _, _], _ => rfl⟩⟩
theorem at_law_points (X : K.In h) (G : h.Ns mainGlobals mg) (c : SaysZ biL faL fnL K) : Dfn K mg "_law_points" s_law_points ["jar", "stretches", "inner"] := by
  obtain ⟨fd, F⟩ := c.saysD.def_ 27 (d := d_law_points) rfl
  exact ⟨⟨_, fd, _, F, He.glo_ok X G (c.saysD.fact 27 (f := .glo "_law_points") rfl), F.bindsN fun _ _ _ _ _ _ us hl => match us, hl with | [_, _, _], _ => rfl⟩⟩
theorem at_law_duals (X : K.In h) (G : h.Ns mainGlobals mg) (c : SaysZ biL faL fnL K) : Dfn K mg "_law_duals" s_law_duals ["jar", "count", "large"] := by
  obtain ⟨fd, F⟩ := c.saysD.def_ 28 (d := d_law_duals) rfl
  exact ⟨⟨_, fd, _, F, He.glo_ok X G (c.saysD.fact 28 (f := .glo "_law_duals") rfl), F.bindsN fun _ _ _ _ _ _ us hl => match us, hl with | [_, _, _], _ => rfl⟩⟩
theorem at_law_point_right (X : K.In h) (G : h.Ns mainGlobals mg) (c : SaysZ biL faL fnL K) : Dfn K mg "_law_point_right" s_law_point_right ["rows", "stretches", "point"] := by
  obtain ⟨fd, F⟩ := c.saysD.def_ 29 (d := d_law_point_right) rfl
  exact ⟨⟨_, fd, _, F, He.glo_ok X G (c.saysD.fact 29 (f := .glo "_law_point_right") rfl), F.bindsN fun _ _ _ _ _ _ us hl => match us, hl with | [_, _, _], _ => rfl⟩⟩
theorem at_law (X : K.In h) (G : h.Ns mainGlobals mg) (c : SaysZ biL faL fnL K) : Dfn K mg "law" s_law ["script"] := by
  obtain ⟨fd, F⟩ := c.saysD.def_ 30 (d := d_law) rfl
  exact ⟨⟨_, fd, _, F, He.glo_ok X G (c.saysD.fact 30 (f := .glo "law") rfl), F.bindsN fun _ _ _ _ _ _ us hl => match us, hl with | [_], _ => rfl⟩⟩
theorem fr_range (X : K.In h) (G : h.Ns mainGlobals mg) (c : SaysZ biL faL fnL K) : mg "range" = none := He.free_ok X G (c.saysD.fact 31 (f := .free "range") rfl)
theorem fr_abs (X : K.In h) (G : h.Ns mainGlobals mg) (c : SaysZ biL faL fnL K) : mg "abs" = none := He.free_ok X G (c.saysD.fact 32 (f := .free "abs") rfl)
theorem fr_int (X : K.In h) (G : h.Ns mainGlobals mg) (c : SaysZ biL faL fnL K) : mg "int" = none := He.free_ok X G (c.saysD.fact 33 (f := .free "int") rfl)
theorem fr_len (X : K.In h) (G : h.Ns mainGlobals mg) (c : SaysZ biL faL fnL K) : mg "len" = none := He.free_ok X G (c.saysD.fact 34 (f := .free "len") rfl)
theorem fr_isinstance (X : K.In h) (G : h.Ns mainGlobals mg) (c : SaysZ biL faL fnL K) : mg "isinstance" = none := He.free_ok X G (c.saysD.fact 35 (f := .free "isinstance") rfl)
theorem fr_tuple (X : K.In h) (G : h.Ns mainGlobals mg) (c : SaysZ biL faL fnL K) : mg "tuple" = none := He.free_ok X G (c.saysD.fact 36 (f := .free "tuple") rfl)
theorem fr_bool (X : K.In h) (G : h.Ns mainGlobals mg) (c : SaysZ biL faL fnL K) : mg "bool" = none := He.free_ok X G (c.saysD.fact 37 (f := .free "bool") rfl)
theorem fr_list (X : K.In h) (G : h.Ns mainGlobals mg) (c : SaysZ biL faL fnL K) : mg "list" = none := He.free_ok X G (c.saysD.fact 38 (f := .free "list") rfl)
theorem fr_min (X : K.In h) (G : h.Ns mainGlobals mg) (c : SaysZ biL faL fnL K) : mg "min" = none := He.free_ok X G (c.saysD.fact 39 (f := .free "min") rfl)
theorem bi_gcd (X : K.In h) (G : h.Ns mainGlobals mg) (c : SaysZ biL faL fnL K) : mg "gcd" = some (.builtin "math.gcd") := PySem.W.mg_of X G (c.blt 0 (q := ("gcd", "math.gcd")) rfl)
end
theorem facts {P : Program} {w : World} {K : PySem.W.Frag} {h : Heap} {mg : Str → Option Value} {f : Addr} (X : K.In h) (G : h.Ns mainGlobals mg) (hfa : mg ("law" : Str) = some (.ref f)) (c : SaysZ biL faL fnL K) :
    ∃ fd : FuncData, (∀ (s : Shared) (v : Value), BindsTo s fd ⟨[v], []⟩ [("script", v)]) ∧ ∀ base : Heap, K.In base → base.Ns mainGlobals mg → FnOk P w K mg base CX0 9 f fd ["script"] (spO K phLaw) := by
  obtain ⟨fd, F⟩ := c.saysD.def_ 30 (d := d_law) rfl
  have e := hfa.symm.trans (He.glo_ok X G (c.saysD.fact 30 (f := .glo "law") rfl))
  cases e
  have b := FunD.bindsA (ps := ["script"]) F fun _ _ _ _ _ _ us hl => match us, hl with | [_], _ => rfl
  have T : Txt mg := ⟨bi_gcd X G c, fr_range X G c, fr_abs X G c, fr_int X G c, fr_len X G c, fr_isinstance X G c, fr_tuple X G c, fr_bool X G c, fr_list X G c, fr_min X G c⟩
  refine ⟨fd, fun s v => b s [v] rfl, fun base _ _ => ?_⟩
  have cr := c_ratio (P := P) (w := w) (base := base) (at_ratio X G c) T
  have cadd := c_add (at_add X G c) cr
  have csub := c_sub (at_sub X G c) cr
  have cmul := c_mul (at_mul X G c) cr
  have cless := c_less (P := P) (w := w) (base := base) (at_less X G c)
  have cupto := c_upto (P := P) (w := w) (base := base) (at_upto X G c)
  have clesser := c_lesser (at_lesser X G c) cupto
  have ccont := c_contains (at_contains X G c) cupto
  have cdot := c_dot (at_dot X G c) T cr
  have cworth := c_worth (at_dual_worth X G c) T cdot cadd csub cmul clesser
  have cbrk := c_broken (at_broken_rows X G c) T cdot cless
  have ckeep := c_keeps (at_keeps_rows X G c) T ccont cbrk
  have cj := c_jar (P := P) (w := w) (base := base) (at_law_jar X G c) T.int
  have cd := c_draw (P := P) (w := w) (base := base) (at_law_draw X G c) T.len T.int
  have clow := c_low (P := P) (w := w) (base := base) (at_law_low X G c) T
  have cis := c_isnum (at_law_is_number X G c) T clow
  have cplus := c_plus (at_law_plus X G c) clow
  have cminus := c_minus (at_law_minus X G c) clow
  have ctimes := c_times (at_law_times X G c) clow
  have clless := c_lless (P := P) (w := w) (base := base) (at_law_less X G c)
  have cturned := c_turned (P := P) (w := w) (base := base) (at_law_turned X G c)
  have cldot := c_ldot (at_law_dot X G c) T clow
  have cshown := c_shown (at_law_shown X G c) T cldot cplus cturned ctimes clless
  have cpr := c_pr (at_law_point_right X G c) T cldot clless cbrk ckeep
  have cst := c_stretch (at_law_stretch X G c) cd clow
  have cnum := c_number (at_law_number X G c) cd clow
  have cvec := c_vector (at_law_vector X G c) T cd cnum
  have crows := c_rows (at_law_rows X G c) T cd clow cvec cminus cldot
  have cdu := c_duals (at_law_duals X G c) T cd cnum
  have cpt := c_points (at_law_points X G c) T cd cplus cminus ctimes
  exact f_law F T cj cd cst cplus cminus ctimes clless cldot crows cpt cpr cnum cdu cworth cshown cis
end K35
open PySem PySem.W PySem.Calls PyProof.Rows
set_option maxRecDepth 100000 in
set_option maxHeartbeats 0 in
theorem PySem.Challenge.cw_leastinbox_k35_lines_any_duals_holds : PySem.Challenge.rw_leastinbox_k35_lines_any_duals.Holds := by
  w_on; o_law
  refine HandSHeadRun.head_imp (r := OpenLaw.row PySem.Challenge.rw_leastinbox_k35_lines_any_duals) (q := view (OpenLaw.row PySem.Challenge.rw_leastinbox_k35_lines_any_duals).prog [0, 36]) (H := K35.hk) (ob := K35.ob) (M := 8000) (loose := ["ratio", "add", "sub", "mul", "less", "upto", "lesser", "contains", "dot", "dual_worth", "broken_rows", "keeps_rows", "_law_jar", "_law_draw", "_law_low", "_law_less", "_law_plus", "_law_minus", "_law_times", "_law_is_number", "_law_dot", "_law_turned", "_law_shown", "_law_stretch", "_law_number", "_law_vector", "_law_rows", "_law_points", "_law_duals", "_law_point_right"]) (d := HandSHeadRun.topDef (OpenLaw.row PySem.Challenge.rw_leastinbox_k35_lines_any_duals).prog 36) (kwd := []) K35.ob_eq
    K35.run (by kernel_rfl) (by kernel_rfl) (by kernel_rfl) (by rfl) (by first | assumption | decide +kernel) (by decide +kernel) ⟨rfl, rfl, rfl, rfl, rfl, by decide +kernel⟩ ?hw ?hc
  case hw => w_witness2
  case hc =>
    refine L2.walk_ofE (l := PySem.Challenge.rw_leastinbox_k35_lines_any_duals) (n := 63) (k := 9) (x := "script") (CX := L2.CX0) rfl (by decide) (by kernel_rfl) ⟨rfl, by decide, by decide⟩ ?F (fun _ _ _ _ z => z)
    intro w mg fa h Y G hmg0
    obtain ⟨K, KX, c⟩ := Y
    have hmg : mg ("law" : PySem.Str) = some (.ref fa) := by
      have e : (HandSHeadRun.topDef (OpenLaw.row PySem.Challenge.rw_leastinbox_k35_lines_any_duals).prog 36).name = ("law" : PySem.Str) := by kernel_rfl
      rw [← e]
      exact hmg0
    obtain ⟨fd, hb, hF⟩ := K35.facts (P := (PySem.Challenge.rw_leastinbox_k35_lines_any_duals).prog) (w := w) KX G hmg c
    exact ⟨K, fd, Dl.spO K Dl.phLaw, KX, hb, fun H a ns hl hO hS => Dl.law_end hO hS, hF⟩
