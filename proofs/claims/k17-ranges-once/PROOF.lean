import PyProof.Rows.All
import Wide.All
import OpenK.AllK
import Wide.FinOn
import HandS.ForMost
import HandS.Wide
import HandS.WideBits
import HandS.WideMore
import HandS.Gcd
import HandS.IsInst
import HandS.EndBits
import HandS.Flow
import HandS.Conv
import HandS.Codes
import HandS.Style
import HandS.Head0
import HandS.Head1
import HandS.Head2
import HandS.Head3
import HandS.HeadEnd
import HandS.HeadHook1
import HandS.HeadHook2
import HandS.Defaults
import PyProof.P3Eq
import PyProof.DictRoadsH
import HandS.GenList
import HandS.GenYield
import Flt.RightSqrt
import KE.IntBitsLaws
import HandS.Deep
import HandS.DictComp
import HandS.List
import HandS.More
import HandS.TryOnly
import HandS.TupAny
import HandS.HeadHook3
import PySem.Challenge.RW_leastinbox_k17_ranges_exact_once
set_option Elab.async false
set_option linter.all false
set_option maxRecDepth 100000
set_option maxHeartbeats 4000000
/-! Dl: a logic of data over HandS: values by what they stand for, cells for what may change. -/
namespace Dl
open PySem PySem.Spec PyProof.Rows L2

/-- objects that never change -/
def Fix : HO → Prop
  | .tup _ => True
  | .frz _ _ => True
  | _ => False
abbrev AS := Addr → Prop
def Keep (M : AS) (H H' : Hp) : Prop := ∀ a o, H a = some o → (¬ M a ∨ Fix o) → H' a = some o
theorem Keep.refl {M : AS} {H : Hp} : Keep M H H := fun _ _ h _ => h
theorem Keep.mono {M M' : AS} {H H' : Hp} (k : Keep M H H') (h : ∀ a, M a → M' a) : Keep M' H H' := fun a o e c => k a o e (c.imp (fun n z => n (h a z)) id)

/-- how a value stands for a datum -/
class Enc (α : Type) where
  R : PySem.W.Frag → AS → Hp → V → α → Prop
  mono : ∀ {K M H H' v x}, Keep M H H' → R K M H v x → R K M H' v x
  set : ∀ {K M M' H v x}, (∀ a, M' a → M a ∨ H a = none) → R K M H v x → R K M' H v x

instance : Enc Int := ⟨fun _ _ _ v x => v = .int x, fun _ h => h, fun _ h => h⟩
instance : Enc Bool := ⟨fun _ _ _ v x => v = .bl x, fun _ h => h, fun _ h => h⟩
instance : Enc Str := ⟨fun _ _ _ v x => v = .str x, fun _ h => h, fun _ h => h⟩
instance : Enc Unit := ⟨fun _ _ _ v _ => v = .non, fun _ h => h, fun _ h => h⟩
/-- a reference to a cell -/
structure Ref where
  a : Addr
instance : Enc Ref := ⟨fun _ _ _ v x => v = .ref x.a, fun _ h => h, fun _ h => h⟩
theorem sqT_keep {K : PySem.W.Frag} {M : AS} {H H' : Hp} {a : Addr} {xs : List V} (k : Keep M H H') (h : SqT K H a xs) : SqT K H' a xs := by
  rcases h with (h | ⟨o, h⟩) | h
  · exact .inl (.inl (k _ _ h (.inr trivial)))
  · exact .inl (.inr ⟨o, k _ _ h (.inr trivial)⟩)
  · exact .inr h
/-- a pair is a tuple of two -/
instance [A : Enc α] [B : Enc β] : Enc (α × β) where
  R K M H v x := ∃ a v1 v2, v = .ref a ∧ SqT K H a [v1, v2] ∧ A.R K M H v1 x.1 ∧ B.R K M H v2 x.2
  mono k h := by
    obtain ⟨a, v1, v2, e, s, r1, r2⟩ := h
    exact ⟨a, v1, v2, e, sqT_keep k s, A.mono k r1, B.mono k r2⟩
  set k h := by
    obtain ⟨a, v1, v2, e, s, r1, r2⟩ := h
    exact ⟨a, v1, v2, e, s, A.set k r1, B.set k r2⟩
theorem paired_map {α β : Type} {F G : α → β → Prop} (f : ∀ a b, F a b → G a b) : ∀ {l₁ : List α} {l₂ : List β}, Paired F l₁ l₂ → Paired G l₁ l₂ := fun h => Paired.mapP h f
/-- a list that nobody changes any more -/
instance [A : Enc α] : Enc (List α) where
  R K M H v x := ∃ a vs, v = .ref a ∧ ¬ M a ∧ Rd H a (.lst vs) ∧ Paired (A.R K M H) vs x
  mono k h := by
    obtain ⟨a, vs, e, n, s, r⟩ := h
    refine ⟨a, vs, e, n, ?_, paired_map (fun _ _ => A.mono k) r⟩
    rcases s with s | ⟨o, s⟩
    · exact .inl (k _ _ s (.inl n))
    · exact .inr ⟨o, k _ _ s (.inr trivial)⟩
  set k h := by
    obtain ⟨a, vs, e, n, s, r⟩ := h
    refine ⟨a, vs, e, fun z => ?_, s, paired_map (fun _ _ => A.set k) r⟩
    rcases k a z with z | z
    · exact n z
    · rcases s with s | ⟨o, s⟩
      · rw [z] at s; cases s
      · rw [z] at s; cases s
/-- a tuple of any length, its items of one kind -/
structure Tup (α : Type) where
  l : List α
instance [A : Enc α] : Enc (Tup α) where
  R K M H v x := ∃ a vs, v = .ref a ∧ SqT K H a vs ∧ Paired (A.R K M H) vs x.l
  mono k h := by
    obtain ⟨a, vs, e, s, r⟩ := h
    exact ⟨a, vs, e, sqT_keep k s, paired_map (fun _ _ => A.mono k) r⟩
  set k h := by
    obtain ⟨a, vs, e, s, r⟩ := h
    exact ⟨a, vs, e, s, paired_map (fun _ _ => A.set k) r⟩
/-- not None -/
class NN (α : Type) [Enc α] : Prop where
  nn : ∀ {K M H v} {x : α}, Enc.R K M H v x → v ≠ .non
instance : NN Int := ⟨fun h e => by cases h; cases e⟩
instance : NN Bool := ⟨fun h e => by cases h; cases e⟩
instance : NN Str := ⟨fun h e => by cases h; cases e⟩
instance [Enc α] [Enc β] : NN (α × β) := ⟨fun h e => by obtain ⟨a, v1, v2, rfl, _⟩ := h; cases e⟩
instance [Enc α] : NN (List α) := ⟨fun h e => by obtain ⟨a, v1, rfl, _⟩ := h; cases e⟩
instance [Enc α] : NN (Tup α) := ⟨fun h e => by obtain ⟨a, v1, rfl, _⟩ := h; cases e⟩
instance [A : Enc α] [NN α] : Enc (Option α) where
  R K M H v x := match x with | none => v = .non | some y => A.R K M H v y
  mono k h := by
    rename_i x
    cases x with
    | none => exact h
    | some y => exact A.mono k h
  set k h := by
    rename_i x
    cases x with
    | none => exact h
    | some y => exact A.set k h

/-- what a name may hold -/
inductive Slot : Type 1 where
  | any
  | val {α : Type} (e : Enc α) (x : α)
abbrev sl {α : Type} [e : Enc α] (x : α) : Slot := .val e x
def SlotV (K : PySem.W.Frag) (M : AS) (H : Hp) (v : V) : Slot → Prop
  | .any => True
  | .val e x => e.R K M H v x
def SlotO (K : PySem.W.Frag) (M : AS) (H : Hp) (v : Option V) : Slot → Prop
  | .any => True
  | .val e x => ∃ w, v = some w ∧ e.R K M H w x

/-- what may change, and how it stands now -/
structure Cell where
  foot : List Addr
  holds : PySem.W.Frag → AS → Hp → Prop
  mono : ∀ {K M H H'}, (∀ a o, H a = some o → (a ∈ foot ∨ ¬ M a ∨ Fix o) → H' a = some o) → holds K M H → holds K M H'
  set : ∀ {K M M' H}, (∀ a, M' a → M a ∨ H a = none) → holds K M H → holds K M' H
def foots (μ : List Cell) : AS := fun a => ∃ c ∈ μ, a ∈ c.foot
structure Holds (K : PySem.W.Frag) (M : AS) (μ : List Cell) (H : Hp) : Prop where
  cell : ∀ c ∈ μ, c.holds K M H
  inM : ∀ a, foots μ a → M a
  al : ∀ a, M a → H a ≠ none
  dj : μ.Pairwise fun c d => ∀ a, a ∈ c.foot → a ∉ d.foot
/-- a step: what stays -/
structure Ste (M : AS) (μ : List Cell) (H : Hp) (M' : AS) (μ' : List Cell) (H' : Hp) : Prop where
  keep : Keep (foots μ) H H'
  al : ∀ a, H a ≠ none → H' a ≠ none
  new : ∀ a, M' a → M a ∨ H a = none
  foo : ∀ a, foots μ' a → foots μ a ∨ H a = none
  up : ∀ a, M a → H a ≠ none → ¬ foots μ a → M' a
section
variable {K : PySem.W.Frag} {M M1 M2 M' : AS} {μ μ1 μ2 μ' : List Cell} {H H1 H2 H' : Hp} {v : V}
theorem Ste.refl : Ste M μ H M μ H := ⟨Keep.refl, fun _ h => h, fun _ h => .inl h, fun _ h => .inl h, fun _ h _ _ => h⟩
theorem Ste.trans (s : Ste M μ H M1 μ1 H1) (t : Ste M1 μ1 H1 M2 μ2 H2) : Ste M μ H M2 μ2 H2 where
  keep := fun a o e c => t.keep a o (s.keep a o e c) (c.imp (fun n z => by
    rcases s.foo a z with z | z
    · exact n z
    · rw [z] at e; cases e) id)
  al := fun a h => t.al a (s.al a h)
  new := fun a h => by
    rcases t.new a h with h | h
    · exact s.new a h
    · exact .inr (Classical.byContradiction fun n => s.al a n h)
  foo := fun a h => by
    rcases t.foo a h with h | h
    · exact s.foo a h
    · exact .inr (Classical.byContradiction fun n => s.al a n h)
  up := fun a h n f => t.up a (s.up a h n f) (s.al a n) fun z => by
    rcases s.foo a z with z | z
    · exact f z
    · exact n z
theorem tr {α : Type} [A : Enc α] {x : α} (s : Ste M μ H M' μ' H') (h : Holds K M μ H) (r : A.R K M H v x) : A.R K M' H' v x := by
  have r1 : A.R K (fun a => M a ∨ M' a) H v x := A.set (fun a z => z.elim .inl (s.new a)) r
  have k : Keep (fun a => M a ∨ M' a) H H' := s.keep.mono fun a z => .inl (h.inM a z)
  exact A.set (fun a z => .inl (.inr z)) (A.mono k r1)
theorem SlotV.tr {s' : Slot} (s : Ste M μ H M' μ' H') (h : Holds K M μ H) (r : SlotV K M H v s') : SlotV K M' H' v s' := by
  cases s' with
  | any => trivial
  | val e x => exact Dl.tr (A := e) s h r
theorem SlotO.tr {s' : Slot} {v : Option V} (s : Ste M μ H M' μ' H') (h : Holds K M μ H) (r : SlotO K M H v s') : SlotO K M' H' v s' := by
  cases s' with
  | any => trivial
  | val e x => obtain ⟨w, e1, r⟩ := r; exact ⟨w, e1, Dl.tr (A := e) s h r⟩
end
/-- the names, the cells, the heap -/
structure EnvOk (K : PySem.W.Frag) (M : AS) (μ : List Cell) (δ : List Slot) (σ : L2.St) (H : Hp) : Prop where
  h : Holds K M μ H
  len : σ.length = δ.length
  sl : ∀ (i : Nat) (s : Slot) (v : Option V), δ[i]? = some s → σ[i]? = some v → SlotO K M H v s
section
variable {K : PySem.W.Frag} {M M' : AS} {μ μ' : List Cell} {δ : List Slot} {σ : L2.St} {H H' : Hp} {v : V}
theorem EnvOk.step (E : EnvOk K M μ δ σ H) (s : Ste M μ H M' μ' H') (h : Holds K M' μ' H') : EnvOk K M' μ' δ σ H' :=
  ⟨h, E.len, fun i t v e1 e2 => (E.sl i t v e1 e2).tr s E.h⟩
theorem EnvOk.get {α : Type} {A : Enc α} {x : α} {i : Nat} (E : EnvOk K M μ δ σ H) (h : δ[i]? = some (.val A x)) : ∃ w, σ[i]? = some (some w) ∧ A.R K M H w x := by
  have hi : i < σ.length := by rw [E.len]; exact (List.getElem?_eq_some_iff.mp h).1
  obtain ⟨w, e, r⟩ := E.sl i _ _ h (List.getElem?_eq_getElem hi)
  exact ⟨w, by rw [List.getElem?_eq_getElem hi, e], r⟩
theorem EnvOk.put {s : Slot} {i : Nat} (E : EnvOk K M μ δ σ H) (r : SlotV K M H v s) : EnvOk K M μ (δ.set i s) (σ.set i (some v)) H := by
  refine ⟨E.h, by rw [List.length_set, List.length_set]; exact E.len, fun j t w e1 e2 => ?_⟩
  by_cases hj : i = j
  · subst hj
    have hi : i < σ.length := by
      have := (List.getElem?_eq_some_iff.mp e2).1
      rwa [List.length_set] at this
    rw [List.getElem?_set_self (by rw [← E.len]; exact hi)] at e1
    rw [List.getElem?_set_self hi] at e2
    cases e1; cases e2
    cases s with
    | any => trivial
    | val e x => exact ⟨v, rfl, r⟩
  · rw [List.getElem?_set_ne hj] at e1 e2
    exact E.sl j t w e1 e2
end

inductive SlVs (K : PySem.W.Frag) (M : AS) (H : Hp) : List V → List Slot → Prop
  | nil : SlVs K M H [] []
  | cons {v : V} {s : Slot} {vs : List V} {ss : List Slot} : SlotV K M H v s → SlVs K M H vs ss → SlVs K M H (v :: vs) (s :: ss)
theorem SlVs.length {K : PySem.W.Frag} {M : AS} {H : Hp} : ∀ {vs : List V} {ss : List Slot}, SlVs K M H vs ss → vs.length = ss.length
  | _, _, .nil => rfl
  | _, _, .cons _ t => by rw [List.length_cons, List.length_cons, t.length]
theorem SlVs.tr {K : PySem.W.Frag} {M M' : AS} {μ μ' : List Cell} {H H' : Hp} (s : Ste M μ H M' μ' H') (h : Holds K M μ H) : ∀ {vs : List V} {ss : List Slot}, SlVs K M H vs ss → SlVs K M' H' vs ss
  | _, _, .nil => .nil
  | _, _, .cons r t => .cons (r.tr s h) (t.tr s h)
theorem SlVs.at {K : PySem.W.Frag} {M : AS} {H : Hp} : ∀ {vs : List V} {ss : List Slot} {i : Nat} {v : V} {s : Slot}, SlVs K M H vs ss → vs[i]? = some v → ss[i]? = some s → SlotV K M H v s
  | _, _, 0, _, _, .cons r _, e1, e2 => by
    simp only [List.getElem?_cons_zero, Option.some.injEq] at e1 e2
    subst e1 e2
    exact r
  | _, _, i + 1, _, _, .cons _ t, e1, e2 => t.at (i := i) (by simpa using e1) (by simpa using e2)
/-! ### what an expression, a test, a list of arguments comes to -/
def WE {α : Type} [Enc α] (K : PySem.W.Frag) (te : TE) (δ : List Slot) (μ : List Cell) (P : α → List Cell → Prop) : Prop :=
  ∀ (M : AS) (σ : L2.St) (H : Hp), EnvOk K M μ δ σ H → ∀ Q : VK, (∀ x μ' M' v H', P x μ' → Ste M μ H M' μ' H' → Holds K M' μ' H' → Enc.R K M' H' v x → Q v H') → te σ H Q
def WT (K : PySem.W.Frag) (tt : TT) (δ : List Slot) (μ : List Cell) (P : Bool → List Cell → Prop) : Prop :=
  ∀ (M : AS) (σ : L2.St) (H : Hp), EnvOk K M μ δ σ H → ∀ Q : Bool → Hp → Prop, (∀ b μ' M' H', P b μ' → Ste M μ H M' μ' H' → Holds K M' μ' H' → Q b H') → tt σ H Q
def WA (K : PySem.W.Frag) (ta : TA) (δ : List Slot) (μ : List Cell) (P : List Slot → List Cell → Prop) : Prop :=
  ∀ (M : AS) (σ : L2.St) (H : Hp), EnvOk K M μ δ σ H → ∀ Q : List V → Hp → Prop, (∀ xs μ' M' vs H', P xs μ' → Ste M μ H M' μ' H' → Holds K M' μ' H' → SlVs K M' H' vs xs → Q vs H') → ta σ H Q
abbrev PN := List Slot → List Cell → Prop
def WS {ρ : Type} [Enc ρ] (K : PySem.W.Frag) (ts : TS) (δ : List Slot) (μ : List Cell) (N : PN) (R : ρ → List Cell → Prop) (B C : PN) : Prop :=
  ∀ (M : AS) (σ : L2.St) (H : Hp), EnvOk K M μ δ σ H → ∀ D : Ends,
    (∀ δ' μ' M' σ' H', N δ' μ' → Ste M μ H M' μ' H' → EnvOk K M' μ' δ' σ' H' → D.nx σ' H') →
    (∀ x μ' M' v H', R x μ' → Ste M μ H M' μ' H' → Holds K M' μ' H' → Enc.R K M' H' v x → D.rt v H') →
    (∀ δ' μ' M' σ' H', B δ' μ' → Ste M μ H M' μ' H' → EnvOk K M' μ' δ' σ' H' → D.bk σ' H') →
    (∀ δ' μ' M' σ' H', C δ' μ' → Ste M μ H M' μ' H' → EnvOk K M' μ' δ' σ' H' → D.ct σ' H') → ts D σ H
/-! ### the readings that are always right -/
section
variable (X : Cx)
def cE (e : Expr) : TE := fun σ H Q => ∀ pins s, Inv X pins σ H s → wpAny (model X.prog X.w) X.A (eval e X.env) (EP X pins σ Q) X.xe s
def cT (e : Expr) : TT := fun σ H Q => ∀ whole pins s, Inv X pins σ H s → wpAny (model X.prog X.w) X.A (isTrue e X.env whole) (TP X pins σ Q) X.xe s
def cV (e : Expr) : TT := fun σ H Q => ∀ pins s, Inv X pins σ H s → wpAny (model X.prog X.w) X.A (isTrue e X.env (eval e X.env)) (TP X pins σ Q) X.xe s
def cA (es : List Expr) : TA := fun σ H Q => ∀ pos pins s, Inv X pins σ H s → wpAny (model X.prog X.w) X.A (spliced (backTo pos (starEach es X.env))) (AP X pins σ Q) X.xe s
def cS (st : Stmt) : TS := fun D σ H => ∀ pins s, Inv X pins σ H s → wpAny (model X.prog X.w) X.A (exec st X.env) (SP X pins D) X.xe s
def cSs (st : List Stmt) : TS := fun D σ H => ∀ pins s, Inv X pins σ H s → wpAny (model X.prog X.w) X.A (execs st X.env) (SP X pins D) X.xe s
end
section
variable {X : Cx}
theorem cE_pe (e : Expr) : PE X e (cE X e) := ⟨fun pins s _ _ _ I h => h pins s I⟩
theorem cV_pt (e : Expr) : PT X e (cV X e) := ⟨fun pins s _ _ _ I h => h pins s I⟩
theorem cT_pw (e : Expr) : PW X e (cT X e) := ⟨fun wh pins s _ _ _ I h => h wh pins s I⟩
theorem cA_pa (es : List Expr) : PA X es (cA X es) := ⟨fun pos pins s _ _ _ I h => h pos pins s I⟩
theorem cS_ps (st : Stmt) : PS X st (cS X st) := ⟨fun pins s _ _ _ I h => h pins s I⟩
theorem cSs_pss (st : List Stmt) : PSs X st (cSs X st) := ⟨fun pins s _ _ _ I h => h pins s I⟩
end
section
variable (X : Cx)
def DE {α : Type} [Enc α] (e : Expr) (δ : List Slot) (μ : List Cell) (P : α → List Cell → Prop) : Prop := WE X.K (cE X e) δ μ P
def DT (e : Expr) (δ : List Slot) (μ : List Cell) (P : Bool → List Cell → Prop) : Prop := WT X.K (cV X e) δ μ P
def DW (e : Expr) (δ : List Slot) (μ : List Cell) (P : Bool → List Cell → Prop) : Prop := WT X.K (cT X e) δ μ P
def DA (es : List Expr) (δ : List Slot) (μ : List Cell) (P : List Slot → List Cell → Prop) : Prop := WA X.K (cA X es) δ μ P
def DS {ρ : Type} [Enc ρ] (st : Stmt) (δ : List Slot) (μ : List Cell) (N : PN) (R : ρ → List Cell → Prop) (B C : PN) : Prop := WS X.K (cS X st) δ μ N R B C
def DB {ρ : Type} [Enc ρ] (st : List Stmt) (δ : List Slot) (μ : List Cell) (N : PN) (R : ρ → List Cell → Prop) (B C : PN) : Prop := WS X.K (cSs X st) δ μ N R B C
end
section
variable {X : Cx} {α β γ ρ : Type} [Enc α] [Enc β] [Enc γ] [Enc ρ] {e a b : Expr} {es : List Expr} {t ta tb : TE} {tt : TT} {ts : TS} {tA : TA} {δ : List Slot} {μ : List Cell} {P : α → List Cell → Prop} {PB : Bool → List Cell → Prop} {PA' : List Slot → List Cell → Prop}
  {N B C : PN} {R : ρ → List Cell → Prop} {st : Stmt} {sts : List Stmt}
theorem of_pe (h : PE X e t) (w : WE X.K t δ μ P) : DE X e δ μ P := fun M σ H E Q q pins s I => h.run pins s σ H Q I (w M σ H E Q q)
theorem of_pt (h : PT X e tt) (w : WT X.K tt δ μ PB) : DT X e δ μ PB := fun M σ H E Q q pins s I => h.run pins s σ H Q I (w M σ H E Q q)
theorem of_pw (h : PW X e tt) (w : WT X.K tt δ μ PB) : DW X e δ μ PB := fun M σ H E Q q wh pins s I => h.run wh pins s σ H Q I (w M σ H E Q q)
theorem DW.dt (h : DW X e δ μ PB) : DT X e δ μ PB := fun M σ H E Q q pins s I => h M σ H E Q q _ pins s I
theorem of_pa (h : PA X es tA) (w : WA X.K tA δ μ PA') : DA X es δ μ PA' := fun M σ H E Q q pos pins s I => h.run pos pins s σ H Q I (w M σ H E Q q)
theorem of_ps (h : PS X st ts) (w : WS X.K ts δ μ N R B C) : DS X st δ μ N R B C := fun M σ H E D n r b c pins s I => h.run pins s σ H D I (w M σ H E D n r b c)
theorem of_pss (h : PSs X sts ts) (w : WS X.K ts δ μ N R B C) : DB X sts δ μ N R B C := fun M σ H E D n r b c pins s I => h.run pins s σ H D I (w M σ H E D n r b c)

/-! ### names, constants -/
theorem de_var {i : Nat} {x : Str} {pos : Pos} {A : Enc α} {v : α} {P : α → List Cell → Prop} (h : δ[i]? = some (.val A v)) (q : P v μ) (hN : X.N[i]? = some x := by rfl) (hv : Vis X.env.scope x := by first | exact Or.inl rfl | exact Or.inr (Or.inl rfl) | exact Or.inr (Or.inr rfl))
    (hd : (x == ("__debug__" : Str)) = false := by decide) (hcd : (x == ("__classdict__" : Str)) = false := by decide) : @DE X α A (.Name x pos) δ μ P :=
  @of_pe X α A _ _ _ _ _ (pe_var hN hv hd hcd) fun M σ H E Q k => by
    obtain ⟨w, e, r⟩ := E.get h
    exact ⟨w, e, k v μ M w H q Ste.refl E.h r⟩
theorem de_c {v : V} {x : α} (he : PE X e (tC v)) (r : ∀ K M H, Enc.R K M H v x) (q : P x μ) : DE X e δ μ P :=
  of_pe he fun M σ H E Q k => k x μ M v H q Ste.refl E.h (r _ _ _)
theorem de_int {i : Int} {j pos} {P : Int → List Cell → Prop} (q : P i μ) : DE X (.Constant (.int i) j pos) δ μ P := de_c pe_int (fun _ _ _ => rfl) q
theorem de_bl {i : Bool} {j pos} {P : Bool → List Cell → Prop} (q : P i μ) : DE X (.Constant (.bool i) j pos) δ μ P := de_c pe_bl (fun _ _ _ => rfl) q
theorem de_str {i : Str} {j pos} {P : Str → List Cell → Prop} (q : P i μ) : DE X (.Constant (.str i) j pos) δ μ P := de_c pe_str (fun _ _ _ => rfl) q
theorem de_non {j pos} {P : Unit → List Cell → Prop} (q : P () μ) : DE X (.Constant .none j pos) δ μ P := de_c pe_non (fun _ _ _ => rfl) q
theorem de_nonO [NN α] {j pos} {P : Option α → List Cell → Prop} (q : P none μ) : DE X (.Constant .none j pos) δ μ P := de_c pe_non (fun _ _ _ => rfl) q
theorem de_some [NN α] {P : Option α → List Cell → Prop} (h : DE X e δ μ (fun (x : α) μ' => P (some x) μ')) : DE X e δ μ P :=
  fun M σ H E Q k => h M σ H E Q fun x μ' M' v H' p s hh r => k (some x) μ' M' v H' p s hh r
theorem DE.mono {P P' : α → List Cell → Prop} (h : DE X e δ μ P) (k : ∀ x μ', P x μ' → P' x μ') : DE X e δ μ P' := fun M σ H E Q q => h M σ H E Q fun x μ' M' v H' p => q x μ' M' v H' (k x μ' p)

/-! ### two in a row -/
theorem we2 {r : R2} {ta tb : TE} {P1 : α → List Cell → Prop} {P2 : α → List Cell → β → List Cell → Prop} {P : γ → List Cell → Prop} (ha : WE X.K ta δ μ P1) (hb : ∀ x μ1, P1 x μ1 → WE X.K tb δ μ1 (P2 x μ1))
    (hr : ∀ x μ1 y μ2, P1 x μ1 → P2 x μ1 y μ2 → ∀ (M : AS) (H : Hp) (v w : V), Holds X.K M μ2 H → Enc.R X.K M H v x → Enc.R X.K M H w y → ∀ Q : VK, (∀ z μ' M' u H', P z μ' → Ste M μ2 H M' μ' H' → Holds X.K M' μ' H' → Enc.R X.K M' H' u z → Q u H') → r v w H Q) :
    WE X.K (tOp r ta tb) δ μ P := fun M σ H E Q k =>
  ha M σ H E _ fun x μ1 M1 v H1 p1 s1 h1 r1 => hb x μ1 p1 M1 σ H1 (E.step s1 h1) _ fun y μ2 M2 w H2 p2 s2 h2 r2 =>
    hr x μ1 y μ2 p1 p2 M2 H2 v w h2 (tr s2 h1 r1) r2 Q fun z μ' M' u H' p s3 h3 r3 => k z μ' M' u H' p ((s1.trans s2).trans s3) h3 r3
/-- an operation on two values that makes nothing -/
theorem de_op {op : Operator} {r : R2} {pos : Pos} {P : γ → List Cell → Prop} (ho : OpR X (binaryOp op) r)
    (h : DE X a δ μ fun (x : α) μ1 => DE X b δ μ1 fun (y : β) μ2 => ∃ z : γ, P z μ2 ∧ ∀ (K : PySem.W.Frag) (M : AS) (H : Hp) (v w : V), Enc.R K M H v x → Enc.R K M H w y → ∀ Q : VK, (∀ u, Enc.R K M H u z → Q u H) → r v w H Q) :
    DE X (.BinOp a op b pos) δ μ P :=
  of_pe (pe_op ho (cE_pe a) (cE_pe b)) (we2 (P2 := fun x μ1 y μ2 => ∃ z : γ, P z μ2 ∧ ∀ (K : PySem.W.Frag) (M : AS) (H : Hp) (v w : V), Enc.R K M H v x → Enc.R K M H w y → ∀ Q : VK, (∀ u, Enc.R K M H u z → Q u H) → r v w H Q) h (fun x μ1 p => p)
    fun x μ1 y μ2 _ p2 M H v w hh r1 r2 Q k => by
      obtain ⟨z, p, hz⟩ := p2
      exact hz X.K M H v w r1 r2 Q fun u ru => k z μ2 M u H p Ste.refl hh ru)
theorem de_cmp {op : CmpOp} {r : R2} {pos : Pos} {P : γ → List Cell → Prop} (ho : OpR X (compareOp op) r)
    (h : DE X a δ μ fun (x : α) μ1 => DE X b δ μ1 fun (y : β) μ2 => ∃ z : γ, P z μ2 ∧ ∀ (K : PySem.W.Frag) (M : AS) (H : Hp) (v w : V), Enc.R K M H v x → Enc.R K M H w y → ∀ Q : VK, (∀ u, Enc.R K M H u z → Q u H) → r v w H Q) (hm : behindInMarks op b = false) :
    DE X (.Compare a [op] [b] pos) δ μ P :=
  of_pe (pe_cmpR ho (cE_pe a) (cE_pe b) hm) (we2 (P2 := fun x μ1 y μ2 => ∃ z : γ, P z μ2 ∧ ∀ (K : PySem.W.Frag) (M : AS) (H : Hp) (v w : V), Enc.R K M H v x → Enc.R K M H w y → ∀ Q : VK, (∀ u, Enc.R K M H u z → Q u H) → r v w H Q) h (fun x μ1 p => p)
    fun x μ1 y μ2 _ p2 M H v w hh r1 r2 Q k => by
      obtain ⟨z, p, hz⟩ := p2
      exact hz X.K M H v w r1 r2 Q fun u ru => k z μ2 M u H p Ste.refl hh ru)
theorem iiI {g : Int → Int → Int} {x y : Int} : ∀ (K : PySem.W.Frag) (M : AS) (H : Hp) (v w : V), Enc.R K M H v x → Enc.R K M H w y → ∀ Q : VK, (∀ u, Enc.R K M H u (g x y) → Q u H) → rI0 (fun i j => .int (g i j)) v w H Q := fun K M H v w r1 r2 Q k => ⟨x, y, r1, r2, k _ rfl⟩
theorem iiC {C : Int → Int → Prop} {g : Int → Int → Int} {x y : Int} (c : C x y) : ∀ (K : PySem.W.Frag) (M : AS) (H : Hp) (v w : V), Enc.R K M H v x → Enc.R K M H w y → ∀ Q : VK, (∀ u, Enc.R K M H u (g x y) → Q u H) → rI C (fun i j => .int (g i j)) v w H Q := fun K M H v w r1 r2 Q k => ⟨x, y, r1, r2, c, k _ rfl⟩
theorem iiB {g : Int → Int → Bool} {x y : Int} : ∀ (K : PySem.W.Frag) (M : AS) (H : Hp) (v w : V), Enc.R K M H v x → Enc.R K M H w y → ∀ Q : VK, (∀ u, Enc.R K M H u (g x y) → Q u H) → rI0 (fun i j => .bl (g i j)) v w H Q := fun K M H v w r1 r2 Q k => ⟨x, y, r1, r2, k _ rfl⟩
section
variable {pos : Pos} {P : Int → List Cell → Prop} {PB : Bool → List Cell → Prop}
theorem de_add (h : DE X a δ μ fun (x : Int) μ1 => DE X b δ μ1 fun (y : Int) μ2 => P (x + y) μ2) : DE X (.BinOp a .Add b pos) δ μ P :=
  de_op op_add (h.mono fun x μ1 h => h.mono fun y μ2 p => ⟨_, p, iiI (g := fun i j => i + j)⟩)
theorem de_sub (h : DE X a δ μ fun (x : Int) μ1 => DE X b δ μ1 fun (y : Int) μ2 => P (x - y) μ2) : DE X (.BinOp a .Sub b pos) δ μ P :=
  de_op op_sub (h.mono fun x μ1 h => h.mono fun y μ2 p => ⟨_, p, iiI (g := fun i j => i - j)⟩)
theorem de_mul (h : DE X a δ μ fun (x : Int) μ1 => DE X b δ μ1 fun (y : Int) μ2 => CMulX x y ∧ P (x * y) μ2) : DE X (.BinOp a .Mult b pos) δ μ P :=
  de_op op_mulX (h.mono fun x μ1 h => h.mono fun y μ2 p => ⟨_, p.2, iiC (g := fun i j => i * j) p.1⟩)
/-- one side small -/
theorem de_mulS (h : DE X a δ μ fun (x : Int) μ1 => DE X b δ μ1 fun (y : Int) μ2 => CMul x y ∧ P (x * y) μ2) : DE X (.BinOp a .Mult b pos) δ μ P :=
  de_op op_mul (h.mono fun x μ1 h => h.mono fun y μ2 p => ⟨_, p.2, iiC (g := fun i j => i * j) p.1⟩)
theorem de_div (h : DE X a δ μ fun (x : Int) μ1 => DE X b δ μ1 fun (y : Int) μ2 => CDivW x y ∧ P (x / y) μ2) : DE X (.BinOp a .FloorDiv b pos) δ μ P :=
  de_op op_fdivW (h.mono fun x μ1 h => h.mono fun y μ2 p => ⟨_, p.2, iiC (g := fun i j => i / j) p.1⟩)
theorem de_mod (h : DE X a δ μ fun (x : Int) μ1 => DE X b δ μ1 fun (y : Int) μ2 => 0 < y ∧ P (x % y) μ2) : DE X (.BinOp a .Mod b pos) δ μ P :=
  de_op op_mod (h.mono fun x μ1 h => h.mono fun y μ2 p => ⟨_, p.2, iiC (C := fun _ j => 0 < j) (g := fun i j => i % j) p.1⟩)
theorem de_lt (h : DE X a δ μ fun (x : Int) μ1 => DE X b δ μ1 fun (y : Int) μ2 => PB (decide (x < y)) μ2) : DE X (.Compare a [.Lt] [b] pos) δ μ PB :=
  de_cmp op_lt (h.mono fun x μ1 h => h.mono fun y μ2 p => ⟨_, p, iiB (g := fun i j => decide (i < j))⟩) (nomark b)
theorem de_le (h : DE X a δ μ fun (x : Int) μ1 => DE X b δ μ1 fun (y : Int) μ2 => PB (decide (x ≤ y)) μ2) : DE X (.Compare a [.LtE] [b] pos) δ μ PB :=
  de_cmp op_le (h.mono fun x μ1 h => h.mono fun y μ2 p => ⟨_, p, iiB (g := fun i j => decide (i ≤ j))⟩) (nomark b)
theorem de_gt (h : DE X a δ μ fun (x : Int) μ1 => DE X b δ μ1 fun (y : Int) μ2 => PB (decide (y < x)) μ2) : DE X (.Compare a [.Gt] [b] pos) δ μ PB :=
  de_cmp op_gt (h.mono fun x μ1 h => h.mono fun y μ2 p => ⟨_, p, iiB (g := fun i j => decide (j < i))⟩) (nomark b)
theorem de_ge (h : DE X a δ μ fun (x : Int) μ1 => DE X b δ μ1 fun (y : Int) μ2 => PB (decide (y ≤ x)) μ2) : DE X (.Compare a [.GtE] [b] pos) δ μ PB :=
  de_cmp op_ge (h.mono fun x μ1 h => h.mono fun y μ2 p => ⟨_, p, iiB (g := fun i j => decide (j ≤ i))⟩) (nomark b)
theorem de_eqI (h : DE X a δ μ fun (x : Int) μ1 => DE X b δ μ1 fun (y : Int) μ2 => PB (decide (x = y)) μ2) : DE X (.Compare a [.Eq] [b] pos) δ μ PB :=
  de_cmp op_eq (h.mono fun x μ1 h => h.mono fun y μ2 p => ⟨_, p, fun K M H v w r1 r2 Q k => by
    cases r1; cases r2
    refine ⟨rfl, k _ ?_⟩
    show V.bl _ = V.bl _
    simp only [V.int.injEq]⟩) (nomark b)
theorem de_neI (h : DE X a δ μ fun (x : Int) μ1 => DE X b δ μ1 fun (y : Int) μ2 => PB (!decide (x = y)) μ2) : DE X (.Compare a [.NotEq] [b] pos) δ μ PB :=
  de_cmp op_ne (h.mono fun x μ1 h => h.mono fun y μ2 p => ⟨_, p, fun K M H v w r1 r2 Q k => by
    cases r1; cases r2
    refine ⟨rfl, k _ ?_⟩
    show V.bl _ = V.bl _
    simp only [V.int.injEq]⟩) (nomark b)
theorem we1 {r : V → Hp → VK → Prop} {ta : TE} {P1 : α → List Cell → Prop} {P : γ → List Cell → Prop} (ha : WE X.K ta δ μ P1)
    (hr : ∀ x μ1, P1 x μ1 → ∀ (M : AS) (H : Hp) (v : V), Holds X.K M μ1 H → Enc.R X.K M H v x → ∀ Q : VK, (∀ z μ' M' u H', P z μ' → Ste M μ1 H M' μ' H' → Holds X.K M' μ' H' → Enc.R X.K M' H' u z → Q u H') → r v H Q) :
    WE X.K (tUn r ta) δ μ P := fun M σ H E Q k =>
  ha M σ H E _ fun x μ1 M1 v H1 p1 s1 h1 r1 => hr x μ1 p1 M1 H1 v h1 r1 Q fun z μ' M' u H' p s3 h3 r3 => k z μ' M' u H' p (s1.trans s3) h3 r3
theorem de_neg (h : DE X a δ μ fun (x : Int) μ1 => P (-x) μ1) : DE X (.UnaryOp .USub a pos) δ μ P :=
  of_pe (pe_un un_neg (cE_pe a)) (we1 h fun x μ1 p M H v hh r1 Q k => by
    cases r1
    exact ⟨x, rfl, k _ μ1 M _ H p Ste.refl hh rfl⟩)
/-- is None, is not None -/
theorem de_isN [NN α] {j pos'} (h : DE X a δ μ fun (x : Option α) μ1 => PB x.isNone μ1) : DE X (.Compare a [.Is] [.Constant .none j pos'] pos) δ μ PB :=
  of_pe (pe_cmp (pc_isN (cE_pe a))) fun M σ H E Q k => h M σ H E _ fun x μ1 M1 v H1 p1 s1 h1 r1 => k x.isNone μ1 M1 _ H1 p1 s1 h1 (by
    cases x with
    | none => cases r1; rfl
    | some y =>
      have := NN.nn (x := y) r1
      show V.bl (decide (v = V.non)) = V.bl false
      rw [decide_eq_false this])
theorem de_isNot [NN α] {j pos'} (h : DE X a δ μ fun (x : Option α) μ1 => PB x.isSome μ1) : DE X (.Compare a [.IsNot] [.Constant .none j pos'] pos) δ μ PB :=
  of_pe (pe_cmp (pc_notN (cE_pe a))) fun M σ H E Q k => h M σ H E _ fun x μ1 M1 v H1 p1 s1 h1 r1 => k x.isSome μ1 M1 _ H1 p1 s1 h1 (by
    cases x with
    | none => cases r1; rfl
    | some y =>
      have := NN.nn (x := y) r1
      show V.bl (!decide (v = V.non)) = V.bl true
      rw [decide_eq_false this]
      rfl)
/-! ### tests -/
/-- a bool as a test -/
theorem dt_val (h : DE X a δ μ PB) (he : ∀ whole, isTrue a X.env whole = (do let v ← whole; standAt a.pos; holding [v] (truthy v)) := by intro _; rfl) : DT X a δ μ PB :=
  of_pt (pt_val (cE_pe a) he) fun M σ H E Q k => h M σ H E _ fun x μ1 M1 v H1 p1 s1 h1 r1 => ⟨x, r1, k x μ1 M1 H1 p1 s1 h1⟩
/-- a comparison as a test -/
theorem wt2 {r : R2} {ta tb : TE} {P1 : α → List Cell → Prop} {P2 : α → List Cell → β → List Cell → Prop} (ha : WE X.K ta δ μ P1) (hb : ∀ x μ1, P1 x μ1 → WE X.K tb δ μ1 (P2 x μ1))
    (hr : ∀ x μ1 y μ2, P1 x μ1 → P2 x μ1 y μ2 → ∀ (M : AS) (H : Hp) (v w : V), Holds X.K M μ2 H → Enc.R X.K M H v x → Enc.R X.K M H w y → ∀ Q : VK, (∀ z μ' M' H', PB z μ' → Ste M μ2 H M' μ' H' → Holds X.K M' μ' H' → Q (.bl z) H') → r v w H Q) :
    WT X.K (tTest (tOp r ta tb)) δ μ PB := fun M σ H E Q k =>
  ha M σ H E _ fun x μ1 M1 v H1 p1 s1 h1 r1 => hb x μ1 p1 M1 σ H1 (E.step s1 h1) _ fun y μ2 M2 w H2 p2 s2 h2 r2 =>
    hr x μ1 y μ2 p1 p2 M2 H2 v w h2 (tr s2 h1 r1) r2 _ fun z μ' M' H' p s3 h3 => ⟨z, rfl, k z μ' M' H' p ((s1.trans s2).trans s3) h3⟩
/-- any comparison whose value is known, as a test -/
theorem dt_cmp {op : CmpOp} {r : R2} (ho : OpR X (compareOp op) r)
    (h : DE X a δ μ fun (x : α) μ1 => DE X b δ μ1 fun (y : β) μ2 => ∃ z : Bool, PB z μ2 ∧ ∀ (K : PySem.W.Frag) (M : AS) (H : Hp) (v w : V), Enc.R K M H v x → Enc.R K M H w y → ∀ Q : VK, (∀ u, Enc.R K M H u z → Q u H) → r v w H Q) (hm : behindInMarks op b = false) :
    DT X (.Compare a [op] [b] pos) δ μ PB :=
  of_pt (pt_cmpR ho (cE_pe a) (cE_pe b) hm) (wt2 (P2 := fun x μ1 y μ2 => ∃ z : Bool, PB z μ2 ∧ ∀ (K : PySem.W.Frag) (M : AS) (H : Hp) (v w : V), Enc.R K M H v x → Enc.R K M H w y → ∀ Q : VK, (∀ u, Enc.R K M H u z → Q u H) → r v w H Q) h (fun x μ1 p => p)
    fun x μ1 y μ2 _ p2 M H v w hh r1 r2 Q k => by
      obtain ⟨z, p, hz⟩ := p2
      exact hz X.K M H v w r1 r2 Q fun u ru => by
        cases ru
        exact k z μ2 M H p Ste.refl hh)
theorem dt_lt (h : DE X a δ μ fun (x : Int) μ1 => DE X b δ μ1 fun (y : Int) μ2 => PB (decide (x < y)) μ2) : DT X (.Compare a [.Lt] [b] pos) δ μ PB :=
  dt_cmp op_lt (h.mono fun x μ1 h => h.mono fun y μ2 p => ⟨_, p, iiB (g := fun i j => decide (i < j))⟩) (nomark b)
theorem dt_le (h : DE X a δ μ fun (x : Int) μ1 => DE X b δ μ1 fun (y : Int) μ2 => PB (decide (x ≤ y)) μ2) : DT X (.Compare a [.LtE] [b] pos) δ μ PB :=
  dt_cmp op_le (h.mono fun x μ1 h => h.mono fun y μ2 p => ⟨_, p, iiB (g := fun i j => decide (i ≤ j))⟩) (nomark b)
theorem dt_gt (h : DE X a δ μ fun (x : Int) μ1 => DE X b δ μ1 fun (y : Int) μ2 => PB (decide (y < x)) μ2) : DT X (.Compare a [.Gt] [b] pos) δ μ PB :=
  dt_cmp op_gt (h.mono fun x μ1 h => h.mono fun y μ2 p => ⟨_, p, iiB (g := fun i j => decide (j < i))⟩) (nomark b)
theorem dt_ge (h : DE X a δ μ fun (x : Int) μ1 => DE X b δ μ1 fun (y : Int) μ2 => PB (decide (y ≤ x)) μ2) : DT X (.Compare a [.GtE] [b] pos) δ μ PB :=
  dt_cmp op_ge (h.mono fun x μ1 h => h.mono fun y μ2 p => ⟨_, p, iiB (g := fun i j => decide (j ≤ i))⟩) (nomark b)
theorem dt_eqI (h : DE X a δ μ fun (x : Int) μ1 => DE X b δ μ1 fun (y : Int) μ2 => PB (decide (x = y)) μ2) : DT X (.Compare a [.Eq] [b] pos) δ μ PB :=
  dt_cmp op_eq (h.mono fun x μ1 h => h.mono fun y μ2 p => ⟨_, p, fun K M H v w r1 r2 Q k => by
    cases r1; cases r2
    refine ⟨rfl, k _ ?_⟩
    show V.bl _ = V.bl _
    simp only [V.int.injEq]⟩) (nomark b)
theorem dt_neI (h : DE X a δ μ fun (x : Int) μ1 => DE X b δ μ1 fun (y : Int) μ2 => PB (!decide (x = y)) μ2) : DT X (.Compare a [.NotEq] [b] pos) δ μ PB :=
  dt_cmp op_ne (h.mono fun x μ1 h => h.mono fun y μ2 p => ⟨_, p, fun K M H v w r1 r2 Q k => by
    cases r1; cases r2
    refine ⟨rfl, k _ ?_⟩
    show V.bl _ = V.bl _
    simp only [V.int.injEq]⟩) (nomark b)
theorem dt_isN [NN α] {j pos'} (h : DE X a δ μ fun (x : Option α) μ1 => PB x.isNone μ1) : DT X (.Compare a [.Is] [.Constant .none j pos'] pos) δ μ PB :=
  of_pt (pt_cmp (pc_isN (cE_pe a))) fun M σ H E Q k => h M σ H E _ fun x μ1 M1 v H1 p1 s1 h1 r1 => ⟨x.isNone, by
    cases x with
    | none => cases r1; rfl
    | some y =>
      have := NN.nn (x := y) r1
      show V.bl (decide (v = V.non)) = V.bl false
      rw [decide_eq_false this], k x.isNone μ1 M1 H1 p1 s1 h1⟩
theorem dt_isNot [NN α] {j pos'} (h : DE X a δ μ fun (x : Option α) μ1 => PB x.isSome μ1) : DT X (.Compare a [.IsNot] [.Constant .none j pos'] pos) δ μ PB :=
  of_pt (pt_cmp (pc_notN (cE_pe a))) fun M σ H E Q k => h M σ H E _ fun x μ1 M1 v H1 p1 s1 h1 r1 => ⟨x.isSome, by
    cases x with
    | none => cases r1; rfl
    | some y =>
      have := NN.nn (x := y) r1
      show V.bl (!decide (v = V.non)) = V.bl true
      rw [decide_eq_false this]
      rfl, k x.isSome μ1 M1 H1 p1 s1 h1⟩
theorem dt_not (h : DT X a δ μ fun x μ1 => PB (!x) μ1) : DT X (.UnaryOp .Not a pos) δ μ PB :=
  of_pt (pt_not (cV_pt a)) fun M σ H E Q k => h M σ H E _ fun x μ1 M1 H1 p1 s1 h1 => k (!x) μ1 M1 H1 p1 s1 h1
theorem dw_and1 (h : DT X a δ μ PB) : DW X (.BoolOp .And [a] pos) δ μ PB := of_pw (pw_and1 (cV_pt a)) h
theorem dw_or1 (h : DT X a δ μ PB) : DW X (.BoolOp .Or [a] pos) δ μ PB := of_pw (pw_or1 (cV_pt a)) h
theorem dw_and {rest : List Expr} (h : DT X a δ μ fun x μ1 => (x = true → DW X (.BoolOp .And (b :: rest) pos) δ μ1 PB) ∧ (x = false → PB false μ1)) : DW X (.BoolOp .And (a :: b :: rest) pos) δ μ PB :=
  of_pw (pw_and (cV_pt a) (cT_pw _)) fun M σ H E Q k => h M σ H E _ fun x μ1 M1 H1 p1 s1 h1 => by
    cases x with
    | true => exact iteT (p1.1 rfl M1 σ H1 (E.step s1 h1) Q fun z μ' M' H' p s2 h2 => k z μ' M' H' p (s1.trans s2) h2)
    | false => exact iteF (k false μ1 M1 H1 (p1.2 rfl) s1 h1)
theorem dw_or {rest : List Expr} (h : DT X a δ μ fun x μ1 => (x = true → PB true μ1) ∧ (x = false → DW X (.BoolOp .Or (b :: rest) pos) δ μ1 PB)) : DW X (.BoolOp .Or (a :: b :: rest) pos) δ μ PB :=
  of_pw (pw_or (cV_pt a) (cT_pw _)) fun M σ H E Q k => h M σ H E _ fun x μ1 M1 H1 p1 s1 h1 => by
    cases x with
    | true => exact iteT (k true μ1 M1 H1 (p1.1 rfl) s1 h1)
    | false => exact iteF (p1.2 rfl M1 σ H1 (E.step s1 h1) Q fun z μ' M' H' p s2 h2 => k z μ' M' H' p (s1.trans s2) h2)
/-- and, or, not as values -/
theorem de_one {op} {P : α → List Cell → Prop} (h : DE X a δ μ P) : DE X (.BoolOp op [a] pos) δ μ P := of_pe (pe_one (cE_pe a)) h
theorem de_and {rest : List Expr} (h : DE X a δ μ fun (x : Bool) μ1 => (x = true → DE X (.BoolOp .And (b :: rest) pos) δ μ1 PB) ∧ (x = false → PB false μ1)) : DE X (.BoolOp .And (a :: b :: rest) pos) δ μ PB :=
  of_pe (pe_and (cE_pe a) (cE_pe _)) fun M σ H E Q k => h M σ H E _ fun x μ1 M1 v H1 p1 s1 h1 r1 => ⟨x, r1, by
    cases x with
    | true => exact iteT (p1.1 rfl M1 σ H1 (E.step s1 h1) Q fun z μ' M' u H' p s2 h2 => k z μ' M' u H' p (s1.trans s2) h2)
    | false => exact iteF (k false μ1 M1 _ H1 (p1.2 rfl) s1 h1 rfl)⟩
theorem de_or {rest : List Expr} (h : DE X a δ μ fun (x : Bool) μ1 => (x = true → PB true μ1) ∧ (x = false → DE X (.BoolOp .Or (b :: rest) pos) δ μ1 PB)) : DE X (.BoolOp .Or (a :: b :: rest) pos) δ μ PB :=
  of_pe (pe_or (cE_pe a) (cE_pe _)) fun M σ H E Q k => h M σ H E _ fun x μ1 M1 v H1 p1 s1 h1 r1 => ⟨x, r1, by
    cases x with
    | true => exact iteT (k true μ1 M1 _ H1 (p1.1 rfl) s1 h1 rfl)
    | false => exact iteF (p1.2 rfl M1 σ H1 (E.step s1 h1) Q fun z μ' M' u H' p s2 h2 => k z μ' M' u H' p (s1.trans s2) h2)⟩
theorem de_not (h : DE X a δ μ fun (x : Bool) μ1 => PB (!x) μ1) : DE X (.UnaryOp .Not a pos) δ μ PB :=
  of_pe (pe_not (cE_pe a)) fun M σ H E Q k => h M σ H E _ fun x μ1 M1 v H1 p1 s1 h1 r1 => ⟨x, r1, k (!x) μ1 M1 _ H1 p1 s1 h1 rfl⟩
theorem de_if {c : Expr} {P : α → List Cell → Prop} (h : DT X c δ μ fun x μ1 => (x = true → DE X a δ μ1 P) ∧ (x = false → DE X b δ μ1 P)) : DE X (.IfExp c a b pos) δ μ P :=
  of_pe (pe_ifExp (cV_pt c) (cE_pe a) (cE_pe b)) fun M σ H E Q k => h M σ H E _ fun x μ1 M1 H1 p1 s1 h1 => by
    cases x with
    | true => exact iteT (p1.1 rfl M1 σ H1 (E.step s1 h1) Q fun z μ' M' u H' p s2 h2 => k z μ' M' u H' p (s1.trans s2) h2)
    | false => exact iteF (p1.2 rfl M1 σ H1 (E.step s1 h1) Q fun z μ' M' u H' p s2 h2 => k z μ' M' u H' p (s1.trans s2) h2)
end
/-! ### arguments -/
theorem da_nil {P : List Slot → List Cell → Prop} (q : P [] μ) : DA X [] δ μ P := of_pa pa_nil fun M σ H E Q k => k [] μ M [] H q Ste.refl E.h .nil
theorem da_cons {P : List Slot → List Cell → Prop} {A : Enc α} (h : @DE X α A a δ μ fun x μ1 => DA X es δ μ1 fun xs μ2 => P (.val A x :: xs) μ2) (hs : starEach (a :: es) X.env = (false, eval a X.env) :: starEach es X.env := by rfl) : DA X (a :: es) δ μ P :=
  of_pa (pa_cons (cE_pe a) (cA_pa es) hs) fun M σ H E Q k => h M σ H E _ fun x μ1 M1 v H1 p1 s1 h1 r1 => p1 M1 σ H1 (E.step s1 h1) _ fun xs μ2 M2 vs H2 p2 s2 h2 r2 =>
    k _ μ2 M2 _ H2 p2 (s1.trans s2) h2 (.cons (Dl.tr (A := A) s2 h1 r1) r2)
end
end Dl
namespace Dl
open PySem PySem.Spec PyProof.Rows L2
theorem SlVs.ex : ∀ {K : PySem.W.Frag} {M : AS} {H : Hp} {α : Type} [A : Enc α] {vs : List V} {xs : List α}, SlVs K M H vs (xs.map fun x => Slot.val A x) → Paired (A.R K M H) vs xs
  | _, _, _, _, _, _, [], h => by cases h; exact .nil
  | _, _, _, _, _, _, x :: xs, h => by
    cases h with
    | cons r t => exact .cons r (SlVs.ex t)
section
variable {X : Cx} {α β γ ρ : Type} [Enc α] [Enc β] [Enc γ] [Enc ρ] {e a b : Expr} {es : List Expr} {δ : List Slot} {μ : List Cell} {P : α → List Cell → Prop} {PB : Bool → List Cell → Prop}
  {N B C : PN} {R : ρ → List Cell → Prop} {st : Stmt} {sts s1 s2 : List Stmt} {pos : Pos}
/-! ### statements -/
theorem db_nil (q : N δ μ) : DB X [] δ μ N R B C := of_pss pss_nil fun M σ H E D n r b c => n δ μ M σ H q Ste.refl E
theorem DS.mono {N' B' C' : PN} {R' : ρ → List Cell → Prop} (h : DS X st δ μ N R B C) (n : ∀ δ μ, N δ μ → N' δ μ) (r : ∀ x μ, R x μ → R' x μ) (b : ∀ δ μ, B δ μ → B' δ μ) (c : ∀ δ μ, C δ μ → C' δ μ) : DS X st δ μ N' R' B' C' :=
  fun M σ H E D n' r' b' c' => h M σ H E D (fun δ' μ' M' σ' H' p => n' δ' μ' M' σ' H' (n _ _ p)) (fun x μ' M' v H' p => r' x μ' M' v H' (r _ _ p)) (fun δ' μ' M' σ' H' p => b' δ' μ' M' σ' H' (b _ _ p)) (fun δ' μ' M' σ' H' p => c' δ' μ' M' σ' H' (c _ _ p))
theorem DB.mono {N' B' C' : PN} {R' : ρ → List Cell → Prop} (h : DB X sts δ μ N R B C) (n : ∀ δ μ, N δ μ → N' δ μ) (r : ∀ x μ, R x μ → R' x μ) (b : ∀ δ μ, B δ μ → B' δ μ) (c : ∀ δ μ, C δ μ → C' δ μ) : DB X sts δ μ N' R' B' C' :=
  fun M σ H E D n' r' b' c' => h M σ H E D (fun δ' μ' M' σ' H' p => n' δ' μ' M' σ' H' (n _ _ p)) (fun x μ' M' v H' p => r' x μ' M' v H' (r _ _ p)) (fun δ' μ' M' σ' H' p => b' δ' μ' M' σ' H' (b _ _ p)) (fun δ' μ' M' σ' H' p => c' δ' μ' M' σ' H' (c _ _ p))
theorem db_cons (h : DS X st δ μ (fun δ' μ' => DB X sts δ' μ' N R B C) R B C) : DB X (st :: sts) δ μ N R B C :=
  of_pss (pss_cons (cS_ps st) (cSs_pss sts)) fun M σ H E D n r b c => h M σ H E { D with nx := cSs X sts D }
    (fun δ' μ' M' σ' H' p s E' => p M' σ' H' E' D (fun _ _ _ _ _ p2 s2 E2 => n _ _ _ _ _ p2 (s.trans s2) E2) (fun _ _ _ _ _ p2 s2 h2 r2 => r _ _ _ _ _ p2 (s.trans s2) h2 r2)
      (fun _ _ _ _ _ p2 s2 E2 => b _ _ _ _ _ p2 (s.trans s2) E2) (fun _ _ _ _ _ p2 s2 E2 => c _ _ _ _ _ p2 (s.trans s2) E2)) r b c
theorem db_one (h : DS X st δ μ N R B C) : DB X [st] δ μ N R B C := of_pss (pss_one (cS_ps st)) h
theorem ds_pass (q : N δ μ) : DS X (.Pass pos) δ μ N R B C := of_ps ps_pass fun M σ H E D n r b c => n δ μ M σ H q Ste.refl E
theorem ds_break (q : B δ μ) : DS X (.Break pos) δ μ N R B C := of_ps ps_break fun M σ H E D n r b c => b δ μ M σ H q Ste.refl E
theorem ds_continue (q : C δ μ) : DS X (.Continue pos) δ μ N R B C := of_ps ps_continue fun M σ H E D n r b c => c δ μ M σ H q Ste.refl E
theorem ds_expr (h : DE X e δ μ fun (x : α) μ' => N δ μ') (hs : swapsWith e none pos.line X.env = pure false := by rfl) : DS X (.Expr e pos) δ μ N R B C :=
  of_ps (ps_expr (cE_pe e) hs) fun M σ H E D n r b c => h M σ H E _ fun x μ' M' v H' p s hh rr => n δ μ' M' σ H' p s (E.step s hh)
theorem ds_ret {R : α → List Cell → Prop} (h : DE X e δ μ R) : DS X (.Return (some e) pos) δ μ N R B C :=
  of_ps (ps_ret (cE_pe e)) fun M σ H E D n r b c => h M σ H E _ fun x μ' M' v H' p s hh rr => r x μ' M' v H' p s hh rr
theorem ds_retN {R : Unit → List Cell → Prop} (q : R () μ) : DS X (.Return none pos) δ μ N R B C :=
  of_ps ps_retN fun M σ H E D n r b c => r () μ M .non H q Ste.refl E.h rfl
theorem ds_if {c : Expr} (h : DT X c δ μ fun x μ1 => (x = true → DB X s1 δ μ1 N R B C) ∧ (x = false → DB X s2 δ μ1 N R B C)) : DS X (.If c s1 s2 pos) δ μ N R B C :=
  of_ps (ps_if (cV_pt c) (cSs_pss s1) (cSs_pss s2)) fun M σ H E D n r b c => h M σ H E _ fun x μ1 M1 H1 p s hh => by
    have go : ∀ {sts : List Stmt}, DB X sts δ μ1 N R B C → cSs X sts D σ H1 := fun p => p M1 σ H1 (E.step s hh) D (fun _ _ _ _ _ p2 s2 E2 => n _ _ _ _ _ p2 (s.trans s2) E2) (fun _ _ _ _ _ p2 s2 h2 r2 => r _ _ _ _ _ p2 (s.trans s2) h2 r2)
      (fun _ _ _ _ _ p2 s2 E2 => b _ _ _ _ _ p2 (s.trans s2) E2) (fun _ _ _ _ _ p2 s2 E2 => c _ _ _ _ _ p2 (s.trans s2) E2)
    cases x with
    | true => exact iteT (go (p.1 rfl))
    | false => exact iteF (go (p.2 rfl))
theorem ds_set {A : Enc α} {i : Nat} {x : Str} {pos' : Pos} (hN : X.N.Nodup) (h : @DE X α A e δ μ fun v μ' => N (δ.set i (.val A v)) μ') (hi : X.N[i]? = some x := by rfl) (hx : Loc X.env.scope x := by first | exact Or.inl rfl | exact Or.inr rfl) (hs : swapsWith e (some (.Name x pos')) pos.line X.env = pure false := by rfl)
    (hf : X.fn x = true ∨ X.env.scope.names.lookup x = some .local := by first | exact .inl rfl | exact .inr rfl) : DS X (.Assign [.Name x pos'] e pos) δ μ N R B C :=
  of_ps (ps_set hN hi hx (cE_pe e) hs hf) fun M σ H E D n r b c => h M σ H E _ fun x μ' M' v H' p s hh rr => n _ μ' M' _ H' p s ((E.step s hh).put rr)
theorem ds_par {A : Enc α} {B' : Enc β} {i j : Nat} {x y : Str} {px py pt : Pos} {kt k2 pt2} (hc : X.calm = true) (hN : X.N.Nodup) (hij : i ≠ j)
    (h : @DE X α A a δ μ fun v μ1 => @DE X β B' b δ μ1 fun w μ2 => N ((δ.set i (.val A v)).set j (.val B' w)) μ2)
    (hw : swappedStores [.Tuple [.Name x px, .Name y py] kt pt] (.Tuple [a, b] k2 pt2) X.env = pure (some [x, y])) (hi : X.N[i]? = some x := by rfl) (hj : X.N[j]? = some y := by rfl)
    (hx : X.env.scope.names.lookup x = some .local := by rfl) (hy : X.env.scope.names.lookup y = some .local := by rfl)
    (hs : swapsWithSole [.Tuple [.Name x px, .Name y py] kt pt] (.Tuple [a, b] k2 pt2) pos.line X.env = pure false := by rfl)
    (h1 : starEach [a, b] X.env = (false, eval a X.env) :: starEach [b] X.env := by rfl) (h2 : starEach [b] X.env = (false, eval b X.env) :: starEach [] X.env := by rfl) :
    DS X (.Assign [.Tuple [.Name x px, .Name y py] kt pt] (.Tuple [a, b] k2 pt2) pos) δ μ N R B C :=
  of_ps (ps_par hc hN hi hj hij hx hy (pa_cons (cE_pe a) (pa_cons (cE_pe b) pa_nil h2) h1) hw hs) fun M σ H E D n r b' c => h M σ H E _ fun v μ1 M1 v1 H1 p1 s1 hh1 r1 =>
    p1 M1 σ H1 (E.step s1 hh1) _ fun w μ2 M2 w1 H2 p2 s2 hh2 r2 => ⟨v1, w1, rfl, n _ μ2 M2 _ H2 p2 (s1.trans s2)
      (((E.step (s1.trans s2) hh2).put (s := .val A v) (Dl.tr (A := A) s2 hh1 r1)).put (s := .val B' w) r2)⟩
/-! ### tuples, lists -/
theorem foot_alloc {K : PySem.W.Frag} {M : AS} {H : Hp} (h : Holds K M μ H) {p : Addr} (hp : H p = none) (o : HO) : Ste M μ H M μ (upd H p o) where
  keep := fun a u e _ => by rw [upd_ne (ne_of_none e hp)]; exact e
  al := fun a n => by
    by_cases e : a = p
    · subst e; exact absurd hp n
    · rw [upd_ne e]; exact n
  new := fun a z => .inl z
  foo := fun a z => .inl z
  up := fun a z _ _ => z
theorem Holds.alloc {K : PySem.W.Frag} {M : AS} {H : Hp} (h : Holds K M μ H) {p : Addr} (hp : H p = none) (o : HO) : Holds K M μ (upd H p o) where
  cell := fun c hc => c.mono (fun a u e _ => by rw [upd_ne (ne_of_none e hp)]; exact e) (h.cell c hc)
  inM := h.inM
  al := fun a z => (foot_alloc h hp o).al a (h.al a z)
  dj := h.dj
/-- a tuple of two -/
theorem de_tup2 {k : Nat} {P : α × β → List Cell → Prop} (h : DE X a δ μ fun (x : α) μ1 => DE X b δ μ1 fun (y : β) μ2 => P (x, y) μ2)
    (h1 : starEach [a, b] X.env = (false, eval a X.env) :: starEach [b] X.env := by rfl) (h2 : starEach [b] X.env = (false, eval b X.env) :: starEach [] X.env := by rfl) : DE X (.Tuple [a, b] k pos) δ μ P :=
  of_pe (pe_tup (pa_cons (cE_pe a) (pa_cons (cE_pe b) pa_nil h2) h1)) fun M σ H E Q q => h M σ H E _ fun x μ1 M1 v1 H1 p1 s1 hh1 r1 =>
    p1 M1 σ H1 (E.step s1 hh1) _ fun y μ2 M2 v2 H2 p2 s2 hh2 r2 => ⟨by show 2 ≤ sizeLine; decide, fun p hp => by
      have s3 := foot_alloc hh2 hp (.tup [v1, v2])
      refine q (x, y) μ2 M2 _ _ p2 ((s1.trans s2).trans s3) (hh2.alloc hp _) ⟨p, v1, v2, rfl, SqT.of upd_same, ?_, ?_⟩
      · exact tr (s2.trans s3) hh1 r1
      · exact tr s3 hh2 r2⟩
/-- a list or tuple display: its items -/
theorem de_tupN {k : Nat} {P : Tup α → List Cell → Prop} (h : DA X es δ μ fun ss μ1 => ∃ xs : List α, ss = xs.map (fun x => sl x) ∧ xs.length ≤ 1000 ∧ P ⟨xs⟩ μ1) : DE X (.Tuple es k pos) δ μ P :=
  of_pe (pe_tup (cA_pa es)) fun M σ H E Q q => h M σ H E _ fun ss μ1 M1 vs H1 p1 s1 hh1 r1 => by
    obtain ⟨xs, rfl, hl, p⟩ := p1
    have r := SlVs.ex r1
    refine ⟨by rw [r.length]; exact Nat.le_trans hl (by decide), fun p' hp => ?_⟩
    have s3 := foot_alloc hh1 hp (.tup vs)
    exact q ⟨xs⟩ μ1 M1 _ _ p (s1.trans s3) (hh1.alloc hp _) ⟨p', vs, rfl, SqT.of upd_same, paired_map (fun _ _ r => tr s3 hh1 r) r⟩
/-- a list display that stays as it is -/
theorem de_lstF {P : List α → List Cell → Prop} (h : DA X es δ μ fun ss μ1 => ∃ xs : List α, ss = xs.map (fun x => sl x) ∧ xs.length ≤ 1000 ∧ P xs μ1) : DE X (.List es pos) δ μ P :=
  of_pe (pe_lst (cA_pa es)) fun M σ H E Q q => h M σ H E _ fun ss μ1 M1 vs H1 p1 s1 hh1 r1 => by
    obtain ⟨xs, rfl, hl, p⟩ := p1
    have r := SlVs.ex r1
    refine ⟨by rw [r.length]; exact Nat.le_trans hl (by decide), fun p' hp => ?_⟩
    have s3 := foot_alloc hh1 hp (.lst vs)
    exact q xs μ1 M1 _ _ p (s1.trans s3) (hh1.alloc hp _) ⟨p', vs, rfl, fun z => hh1.al _ z hp, .inl upd_same, paired_map (fun _ _ r => tr s3 hh1 r) r⟩
/-! ### items -/
theorem plainIx_int {i : Int} {j pos} : PlainIx (.Constant (.int i) j pos) := fun _ _ => rfl
theorem paired_get {α β : Type} {F : α → β → Prop} {y : β} : ∀ {xs : List α} {ys : List β} {j : Nat}, Paired F xs ys → ys[j]? = some y → ∃ x, xs[j]? = some x ∧ F x y := by
  intro xs ys j r
  induction r generalizing j with
  | nil => intro h; simp at h
  | cons r t ih =>
    intro h
    cases j with
    | zero => simp only [List.getElem?_cons_zero, Option.some.injEq] at h; subst h; exact ⟨_, by simp, r⟩
    | succ j => obtain ⟨x, e, f⟩ := ih (j := j) (by simpa using h); exact ⟨x, by simpa using e, f⟩
theorem paired_atI {α β : Type} {F : α → β → Prop} {xs : List α} {ys : List β} (r : Paired F xs ys) {i : Int} {y : β} (h : atI ys i = some y) : ∃ x, atI xs i = some x ∧ F x y := by
  unfold atI at h ⊢
  rw [r.length]
  cases q : ixN ys.length i with
  | none => rw [q] at h; cases h
  | some k =>
    rw [q] at h
    obtain ⟨x, e, f⟩ := paired_get (j := k) r h
    exact ⟨x, e, f⟩
theorem de_ix0 {j : _} {pos' : Pos} {P : α → List Cell → Prop} (h : DE X a δ μ fun (x : α × β) μ1 => P x.1 μ1) : DE X (.Subscript a (.Constant (.int 0) j pos') pos) δ μ P :=
  of_pe (pe_ix ix_tup (cE_pe a) pe_int plainIx_int) fun M σ H E Q q => h M σ H E _ fun x μ1 M1 v1 H1 p1 s1 hh1 r1 => by
    obtain ⟨p, v1', v2, rfl, hs, r1, r2⟩ := r1
    exact ⟨p, _, 0, v1', rfl, rfl, hs, rfl, q x.1 μ1 M1 _ H1 p1 s1 hh1 r1⟩
theorem de_ix1 {j : _} {pos' : Pos} {P : β → List Cell → Prop} (h : DE X a δ μ fun (x : α × β) μ1 => P x.2 μ1) : DE X (.Subscript a (.Constant (.int 1) j pos') pos) δ μ P :=
  of_pe (pe_ix ix_tup (cE_pe a) pe_int plainIx_int) fun M σ H E Q q => h M σ H E _ fun x μ1 M1 v1 H1 p1 s1 hh1 r1 => by
    obtain ⟨p, v1', v2, rfl, hs, r1, r2⟩ := r1
    exact ⟨p, _, 1, v2, rfl, rfl, hs, rfl, q x.2 μ1 M1 _ H1 p1 s1 hh1 r2⟩
theorem de_ixL {P : α → List Cell → Prop} (h : DE X a δ μ fun (xs : List α) μ1 => DE X b δ μ1 fun (i : Int) μ2 => ∃ y, atI xs i = some y ∧ P y μ2) (hs : PlainIx b := by exact fun _ _ => rfl) : DE X (.Subscript a b pos) δ μ P :=
  of_pe (pe_ix ix_list (cE_pe a) (cE_pe b) hs) fun M σ H E Q q => h M σ H E _ fun xs μ1 M1 v1 H1 p1 s1 hh1 r1 => p1 M1 σ H1 (E.step s1 hh1) _ fun i μ2 M2 w H2 p2 s2 hh2 r2 => by
    obtain ⟨y, hy, p⟩ := p2
    obtain ⟨ad, vs, rfl, nm, rd, r⟩ := tr s2 hh1 r1
    cases r2
    obtain ⟨v, hv, rv⟩ := paired_atI r hy
    exact ⟨ad, vs, i, v, rfl, rfl, .inl rd, hv, q y μ2 M2 v H2 p (s1.trans s2) hh2 rv⟩
theorem de_ixT {P : α → List Cell → Prop} (h : DE X a δ μ fun (xs : Tup α) μ1 => DE X b δ μ1 fun (i : Int) μ2 => ∃ y, atI xs.l i = some y ∧ P y μ2) (hs : PlainIx b := by exact fun _ _ => rfl) : DE X (.Subscript a b pos) δ μ P :=
  of_pe (pe_ix ix_tup (cE_pe a) (cE_pe b) hs) fun M σ H E Q q => h M σ H E _ fun xs μ1 M1 v1 H1 p1 s1 hh1 r1 => p1 M1 σ H1 (E.step s1 hh1) _ fun i μ2 M2 w H2 p2 s2 hh2 r2 => by
    obtain ⟨y, hy, p⟩ := p2
    obtain ⟨ad, vs, rfl, rd, r⟩ := tr s2 hh1 r1
    cases r2
    obtain ⟨v, hv, rv⟩ := paired_atI r hy
    exact ⟨ad, vs, i, v, rfl, rfl, rd, hv, q y μ2 M2 v H2 p (s1.trans s2) hh2 rv⟩
end
end Dl
namespace Dl
open PySem PySem.Spec PyProof.Rows L2
section
variable {X : Cx} {α β γ ρ : Type} [Enc α] [Enc β] [Enc γ] [Enc ρ] {e a b tg : Expr} {es : List Expr} {δ : List Slot} {μ : List Cell} {P : α → List Cell → Prop} {PB : Bool → List Cell → Prop}
  {N B C : PN} {R : ρ → List Cell → Prop} {st : Stmt} {sts s1 s2 body : List Stmt} {pos p : Pos}
/-! ### loops -/
/-- a target of a for -/
structure WG (K : PySem.W.Frag) (g : TG) (s : Slot) (δ : List Slot) (δ' : List Slot) : Prop where
  run : ∀ (M : AS) (μ : List Cell) (σ : L2.St) (H : Hp) (v : V), EnvOk K M μ δ σ H → SlotV K M H v s → ∀ Q : L2.St → Hp → Prop, (∀ σ', EnvOk K M μ δ' σ' H → Q σ' H) → g v σ H Q
theorem wg_name {K : PySem.W.Frag} {i : Nat} {s : Slot} : WG K (gName i) s δ (δ.set i s) := ⟨fun M μ σ H v E r Q k => k _ (E.put r)⟩
theorem wg_pair {K : PySem.W.Frag} {i j : Nat} {A : Enc α} {B : Enc β} {x : α × β} : WG K (gTup K 2 (gCons (gName i) (gCons (gName j) gNil))) (.val (@instEncProd α β A B) x) δ ((δ.set i (.val A x.1)).set j (.val B x.2)) :=
  ⟨fun M μ σ H v E r Q k => by
    obtain ⟨a, v1, v2, rfl, hs, r1, r2⟩ := r
    exact ⟨a, [v1, v2], rfl, hs, rfl, v1, [v2], rfl, v2, [], rfl, rfl, k _ ((E.put (s := .val A x.1) r1).put (s := .val B x.2) r2)⟩⟩
/-- the body of a loop, for any end behind it -/
theorem run_body {D : Ends} {N' : L2.St → Hp → Prop} {M0 M : AS} {μ0 μ' : List Cell} {H0 H : Hp} {σ : L2.St} {δ' : List Slot} {I : PN} (h : DB X body δ' μ' I R N I) (s : Ste M0 μ0 H0 M μ' H) (E : EnvOk X.K M μ' δ' σ H)
    (n : ∀ δ' μ' M' σ' H', N δ' μ' → Ste M0 μ0 H0 M' μ' H' → EnvOk X.K M' μ' δ' σ' H' → D.nx σ' H') (r : ∀ x μ' M' v H', R x μ' → Ste M0 μ0 H0 M' μ' H' → Holds X.K M' μ' H' → Enc.R X.K M' H' v x → D.rt v H')
    (nn : ∀ δ' μ' M' σ' H', I δ' μ' → Ste M0 μ0 H0 M' μ' H' → EnvOk X.K M' μ' δ' σ' H' → N' σ' H') : cSs X body { D with nx := N', ct := N', bk := D.nx } σ H :=
  h M σ H E { D with nx := N', ct := N', bk := D.nx } (fun _ _ _ _ _ p2 s2 E2 => nn _ _ _ _ _ p2 (s.trans s2) E2) (fun _ _ _ _ _ p2 s2 h2 r2 => r _ _ _ _ _ p2 (s.trans s2) h2 r2)
    (fun _ _ _ _ _ p2 s2 E2 => n _ _ _ _ _ p2 (s.trans s2) E2) (fun _ _ _ _ _ p2 s2 E2 => nn _ _ _ _ _ p2 (s.trans s2) E2)
/-- for over a range: n turns from lo; Inv by the turn -/
theorem ws_range {g : TG} {lo : Int} {n : Nat} {D : Ends} {M0 M : AS} {μ0 μ1 : List Cell} {H0 H : Hp} {σ : L2.St} (Inv : Nat → PN) (h0 : Inv 0 δ μ1) (dg : Nat → List Slot → List Slot) (hg : ∀ (i : Nat) δ', WG X.K g (sl (lo + (i : Int))) δ' (dg i δ'))
    (hs : ∀ i δ' μ', i < n → Inv i δ' μ' → DB X body (dg i δ') μ' (Inv (i + 1)) R N (Inv (i + 1))) (hd : ∀ δ' μ', Inv n δ' μ' → N δ' μ')
    (s : Ste M0 μ0 H0 M μ1 H) (E : EnvOk X.K M μ1 δ σ H)
    (nk : ∀ δ' μ' M' σ' H', N δ' μ' → Ste M0 μ0 H0 M' μ' H' → EnvOk X.K M' μ' δ' σ' H' → D.nx σ' H') (rk : ∀ x μ' M' v H', R x μ' → Ste M0 μ0 H0 M' μ' H' → Holds X.K M' μ' H' → Enc.R X.K M' H' v x → D.rt v H') :
    ∃ W : Nat → Nat → L2.St → Hp → Prop, (∃ m, W 0 m σ H) ∧ ∀ i m σ H, W i m σ H →
      ((Itr lo n).stop i H ∧ D.nx σ H) ∨ ((Itr lo n).go i H ∧ ∃ N : L2.St → Hp → Prop, (∀ σ' H', N σ' H' → ∃ m', m' < m ∧ W (i + 1) m' σ' H') ∧ ∀ x H', (Itr lo n).yld i H x H' → g x σ H' fun σ2 H2 => cSs X body { D with nx := N, ct := N, bk := D.nx } σ2 H2) := by
  refine for_range (fun i σ H => ∃ M μ' δ', Inv i δ' μ' ∧ Ste M0 μ0 H0 M μ' H ∧ EnvOk X.K M μ' δ' σ H) ⟨M, μ1, δ, h0, s, E⟩ ?_ ?_
  · rintro i σ H hi ⟨M, μ', δ', hI, s, E⟩
    refine (hg i δ').run M μ' σ H _ E rfl _ fun σ' E' => ?_
    exact run_body (hs i δ' μ' hi hI) s E' nk rk fun _ μ2 M2 _ _ p s2 E2 => ⟨M2, μ2, _, p, s2, E2⟩
  · rintro σ H ⟨M, μ', δ', hI, s, E⟩
    exact nk _ _ _ _ _ (hd _ _ hI) s E
theorem ds_range1 {i : Nat} {x : Str} {px pos' : Pos} (hp : PassesOwn (model X.prog X.w) X.A X.env X.xe) (hc : X.calm = true) (hN : X.N.Nodup) (hm : X.mg "range" = none)
    (h : DE X a δ μ fun (n : Int) μ1 => n < 2 ^ 62 ∧ -(2 ^ 62) ≤ n ∧ ∃ Inv : Nat → PN, Inv 0 δ μ1 ∧ (∀ (k : Nat) δ' μ', (k : Int) < n → Inv k δ' μ' → DB X body (δ'.set i (sl (k : Int))) μ' (Inv (k + 1)) R N (Inv (k + 1))) ∧ (∀ δ' μ', Inv n.toNat δ' μ' → N δ' μ'))
    (hi : X.N[i]? = some x := by rfl) (hx : Loc X.env.scope x := by first | exact Or.inl rfl | exact Or.inr rfl) (hf : X.fn x = true ∨ X.env.scope.names.lookup x = some .local := by first | exact .inl rfl | exact .inr rfl)
    (hg : Gl X "range" := by rfl) (hs : starEach [a] X.env = [(false, eval a X.env)] := by rfl) (hs2 : starEach [a] X.env = (false, eval a X.env) :: starEach [] X.env := by rfl)
    (hs3 : ∀ x, foldedSetIterable (.Call (.Name "range" p) [a] [] pos') X.env x = pure x := by intro _; rfl) :
    DS X (.For (.Name x px) (.Call (.Name "range" p) [a] [] pos') body [] pos) δ μ N R B C :=
  of_ps (ps_for hp hc (pi_range1 hg hm (pa_cons (cE_pe a) pa_nil hs2) hs) (pg_name (i := i) hN hi hx hf) (cSs_pss body) hs3) fun M σ H E D nk rk bk ck => h M σ H E _ fun n μ1 M1 v H1 p1 s1 h1 r1 => by
    obtain ⟨n1, n2, Inv, i0, ih, ie⟩ := p1
    cases r1
    refine ⟨n, rfl, n2, n1, ?_⟩
    refine ws_range (M0 := M) (μ0 := μ) (H0 := H) Inv i0 (fun (k : Nat) δ' => δ'.set i (sl (k : Int))) (fun k δ' => ?_) (fun k δ' μ' hk hI => ih k δ' μ' (by omega) hI) ie s1 (E.step s1 h1) nk rk
    rw [show (0 : Int) + (k : Int) = (k : Int) by omega]
    exact wg_name
theorem ds_range2 {i : Nat} {x : Str} {px pos' : Pos} (hp : PassesOwn (model X.prog X.w) X.A X.env X.xe) (hc : X.calm = true) (hN : X.N.Nodup) (hm : X.mg "range" = none)
    (h : DE X a δ μ fun (lo : Int) μ0 => DE X b δ μ0 fun (n : Int) μ1 => (n < 2 ^ 62 ∧ -(2 ^ 62) ≤ n ∧ lo < 2 ^ 62 ∧ -(2 ^ 62) ≤ lo) ∧ ∃ Inv : Nat → PN, Inv 0 δ μ1 ∧ (∀ (k : Nat) δ' μ', lo + (k : Int) < n → Inv k δ' μ' → DB X body (δ'.set i (sl (lo + (k : Int)))) μ' (Inv (k + 1)) R N (Inv (k + 1))) ∧ (∀ δ' μ', Inv (n - lo).toNat δ' μ' → N δ' μ'))
    (hi : X.N[i]? = some x := by rfl) (hx : Loc X.env.scope x := by first | exact Or.inl rfl | exact Or.inr rfl) (hf : X.fn x = true ∨ X.env.scope.names.lookup x = some .local := by first | exact .inl rfl | exact .inr rfl)
    (hg : Gl X "range" := by rfl) (hs : starEach [a, b] X.env = [(false, eval a X.env), (false, eval b X.env)] := by rfl) (hs2 : starEach [a, b] X.env = (false, eval a X.env) :: starEach [b] X.env := by rfl)
    (hs4 : starEach [b] X.env = [(false, eval b X.env)] := by rfl) (hs5 : starEach [b] X.env = (false, eval b X.env) :: starEach [] X.env := by rfl)
    (hs3 : ∀ x, foldedSetIterable (.Call (.Name "range" p) [a, b] [] pos') X.env x = pure x := by intro _; rfl) :
    DS X (.For (.Name x px) (.Call (.Name "range" p) [a, b] [] pos') body [] pos) δ μ N R B C :=
  of_ps (ps_for hp hc (pi_range2 hg hm (pa_cons (cE_pe a) (pa_cons (cE_pe b) pa_nil hs5) hs2) hs hs4) (pg_name (i := i) hN hi hx hf) (cSs_pss body) hs3) fun M σ H E D nk rk bk ck => h M σ H E _ fun lo μ0 M0 v0 H0 p0 s0 h0 r0 => p0 M0 σ H0 (E.step s0 h0) _ fun n μ1 M1 v H1 p1 s1 h1 r1 => by
    obtain ⟨⟨n1, n2, n3, n4⟩, Inv, i0, ih, ie⟩ := p1
    cases r1; cases r0
    refine ⟨lo, n, rfl, ⟨n4, n3, n2, n1⟩, ?_⟩
    exact ws_range (M0 := M) (μ0 := μ) (H0 := H) Inv i0 (fun (k : Nat) δ' => δ'.set i (sl (lo + (k : Int)))) (fun k δ' => wg_name) (fun k δ' μ' hk hI => ih k δ' μ' (by omega) hI) ie (s0.trans s1) (E.step (s0.trans s1) h1) nk rk
/-- for over a list that stays -/
theorem ds_forL {A : Enc α} {g : TG} (hp : PassesOwn (model X.prog X.w) X.A X.env X.xe) (hc : X.calm = true) (hgt : PG X tg g) (dg : α → List Slot → List Slot) (hg : ∀ x δ', WG X.K g (.val A x) δ' (dg x δ'))
    (h : DE X e δ μ fun (xs : List α) μ1 => ∃ Inv : Nat → PN, Inv 0 δ μ1 ∧ (∀ k x δ' μ', xs[k]? = some x → Inv k δ' μ' → DB X body (dg x δ') μ' (Inv (k + 1)) R N (Inv (k + 1))) ∧ (∀ δ' μ', Inv xs.length δ' μ' → N δ' μ'))
    (hs3 : ∀ x, foldedSetIterable e X.env x = pure x := by intro _; rfl) :
    DS X (.For tg e body [] pos) δ μ N R B C :=
  of_ps (ps_for hp hc (pi_list (cE_pe e)) hgt (cSs_pss body) hs3) fun M σ H E D nk rk bk ck => h M σ H E _ fun xs μ1 M1 v H1 p1 s1 h1 r1 => by
    obtain ⟨Inv, i0, ih, ie⟩ := p1
    have r0 := r1
    obtain ⟨ad, vs, rfl, nm, rd, r⟩ := r1
    refine ⟨ad, rfl, ⟨vs, .inl rd⟩, ?_⟩
    refine for_list (xs := vs) (fun i σ' H' => ∃ M' μ' δ', Inv i δ' μ' ∧ Ste M1 μ1 H1 M' μ' H' ∧ EnvOk X.K M' μ' δ' σ' H') ⟨M1, μ1, δ, i0, Ste.refl, E.step s1 h1⟩ ?_ ?_ ?_
    · rintro i σ' H' hi ⟨M', μ', δ', hI, s, E'⟩
      rcases rd with rd | ⟨o, rd⟩
      · exact .inl (.inl (s.keep _ _ rd (.inl fun z => nm (h1.inM _ z))))
      · exact .inl (.inr ⟨o, s.keep _ _ rd (.inr trivial)⟩)
    · rintro i y σ' H' hi ⟨M', μ', δ', hI, s, E'⟩
      have hl := r.length
      have hi' : i < xs.length := by rw [← hl]; exact (List.getElem?_eq_some_iff.mp hi).1
      obtain ⟨y', e1, ry⟩ := paired_get r (List.getElem?_eq_getElem hi')
      rw [hi] at e1; cases e1
      refine (hg xs[i] δ').run M' μ' σ' H' y E' (Dl.tr (A := A) s h1 ry) _ fun σ2 E2 => ?_
      exact run_body (M0 := M1) (μ0 := μ1) (H0 := H1) (ih i _ δ' μ' (List.getElem?_eq_getElem hi') hI) s E2 (fun δ' μ' M' σ' H' p s E => nk δ' μ' M' σ' H' p (s1.trans s) E) (fun x μ' M' v H' p s h r => rk x μ' M' v H' p (s1.trans s) h r) fun _ μ2 M2 _ _ p s2 E2 => ⟨M2, μ2, _, p, s2, E2⟩
    · rintro σ' H' ⟨M', μ', δ', hI, s, E'⟩
      rw [r.length] at hI
      exact nk _ _ _ _ _ (ie _ _ hI) (s1.trans s) E'
theorem ds_forT {A : Enc α} {g : TG} (hp : PassesOwn (model X.prog X.w) X.A X.env X.xe) (hc : X.calm = true) (hgt : PG X tg g) (dg : α → List Slot → List Slot) (hg : ∀ x δ', WG X.K g (.val A x) δ' (dg x δ'))
    (h : DE X e δ μ fun (xs : Tup α) μ1 => ∃ Inv : Nat → PN, Inv 0 δ μ1 ∧ (∀ k x δ' μ', xs.l[k]? = some x → Inv k δ' μ' → DB X body (dg x δ') μ' (Inv (k + 1)) R N (Inv (k + 1))) ∧ (∀ δ' μ', Inv xs.l.length δ' μ' → N δ' μ'))
    (hs3 : ∀ x, foldedSetIterable e X.env x = pure x := by intro _; rfl) :
    DS X (.For tg e body [] pos) δ μ N R B C :=
  of_ps (ps_for hp hc (pi_tup (cE_pe e)) hgt (cSs_pss body) hs3) fun M σ H E D nk rk bk ck => h M σ H E _ fun xs μ1 M1 v H1 p1 s1 h1 r1 => by
    obtain ⟨Inv, i0, ih, ie⟩ := p1
    obtain ⟨ad, vs, rfl, rd, r⟩ := r1
    refine ⟨ad, rfl, ⟨vs, rd⟩, ?_⟩
    refine for_tup (xs := vs) (fun i σ' H' => ∃ M' μ' δ', Inv i δ' μ' ∧ Ste M1 μ1 H1 M' μ' H' ∧ EnvOk X.K M' μ' δ' σ' H') ⟨M1, μ1, δ, i0, Ste.refl, E.step s1 h1⟩ ?_ ?_ ?_
    · rintro i σ' H' hi ⟨M', μ', δ', hI, s, E'⟩
      exact sqT_keep s.keep rd
    · rintro i y σ' H' hi ⟨M', μ', δ', hI, s, E'⟩
      have hl := r.length
      have hi' : i < xs.l.length := by rw [← hl]; exact (List.getElem?_eq_some_iff.mp hi).1
      obtain ⟨y', e1, ry⟩ := paired_get r (List.getElem?_eq_getElem hi')
      rw [hi] at e1; cases e1
      refine (hg xs.l[i] δ').run M' μ' σ' H' y E' (Dl.tr (A := A) s h1 ry) _ fun σ2 E2 => ?_
      exact run_body (M0 := M1) (μ0 := μ1) (H0 := H1) (ih i _ δ' μ' (List.getElem?_eq_getElem hi') hI) s E2 (fun δ' μ' M' σ' H' p s E => nk δ' μ' M' σ' H' p (s1.trans s) E) (fun x μ' M' v H' p s h r => rk x μ' M' v H' p (s1.trans s) h r) fun _ μ2 M2 _ _ p s2 E2 => ⟨M2, μ2, _, p, s2, E2⟩
    · rintro σ' H' ⟨M', μ', δ', hI, s, E'⟩
      rw [r.length] at hI
      exact nk _ _ _ _ _ (ie _ _ hI) (s1.trans s) E'
/-- while, by an invariant over a measure -/
theorem ds_while {c : Expr} (hp : PassesOwn (model X.prog X.w) X.A X.env X.xe) (Inv : Nat → PN) (n : Nat) (h0 : Inv n δ μ)
    (hs : ∀ k δ' μ', Inv k δ' μ' → DT X c δ' μ' fun x μ1 => (x = true → ∃ J : PN, (∀ δ' μ', J δ' μ' → ∃ j, j < k ∧ Inv j δ' μ') ∧ DB X body δ' μ1 J R N J) ∧ (x = false → N δ' μ1)) : DS X (.While c body [] pos) δ μ N R B C :=
  of_ps (ps_while hp (cV_pt c) (cSs_pss body)) fun M σ H E D nk rk bk ck => by
    refine ⟨fun m σ' H' => ∃ M' μ' δ', Inv m δ' μ' ∧ Ste M μ H M' μ' H' ∧ EnvOk X.K M' μ' δ' σ' H', ⟨n, M, μ, δ, h0, Ste.refl, E⟩, ?_⟩
    rintro m σ' H' ⟨M', μ', δ', hI, s, E'⟩
    refine hs m δ' μ' hI M' σ' H' E' _ fun x μ1 M1 H1 p1 s1 h1 => ?_
    cases x with
    | true =>
      obtain ⟨J, hJ, hb⟩ := p1.1 rfl
      refine iteT ⟨fun σ' H' => ∃ M' μ' δ', J δ' μ' ∧ Ste M μ H M' μ' H' ∧ EnvOk X.K M' μ' δ' σ' H', ?_, ?_⟩
      · rintro σ2 H2 ⟨M2, μ2, δ2, j, s2, E2⟩
        obtain ⟨k, hk, hI2⟩ := hJ _ _ j
        exact ⟨k, hk, M2, μ2, δ2, hI2, s2, E2⟩
      · exact run_body (M0 := M) (μ0 := μ) (H0 := H) hb (s.trans s1) (E'.step s1 h1) nk rk fun δ2 μ2 M2 _ _ p s2 E2 => ⟨M2, μ2, δ2, p, s2, E2⟩
    | false => exact iteF (nk _ _ _ _ _ (p1.2 rfl) (s.trans s1) (E'.step s1 h1))
end
/-! ### defs -/
/-- a promise: of the arguments, the cells -/
abbrev Pm (ρ : Type) := List Slot → List Cell → (ρ → List Cell → Prop) → Prop
def spO {ρ : Type} [Enc ρ] (K : PySem.W.Frag) (Φ : Pm ρ) : Sp := fun vs H Q _ => ∃ (M : AS) (μ : List Cell) (as : List Slot) (P : ρ → List Cell → Prop), Holds K M μ H ∧ SlVs K M H vs as ∧ Φ as μ P ∧
  ∀ x μ' M' v H', P x μ' → Ste M μ H M' μ' H' → Holds K M' μ' H' → Enc.R K M' H' v x → Q v H'
section
variable {P : Program} {w : World} {K : PySem.W.Frag} {mg : Str → Option Value} {base : Heap} {ρ : Type} [Enc ρ]
abbrev cx (P : Program) (w : World) (K : PySem.W.Frag) (mg : Str → Option Value) (base : Heap) (N : List Str) (qual : Str) (st : Stmt) (f : Addr) (cdv : Value) (A : Around) (outer : List Env) (s : Shared) (H : Hp) (E : XK) : Cx := (cxOf CX0 P w K mg base N qual (defScope st) f cdv A outer s H E).nox
theorem start_ok {M : AS} {μ : List Cell} {H : Hp} {N : List Str} {vs : List V} {as : List Slot} (h : Holds K M μ H) (r : SlVs K M H vs as) : EnvOk K M μ (as ++ List.replicate (N.length - as.length) .any) (L2.start N vs) H := by
  have hl := r.length
  refine ⟨h, by unfold L2.start; simp only [List.length_append, List.length_map, List.length_replicate]; omega, fun i s v e1 e2 => ?_⟩
  unfold L2.start at e2
  by_cases hi : i < vs.length
  · rw [List.getElem?_append_left (by simpa using hi), List.getElem?_map] at e2
    rw [List.getElem?_append_left (by rw [← hl]; exact hi)] at e1
    rw [List.getElem?_eq_getElem hi] at e2
    cases e2
    have := r.at (List.getElem?_eq_getElem hi) e1
    cases s with
    | any => trivial
    | val e x => exact ⟨_, rfl, this⟩
  · rw [List.getElem?_append_right (by rw [← hl]; omega)] at e1
    rw [List.getElem?_replicate] at e1
    split at e1
    · cases e1; trivial
    · cases e1
theorem fn_ok {x qual : Str} {st : Stmt} {f : Addr} {fd : FuncData} {N ps : List Str} {k : Nat} {Φ : Pm ρ} (F : Fun K x qual st f fd) (S : FnScope N ps (defScope st)) (len : ∀ as μ P, Φ as μ P → as.length = ps.length)
    (hN : N.length = N.length := rfl)
    (h : ∀ (cdv : Value) (A : Around) (outer : List Env) (s : Shared) (H : Hp) (E : XK), Room k (A.deeper (envOfC qual (defScope st) s.heap.objs.size f cdv)) → ∀ as μ Pd, Φ as μ Pd →
      DB (cx P w K mg base N qual st f cdv A outer s H E) (defBody st) (as ++ List.replicate (N.length - as.length) .any) μ (fun _ μ' => ∃ x : ρ, (∀ K M H, Enc.R K M H .non x) ∧ Pd x μ') Pd (fun _ _ => False) (fun _ _ => False)) :
    FnOk P w K mg base CX0 (k + 1) f fd ps (spO K Φ) := by
  refine F.ok S (fun vs H Q E h => ?_) (fun cdv A outer s H vs Q E hr hsp => ?_)
  · obtain ⟨M, μ, as, Pd, _, r, hp, _⟩ := h
    rw [r.length]; exact len _ _ _ hp
  · obtain ⟨M, μ, as, Pd, hh, r, hp, q⟩ := hsp
    refine ⟨_, cSs_pss _, h cdv A outer s H E hr as μ Pd hp M _ H (start_ok hh r) _ (fun δ' μ' M' σ' H' n s' E' => ?_) q (fun _ _ _ _ _ z => z.elim) (fun _ _ _ _ _ z => z.elim)⟩
    obtain ⟨x, hx, p⟩ := n
    exact q x μ' M' .non H' p s' E'.h (hx _ _ _)
end
section
variable {X : Cx} {ρ : Type} [Enc ρ] {e : Expr} {es : List Expr} {δ : List Slot} {μ : List Cell} {P : ρ → List Cell → Prop} {k : Nat} {f : Addr} {fd : FuncData} {ps : List Str} {Φ : Pm ρ} {x : Str} {p pos : Pos}
/-- the cells in two parts -/
structure Parts (μ μc μr : List Cell) : Prop where
  perm : μ.Perm (μc ++ μr)
theorem parts_none : Parts μ [] μ := ⟨List.Perm.refl _⟩
theorem parts_all : Parts μ μ [] := ⟨by rw [List.append_nil]⟩
theorem parts_hd {c : Cell} {r : List Cell} : Parts (c :: r) [c] r := ⟨List.Perm.refl _⟩
theorem foots_perm {μ ν : List Cell} (h : μ.Perm ν) (a : Addr) : foots μ a ↔ foots ν a := ⟨fun ⟨c, hc, ha⟩ => ⟨c, h.mem_iff.mp hc, ha⟩, fun ⟨c, hc, ha⟩ => ⟨c, h.mem_iff.mpr hc, ha⟩⟩
theorem foots_app {μ ν : List Cell} {a : Addr} : foots (μ ++ ν) a ↔ foots μ a ∨ foots ν a := by
  constructor
  · rintro ⟨c, hc, ha⟩
    rcases List.mem_append.mp hc with h | h
    · exact .inl ⟨c, h, ha⟩
    · exact .inr ⟨c, h, ha⟩
  · rintro (⟨c, hc, ha⟩ | ⟨c, hc, ha⟩)
    · exact ⟨c, List.mem_append_left _ hc, ha⟩
    · exact ⟨c, List.mem_append_right _ hc, ha⟩
theorem Holds.part {K : PySem.W.Frag} {M : AS} {H : Hp} {μc μr : List Cell} (h : Holds K M μ H) (s : Parts μ μc μr) : Holds K M μc H where
  cell := fun c hc => h.cell c (s.perm.mem_iff.mpr (List.mem_append_left _ hc))
  inM := fun a z => h.inM a ((foots_perm s.perm a).mpr (foots_app.mpr (.inl z)))
  al := h.al
  dj := by
    have : (μc ++ μr).Pairwise fun c d => ∀ a, a ∈ c.foot → a ∉ d.foot := h.dj.perm s.perm (fun {c d} q a h1 h2 => q a h2 h1)
    exact (List.pairwise_append.mp this).1
/-- a call that uses a part of the cells -/
theorem frame {K : PySem.W.Frag} {M M' : AS} {H H' : Hp} {μc μr μ' : List Cell} (h : Holds K M μ H) (sp : Parts μ μc μr) (s : Ste M μc H M' μ' H') (h' : Holds K M' μ' H') : Ste M μ H M' (μ' ++ μr) H' ∧ Holds K M' (μ' ++ μr) H' := by
  have dj : (μc ++ μr).Pairwise fun c d => ∀ a, a ∈ c.foot → a ∉ d.foot := h.dj.perm sp.perm (fun {c d} q a h1 h2 => q a h2 h1)
  have dj2 := List.pairwise_append.mp dj
  have apart : ∀ a, foots μr a → ¬ foots μc a := fun a ⟨c, hc, ha⟩ ⟨d, hd, hb⟩ => dj2.2.2 d hd c hc a hb ha
  have inm : ∀ a, foots μr a → M a := fun a z => h.inM a ((foots_perm sp.perm a).mpr (foots_app.mpr (.inr z)))
  have inc : ∀ a, foots μc a → foots μ a := fun a z => (foots_perm sp.perm a).mpr (foots_app.mpr (.inl z))
  refine ⟨⟨fun a o e c => s.keep a o e (c.imp (fun n z => n (inc a z)) id), s.al, s.new, fun a z => ?_, fun a z n f => s.up a z n fun q => f (inc a q)⟩, ⟨fun c hc => ?_, fun a z => ?_, h'.al, ?_⟩⟩
  · rcases foots_app.mp z with z | z
    · exact (s.foo a z).imp (inc a) id
    · exact .inl ((foots_perm sp.perm a).mpr (foots_app.mpr (.inr z)))
  · rcases List.mem_append.mp hc with hc | hc
    · exact h'.cell c hc
    · have q := h.cell c (sp.perm.mem_iff.mpr (List.mem_append_right _ hc))
      have q1 : c.holds K (fun a => M a ∨ M' a) H := c.set (fun a z => z.elim .inl (s.new a)) q
      have q2 : c.holds K (fun a => M a ∨ M' a) H' := c.mono (fun a o e cc => s.keep a o e (by
        rcases cc with cc | cc | cc
        · exact .inl (apart a ⟨c, hc, cc⟩)
        · exact .inl fun z => cc (.inl (h.inM a (inc a z)))
        · exact .inr cc)) q1
      exact c.set (fun a z => .inl (.inr z)) q2
  · rcases foots_app.mp z with z | z
    · exact h'.inM a z
    · exact s.up a (inm a z) (h.al a (inm a z)) (apart a z)
  · refine List.pairwise_append.mpr ⟨h'.dj, dj2.2.1, fun c hc d hd a ha hb => ?_⟩
    rcases s.foo a ⟨c, hc, ha⟩ with z | z
    · exact apart a ⟨d, hd, hb⟩ z
    · exact h.al a (inm a ⟨d, hd, hb⟩) z
theorem de_call (F : FnOk X.prog X.w X.K X.mg X.base CX0 k f fd ps (spO X.K Φ)) (hr : Room k X.A) (hm : X.mg x = some (.ref f)) (hk : PySem.W.keepIn X.K (.ref f) = true) (hb : Binds X.K fd ps [])
    (h : DA X (e :: es) δ μ fun as μ1 => ∃ μc μr, Parts μ1 μc μr ∧ Φ as μc fun y μ' => P y (μ' ++ μr)) (hg : Gl X x := by rfl) (hdb : (x == ("__debug__" : Str)) = false := by decide)
    (he : starEach (e :: es) X.env = (false, eval e X.env) :: starEach es X.env := by rfl) (hpl : (backTo pos (starEach es X.env)).any (·.1) = false := by rfl) : DE X (.Call (.Name x p) (e :: es) [] pos) δ μ P :=
  of_pe (pe_call F hr hg hm hk hb .nil pass0 (cA_pa _) hdb he hpl) fun M σ H E Q q => h M σ H E _ fun as μ1 M1 vs H1 p1 s1 h1 r1 => by
    obtain ⟨μc, μr, sp, ph⟩ := p1
    refine ⟨M1, μc, as, _, h1.part sp, by rw [List.append_nil]; exact r1, ph, fun y μ' M' v H' py s2 h2 r2 => ?_⟩
    obtain ⟨s3, h3⟩ := frame h1 sp s2 h2
    exact q y _ M' v H' py (s1.trans s3) h3 r2
/-- with a default for the last argument -/
theorem de_callD (F : FnOk X.prog X.w X.K X.mg X.base CX0 k f fd ps (spO X.K Φ)) (hr : Room k X.A) (hm : X.mg x = some (.ref f)) (hk : PySem.W.keepIn X.K (.ref f) = true) {dvs : List V} {ds : List Value} (hb : Binds X.K fd ps ds) (hd : Vals dvs ds) (das : List Slot) (hda : ∀ M H, SlVs X.K M H dvs das)
    (h : DA X (e :: es) δ μ fun as μ1 => ∃ μc μr, Parts μ1 μc μr ∧ Φ (as ++ das) μc fun y μ' => P y (μ' ++ μr)) (hg : Gl X x := by rfl) (hdb : (x == ("__debug__" : Str)) = false := by decide)
    (he : starEach (e :: es) X.env = (false, eval e X.env) :: starEach es X.env := by rfl) (hpl : (backTo pos (starEach es X.env)).any (·.1) = false := by rfl) : DE X (.Call (.Name x p) (e :: es) [] pos) δ μ P :=
  of_pe (pe_call F hr hg hm hk hb hd pass0 (cA_pa _) hdb he hpl) fun M σ H E Q q => h M σ H E _ fun as μ1 M1 vs H1 p1 s1 h1 r1 => by
    obtain ⟨μc, μr, sp, ph⟩ := p1
    refine ⟨M1, μc, as ++ das, _, h1.part sp, ?_, ph, fun y μ' M' v H' py s2 h2 r2 => ?_⟩
    · have : ∀ {vs : List V} {as : List Slot}, SlVs X.K M1 H1 vs as → SlVs X.K M1 H1 (vs ++ dvs) (as ++ das) := by
        intro vs as r
        induction r with
        | nil => exact hda M1 H1
        | cons r t ih => exact .cons r ih
      exact this r1
    · obtain ⟨s3, h3⟩ := frame h1 sp s2 h2
      exact q y _ M' v H' py (s1.trans s3) h3 r2
/-! ### built-in functions -/
theorem we_cb {α : Type} [Enc α] {r : List V → Hp → VK → Prop} {tA : TA} {P1 : List Slot → List Cell → Prop} {P : α → List Cell → Prop} (ha : WA X.K tA δ μ P1)
    (hr : ∀ as μ1, P1 as μ1 → ∀ (M : AS) (H : Hp) (vs : List V), Holds X.K M μ1 H → SlVs X.K M H vs as → ∀ Q : VK, (∀ z μ' M' u H', P z μ' → Ste M μ1 H M' μ' H' → Holds X.K M' μ' H' → Enc.R X.K M' H' u z → Q u H') → r vs H Q) :
    WE X.K (tCB r tA) δ μ P := fun M σ H E Q k =>
  ha M σ H E _ fun as μ1 M1 vs H1 p1 s1 h1 r1 => hr as μ1 p1 M1 H1 vs h1 r1 Q fun z μ' M' u H' p s3 h3 r3 => k z μ' M' u H' p (s1.trans s3) h3 r3
/-- a built-in function of pure values -/
theorem de_cb {α : Type} [Enc α] {id : String} {r : List V → Hp → VK → Prop} {P : α → List Cell → Prop} (hc : CallR X (.builtin id) r) (hm : X.mg x = none) (hv : bootBuiltins x = some (.builtin id))
    (h : DA X (e :: es) δ μ fun as μ1 => ∃ z : α, P z μ1 ∧ ∀ (M : AS) (H : Hp) (vs : List V), SlVs X.K M H vs as → ∀ Q : VK, (∀ u, Enc.R X.K M H u z → Q u H) → r vs H Q) (hg : Gl X x := by rfl) (hn : x ≠ "__name__" := by decide) (hdb : (x == ("__debug__" : Str)) = false := by decide)
    (he : starEach (e :: es) X.env = (false, eval e X.env) :: starEach es X.env := by rfl) (hpl : (backTo pos (starEach es X.env)).any (·.1) = false := by rfl) : DE X (.Call (.Name x p) (e :: es) [] pos) δ μ P :=
  of_pe (pe_callB hc hg hm hv (cA_pa _) hn hdb he hpl) (we_cb h fun as μ1 p1 M H vs hh r1 Q k => by
    obtain ⟨z, p, hz⟩ := p1
    exact hz M H vs r1 Q fun u ru => k z μ1 M u H p Ste.refl hh ru)
theorem de_ct {α : Type} [Enc α] {T : String} {r : List V → Hp → VK → Prop} {P : α → List Cell → Prop} (hc : CallR X (.type T) r) (hm : X.mg x = none) (hv : bootBuiltins x = some (.type T))
    (h : DA X (e :: es) δ μ fun as μ1 => ∃ z : α, P z μ1 ∧ ∀ (M : AS) (H : Hp) (vs : List V), SlVs X.K M H vs as → ∀ Q : VK, (∀ u, Enc.R X.K M H u z → Q u H) → r vs H Q) (hg : Gl X x := by rfl) (hn : x ≠ "__name__" := by decide) (hdb : (x == ("__debug__" : Str)) = false := by decide)
    (he : starEach (e :: es) X.env = (false, eval e X.env) :: starEach es X.env := by rfl) (hpl : (backTo pos (starEach es X.env)).any (·.1) = false := by rfl) : DE X (.Call (.Name x p) (e :: es) [] pos) δ μ P :=
  of_pe (pe_callTy hc hg hm hv (cA_pa _) hn hdb he hpl) (we_cb h fun as μ1 p1 M H vs hh r1 Q k => by
    obtain ⟨z, p, hz⟩ := p1
    exact hz M H vs r1 Q fun u ru => k z μ1 M u H p Ste.refl hh ru)
theorem de_cbf {α : Type} [Enc α] {id : String} {r : List V → Hp → VK → Prop} {P : α → List Cell → Prop} (hc : CallR X (.builtin id) r) (hm : X.mg x = some (.builtin id))
    (h : DA X (e :: es) δ μ fun as μ1 => ∃ z : α, P z μ1 ∧ ∀ (M : AS) (H : Hp) (vs : List V), SlVs X.K M H vs as → ∀ Q : VK, (∀ u, Enc.R X.K M H u z → Q u H) → r vs H Q) (hg : Gl X x := by rfl) (hdb : (x == ("__debug__" : Str)) = false := by decide)
    (he : starEach (e :: es) X.env = (false, eval e X.env) :: starEach es X.env := by rfl) (hpl : (backTo pos (starEach es X.env)).any (·.1) = false := by rfl) : DE X (.Call (.Name x p) (e :: es) [] pos) δ μ P :=
  of_pe (pe_callBfun hc hg hm (cA_pa _) hdb he hpl) (we_cb h fun as μ1 p1 M H vs hh r1 Q k => by
    obtain ⟨z, p, hz⟩ := p1
    exact hz M H vs r1 Q fun u ru => k z μ1 M u H p Ste.refl hh ru)
end
section
variable {X : Cx} {a b : Expr} {δ : List Slot} {μ : List Cell} {P : Int → List Cell → Prop} {x : Str} {p pos : Pos}
theorem de_gcd (hm : X.mg x = some (.builtin "math.gcd")) (h : DE X a δ μ fun (i : Int) μ1 => DE X b δ μ1 fun (j : Int) μ2 => P ((Nat.gcd i.natAbs j.natAbs : Nat) : Int) μ2) (hg : Gl X x := by rfl) (hdb : (x == ("__debug__" : Str)) = false := by decide)
    (he : starEach [a, b] X.env = (false, eval a X.env) :: starEach [b] X.env := by rfl) (he2 : starEach [b] X.env = (false, eval b X.env) :: starEach [] X.env := by rfl) (hpl : (backTo pos (starEach [b] X.env)).any (·.1) = false := by rfl) : DE X (.Call (.Name x p) [a, b] [] pos) δ μ P :=
  de_cbf cr_gcd hm (da_cons (h.mono fun i μ1 h => da_cons (h.mono fun j μ2 q => da_nil ⟨_, q, fun M H vs r Q k => by
    cases r with
    | cons r1 r =>
      cases r with
      | cons r2 r =>
        cases r
        cases r1; cases r2
        exact ⟨i, j, rfl, k _ rfl⟩⟩) he2) he) hg hdb he hpl
theorem de_abs (hm : X.mg "abs" = none) (h : DE X a δ μ fun (i : Int) μ1 => P ((i.natAbs : Nat) : Int) μ1) (hg : Gl X "abs" := by rfl)
    (he : starEach [a] X.env = (false, eval a X.env) :: starEach [] X.env := by rfl) (hpl : (backTo pos (starEach [] X.env)).any (·.1) = false := by rfl) : DE X (.Call (.Name "abs" p) [a] [] pos) δ μ P :=
  de_cb call_abs hm (by decide +kernel) (da_cons (h.mono fun i μ1 q => da_nil ⟨_, q, fun M H vs r Q k => by
    cases r with
    | cons r1 r =>
      cases r
      cases r1
      refine ⟨i, rfl, k _ ?_⟩
      show V.int _ = V.int _
      congr 1
      split <;> omega⟩) he) hg (by decide) (by decide) he hpl
theorem de_intI (hm : X.mg "int" = none) (h : DE X a δ μ P) (hg : Gl X "int" := by rfl)
    (he : starEach [a] X.env = (false, eval a X.env) :: starEach [] X.env := by rfl) (hpl : (backTo pos (starEach [] X.env)).any (·.1) = false := by rfl) : DE X (.Call (.Name "int" p) [a] [] pos) δ μ P :=
  de_ct call_int1 hm (by decide +kernel) (da_cons (h.mono fun i μ1 q => da_nil ⟨_, q, fun M H vs r Q k => by
    cases r with
    | cons r1 r =>
      cases r
      cases r1
      exact .inl ⟨i, rfl, k _ rfl⟩⟩) he) hg (by decide) (by decide) he hpl
theorem de_intB (hm : X.mg "int" = none) (h : DE X a δ μ fun (i : Bool) μ1 => P (if i then 1 else 0) μ1) (hg : Gl X "int" := by rfl)
    (he : starEach [a] X.env = (false, eval a X.env) :: starEach [] X.env := by rfl) (hpl : (backTo pos (starEach [] X.env)).any (·.1) = false := by rfl) : DE X (.Call (.Name "int" p) [a] [] pos) δ μ P :=
  de_ct call_int1 hm (by decide +kernel) (da_cons (h.mono fun i μ1 q => da_nil ⟨_, q, fun M H vs r Q k => by
    cases r with
    | cons r1 r =>
      cases r
      cases r1
      exact .inr ⟨i, rfl, k _ rfl⟩⟩) he) hg (by decide) (by decide) he hpl
end
end Dl
namespace Dl
open PySem PySem.Spec PyProof.Rows L2
/-! ### lists that change -/
/-- the list at a, as it stands now -/
def LstC (a : Addr) {α : Type} (A : Enc α) (xs : List α) : Cell where
  foot := [a]
  holds := fun K M H => ∃ vs, H a = some (.lst vs) ∧ Paired (A.R K M H) vs xs
  mono := fun k h => by
    obtain ⟨vs, e, r⟩ := h
    exact ⟨vs, k _ _ e (.inl (by simp)), paired_map (fun _ _ => A.mono fun a o e c => k a o e (.inr c)) r⟩
  set := fun k h => by
    obtain ⟨vs, e, r⟩ := h
    exact ⟨vs, e, paired_map (fun _ _ => A.set k) r⟩
abbrev lst (a : Addr) {α : Type} [A : Enc α] (xs : List α) : Cell := LstC a A xs
section
variable {K : PySem.W.Frag} {M M' : AS} {μ μ' : List Cell} {H H' : Hp} {a : Addr} {α : Type} [A : Enc α] {xs : List α} {vs : List V}
theorem foots_one {c : Cell} {a : Addr} : foots [c] a ↔ a ∈ c.foot := ⟨fun ⟨d, hd, ha⟩ => by rw [List.mem_singleton.mp hd] at ha; exact ha, fun h => ⟨c, List.mem_singleton.mpr rfl, h⟩⟩
theorem foots_snoc {c : Cell} {a : Addr} : foots (μ ++ [c]) a ↔ foots μ a ∨ a ∈ c.foot := by rw [foots_app, foots_one]
/-- a new list is laid as a cell -/
theorem new_cell (h : Holds K M μ H) {p : Addr} (hp : H p = none) (r : Paired (A.R K M H) vs xs) :
    Ste M μ H (fun a => M a ∨ a = p) (μ ++ [lst p xs]) (upd H p (.lst vs)) ∧ Holds K (fun a => M a ∨ a = p) (μ ++ [lst p xs]) (upd H p (.lst vs)) := by
  have s := foot_alloc h hp (.lst vs)
  have hh := h.alloc hp (.lst vs)
  have nm : ¬ M p := fun z => h.al p z hp
  have e1 : ∀ b, (M b ∨ b = p) → M b ∨ H b = none := fun b z => z.imp id fun e => by rw [e]; exact hp
  have k : Keep M H (upd H p (.lst vs)) := fun b o e _ => by rw [upd_ne (ne_of_none e hp)]; exact e
  refine ⟨⟨s.keep, s.al, e1, fun b z => ?_, fun b z _ _ => .inl z⟩, ⟨fun c hc => ?_, fun b z => ?_, fun b z => ?_, ?_⟩⟩
  · rcases foots_snoc.mp z with z | z
    · exact .inl z
    · rw [List.mem_singleton.mp z]; exact .inr hp
  · rcases List.mem_append.mp hc with hc | hc
    · exact (c.mono (M := fun a => M a ∨ a = p) (fun b o e _ => by rw [upd_ne (ne_of_none e hp)]; exact e) (c.set e1 (h.cell c hc)))
    · rw [List.mem_singleton.mp hc]
      exact ⟨vs, upd_same, paired_map (fun _ _ r => A.mono (M := fun a => M a ∨ a = p) (fun b o e _ => by rw [upd_ne (ne_of_none e hp)]; exact e) (A.set e1 r)) r⟩
  · rcases foots_snoc.mp z with z | z
    · exact .inl (h.inM b z)
    · exact .inr (List.mem_singleton.mp z)
  · rcases z with z | z
    · exact s.al b (h.al b z)
    · rw [z, upd_same]; exact fun q => nomatch q
  · refine List.pairwise_append.mpr ⟨h.dj, List.pairwise_singleton _ _, fun c hc d hd b hb hb2 => ?_⟩
    rw [List.mem_singleton.mp hd] at hb2
    rw [List.mem_singleton.mp hb2] at hb
    exact nm (h.inM p ⟨c, hc, hb⟩)
theorem foots_mid {c : Cell} {a : Addr} : foots (μ ++ c :: μ') a ↔ foots μ a ∨ a ∈ c.foot ∨ foots μ' a := by
  rw [show μ ++ c :: μ' = μ ++ ([c] ++ μ') from rfl, foots_app, foots_app, foots_one]
/-- a cell's list is changed -/
theorem put_cell {ys : List α} (h : Holds K M (μ ++ lst a xs :: μ') H) (r : Paired (A.R K M H) vs ys) : Ste M (μ ++ lst a xs :: μ') H M (μ ++ lst a ys :: μ') (upd H a (.lst vs)) ∧ Holds K M (μ ++ lst a ys :: μ') (upd H a (.lst vs)) := by
  obtain ⟨ws, ea, ra⟩ := h.cell (lst a xs) (by simp)
  have fa : foots (μ ++ lst a xs :: μ') a := foots_mid.mpr (.inr (.inl (by show a ∈ [a]; simp)))
  have ha : M a := h.inM a fa
  have k : ∀ b o, H b = some o → (b ≠ a ∨ Fix o) → upd H a (.lst vs) b = some o := fun b o e c => by
    by_cases hb : b = a
    · rcases c with c | c
      · exact absurd hb c
      · rw [hb] at e; rw [ea] at e; cases e; exact c.elim
    · rw [upd_ne hb]; exact e
  have al : ∀ b, H b ≠ none → upd H a (.lst vs) b ≠ none := fun b n => by
    by_cases hb : b = a
    · rw [hb, upd_same]; exact fun z => nomatch z
    · rw [upd_ne hb]; exact n
  have ff : ∀ b, foots (μ ++ lst a ys :: μ') b ↔ foots (μ ++ lst a xs :: μ') b := fun b => by rw [foots_mid, foots_mid]; rfl
  have dj := List.pairwise_append.mp h.dj
  have dj2 := List.pairwise_cons.mp dj.2.1
  have kM : Keep M H (upd H a (.lst vs)) := fun b o e c => k b o e (c.imp (fun n z => n (by rw [z]; exact ha)) id)
  refine ⟨⟨fun b o e c => k b o e (c.imp (fun n z => n (by rw [z]; exact fa)) id), al, fun b z => .inl z, fun b z => .inl ((ff b).mp z), fun b z _ _ => z⟩, ⟨fun c hc => ?_, fun b z => h.inM b ((ff b).mp z), fun b z => al b (h.al b z), ?_⟩⟩
  · have other : ∀ c, c ∈ μ ++ lst a xs :: μ' → a ∉ c.foot → c.holds K M (upd H a (.lst vs)) := fun c hc na => c.mono (fun b o e cc => k b o e (by
      rcases cc with cc | cc | cc
      · exact .inl fun z => na (by rw [← z]; exact cc)
      · exact .inl fun z => cc (by rw [z]; exact ha)
      · exact .inr cc)) (h.cell c hc)
    rcases List.mem_append.mp hc with hc | hc
    · exact other c (List.mem_append_left _ hc) fun z => dj.2.2 c hc (lst a xs) (by simp) a z (by show a ∈ [a]; simp)
    · rcases List.mem_cons.mp hc with hc | hc
      · rw [hc]
        exact ⟨vs, upd_same, paired_map (fun _ _ r => A.mono kM r) r⟩
      · exact other c (List.mem_append_right _ (List.mem_cons_of_mem _ hc)) fun z => dj2.1 c hc a (by show a ∈ [a]; simp) z
  · refine List.pairwise_append.mpr ⟨dj.1, List.pairwise_cons.mpr ⟨dj2.1, dj2.2⟩, fun c hc d hd => ?_⟩
    rcases List.mem_cons.mp hd with hd | hd
    · rw [hd]; exact dj.2.2 c hc (lst a xs) (by simp)
    · exact dj.2.2 c hc d (List.mem_cons_of_mem _ hd)
/-- a cell is read: its list -/
theorem get_cell {c : Cell} (h : Holds K M μ H) (hc : c ∈ μ) : c.holds K M H := h.cell c hc
/-- a list that nobody changes any more -/
theorem freeze (h : Holds K M (μ ++ lst a xs :: μ') H) : Ste M (μ ++ lst a xs :: μ') H (fun b => M b ∧ b ≠ a) (μ ++ μ') H ∧ Holds K (fun b => M b ∧ b ≠ a) (μ ++ μ') H ∧ Enc.R K (fun b => M b ∧ b ≠ a) H (.ref a) xs := by
  obtain ⟨ws, ea, ra⟩ := h.cell (lst a xs) (by simp)
  have dj := List.pairwise_append.mp h.dj
  have dj2 := List.pairwise_cons.mp dj.2.1
  have ff : ∀ b, foots (μ ++ μ') b → foots (μ ++ lst a xs :: μ') b := fun b z => by
    rw [foots_mid]
    exact (foots_app.mp z).imp id .inr
  have na : ¬ foots (μ ++ μ') a := fun z => by
    rcases foots_app.mp z with ⟨c, hc, ha⟩ | ⟨c, hc, ha⟩
    · exact dj.2.2 c hc (lst a xs) (by simp) a ha (by show a ∈ [a]; simp)
    · exact dj2.1 c hc a (by show a ∈ [a]; simp) ha
  have st : ∀ b, (M b ∧ b ≠ a) → M b ∨ H b = none := fun b z => .inl z.1
  refine ⟨⟨Keep.refl, fun _ n => n, st, fun b z => .inl (ff b z), fun b z _ n => ⟨z, fun e => n (foots_mid.mpr (.inr (.inl (by rw [e]; show a ∈ [a]; simp))))⟩⟩, ⟨fun c hc => c.set st (h.cell c ?_), fun b z => ⟨h.inM b (ff b z), fun e => na (by rw [← e]; exact z)⟩, fun b z => h.al b z.1, ?_⟩, ⟨a, ws, rfl, fun z => z.2 rfl, .inl ea, paired_map (fun _ _ r => A.set st r) ra⟩⟩
  · rcases List.mem_append.mp hc with hc | hc
    · exact List.mem_append_left _ hc
    · exact List.mem_append_right _ (List.mem_cons_of_mem _ hc)
  · exact List.pairwise_append.mpr ⟨dj.1, dj2.2, fun c hc d hd => dj.2.2 c hc d (List.mem_cons_of_mem _ hd)⟩
end
theorem split_at {μ : List Cell} {i : Nat} {c : Cell} (h : μ[i]? = some c) : μ = μ.take i ++ c :: μ.drop (i + 1) ∧ (∀ c', μ.set i c' = μ.take i ++ c' :: μ.drop (i + 1)) ∧ μ.eraseIdx i = μ.take i ++ μ.drop (i + 1) := by
  obtain ⟨hi, e⟩ := List.getElem?_eq_some_iff.mp h
  refine ⟨?_, fun c' => ?_, ?_⟩
  · rw [← e, List.getElem_cons_drop, List.take_append_drop]
  · rw [List.set_eq_take_append_cons_drop, if_pos hi]
  · rw [List.eraseIdx_eq_take_drop_succ]
section
variable {X : Cx} {α β γ ρ : Type} [Enc α] [Enc β] [Enc γ] [Enc ρ] {e a b tg : Expr} {es : List Expr} {δ : List Slot} {μ : List Cell} {P : α → List Cell → Prop} {PB : Bool → List Cell → Prop}
  {N B C : PN} {R : ρ → List Cell → Prop} {st : Stmt} {sts s1 s2 body : List Stmt} {pos p : Pos}
/-- a list display that is to change -/
theorem de_lstN {P : Ref → List Cell → Prop} (h : DA X es δ μ fun ss μ1 => ∃ xs : List α, ss = xs.map (fun x => sl x) ∧ xs.length ≤ 1000 ∧ ∀ l, P ⟨l⟩ (μ1 ++ [lst l xs])) : DE X (.List es pos) δ μ P :=
  of_pe (pe_lst (cA_pa es)) fun M σ H E Q q => h M σ H E _ fun ss μ1 M1 vs H1 p1 s1 hh1 r1 => by
    obtain ⟨xs, rfl, hl, p⟩ := p1
    have r := SlVs.ex r1
    refine ⟨by rw [r.length]; exact Nat.le_trans hl (by decide), fun p' hp => ?_⟩
    obtain ⟨s3, h3⟩ := new_cell hh1 hp r
    exact q ⟨p'⟩ _ _ _ _ (p p') (s1.trans s3) h3 rfl
/-- a changing list is left as it is, for good: i is its cell's place -/
theorem de_frz {P : List α → List Cell → Prop} (i : Nat) (h : DE X e δ μ fun (x : Ref) μ1 => ∃ xs : List α, μ1[i]? = some (lst x.a xs) ∧ P xs (μ1.eraseIdx i)) : DE X e δ μ P :=
  fun M σ H E Q q => h M σ H E _ fun x μ1 M1 v H1 p1 s1 hh1 r1 => by
    obtain ⟨xs, hi, p⟩ := p1
    obtain ⟨e1, e2, e3⟩ := split_at hi
    rw [e1] at hh1 s1
    obtain ⟨s2, h2, r2⟩ := freeze hh1
    cases r1
    rw [e3] at p
    exact q xs _ _ _ _ p (s1.trans s2) h2 r2
/-- xs.append(y) -/
theorem de_append {apos : Pos} {P : Unit → List Cell → Prop} (i : Nat)
    (h : DE X a δ μ fun (x : Ref) μ1 => (∃ zs : List α, μ1[i]? = some (lst x.a zs)) ∧ DE X b δ μ1 fun (y : α) μ2 => ∃ xs : List α, μ2[i]? = some (lst x.a xs) ∧ xs.length < 10000 ∧ P () (μ2.set i (lst x.a (xs ++ [y]))))
    (hbase : attributeBase a "append" X.env (eval a X.env) = eval a X.env := by rfl)
    (hfew : ((backTo pos (starEach (b :: []) X.env)).all (fun x => !x.1) && (backToKw pos (keywordEach [] X.env)).all (fun x => x.1.isSome)
      && decide ((b :: []).length + ([] : List Keyword).length + (if ([] : List Keyword).isEmpty then 0 else 1) < 30)) = true := by rfl)
    (hline : (apos.endLine == pos.line) = true := by rfl) (hst : starEach [b] X.env = (false, eval b X.env) :: starEach [] X.env := by rfl) (hplain : (backTo pos (starEach [] X.env)).any (·.1) = false := by rfl) :
    DE X (.Call (.Attribute a "append" apos) [b] [] pos) δ μ P :=
  of_pe (pe_bm PySem.F.plainAttrs_list PySem.F.slot_list_append PySem.F.type_list_append mt_append (cE_pe a) (pa_cons (cE_pe b) pa_nil hst) hbase hfew hline hst hplain) fun M σ H E Q q => h M σ H E _ fun x μ1 M1 v H1 p1 s1 hh1 r1 => by
    obtain ⟨⟨zs, hz⟩, p1⟩ := p1
    cases r1
    obtain ⟨ws, ew, _⟩ := hh1.cell _ (List.mem_of_getElem? hz)
    refine ⟨.inl ⟨rfl, ws, .inl (.inl ew)⟩, ?_⟩
    refine p1 M1 σ H1 (E.step s1 hh1) _ fun y μ2 M2 w H2 p2 s2 hh2 r2 => ?_
    obtain ⟨xs, hx, hl, p⟩ := p2
    obtain ⟨e1, e2, e3⟩ := split_at hx
    obtain ⟨vs, ev, rv⟩ := hh2.cell _ (List.mem_of_getElem? hx)
    have hh2' := hh2
    rw [e1] at hh2'
    have r3 : Paired (Enc.R X.K M2 H2) (vs ++ [w]) (xs ++ [y]) := by
      have : ∀ {vs : List V} {xs : List α}, Paired (Enc.R X.K M2 H2) vs xs → Paired (Enc.R X.K M2 H2) (vs ++ [w]) (xs ++ [y]) := by
        intro vs xs r
        induction r with
        | nil => exact .cons r2 .nil
        | cons r t ih => exact .cons r ih
      exact this rv
    obtain ⟨s3, h3⟩ := put_cell hh2' r3
    rw [← e1, ← e2] at s3
    rw [← e2] at h3
    exact ⟨x.a, vs, w, rfl, rfl, ev, by rw [rv.length]; exact Nat.lt_of_lt_of_le hl (by decide), q () _ _ .non _ p ((s1.trans s2).trans s3) h3 rfl⟩
/-- xs[i] of a changing list -/
theorem de_ixC {P : α → List Cell → Prop} (c : Nat) (h : DE X a δ μ fun (x : Ref) μ1 => DE X b δ μ1 fun (i : Int) μ2 => ∃ xs : List α, μ2[c]? = some (lst x.a xs) ∧ ∃ y, atI xs i = some y ∧ P y μ2) (hs : PlainIx b := by exact fun _ _ => rfl) : DE X (.Subscript a b pos) δ μ P :=
  of_pe (pe_ix ix_list (cE_pe a) (cE_pe b) hs) fun M σ H E Q q => h M σ H E _ fun x μ1 M1 v1 H1 p1 s1 hh1 r1 => p1 M1 σ H1 (E.step s1 hh1) _ fun i μ2 M2 w H2 p2 s2 hh2 r2 => by
    obtain ⟨xs, hx, y, hy, p⟩ := p2
    cases r1; cases r2
    obtain ⟨vs, ev, rv⟩ := hh2.cell _ (List.mem_of_getElem? hx)
    obtain ⟨v, hv, r⟩ := paired_atI rv hy
    exact ⟨x.a, vs, i, v, rfl, rfl, .inl (.inl ev), hv, q y μ2 M2 v H2 p (s1.trans s2) hh2 r⟩
/-- xs[i] = e -/
theorem ds_setItem {e : Expr} {tpos : Pos} (c : Nat) (h : DE X e δ μ fun (y : α) μ0 => DE X a δ μ0 fun (x : Ref) μ1 => DE X b δ μ1 fun (i : Int) μ2 => ∃ xs : List α, μ2[c]? = some (lst x.a xs) ∧ ∃ j, ixN xs.length i = some j ∧ N δ (μ2.set c (lst x.a (xs.set j y))))
    (ha : ∀ v, assign (.Subscript a b tpos) X.env v = (do
      let ov ← holding [v] (eval a X.env)
      let iv ← holding [v, ov] (eval b X.env)
      standAt tpos
      holding [v, ov, iv] (setItem ov iv v)
      release [v, ov, iv] []) := by intro _; rfl)
    (hs : swapsWithSole [.Subscript a b tpos] e pos.line X.env = pure false := by rfl) (hw : swappedStores [.Subscript a b tpos] e X.env = pure none := by rfl)
    (h1 : (assignEach [.Subscript a b tpos] X.env).map (·.2) = [assign (.Subscript a b tpos) X.env] := by rfl) :
    DS X (.Assign [.Subscript a b tpos] e pos) δ μ N R B C :=
  of_ps (ps_asg (cE_pe e) (pg_sub (cE_pe a) (cE_pe b) set_list ha) hs hw h1) fun M σ H E D nk rk bk ck => h M σ H E _ fun y μ0 M0 v0 H0 p0 s0 hh0 r0 => p0 M0 σ H0 (E.step s0 hh0) _ fun x μ1 M1 v1 H1 p1 s1 hh1 r1 =>
    p1 M1 σ H1 (E.step (s0.trans s1) hh1) _ fun i μ2 M2 w H2 p2 s2 hh2 r2 => by
    obtain ⟨xs, hx, j, hj, p⟩ := p2
    cases r1; cases r2
    obtain ⟨vs, ev, rv⟩ := hh2.cell _ (List.mem_of_getElem? hx)
    obtain ⟨e1, e2, e3⟩ := split_at hx
    have hh2' := hh2
    rw [e1] at hh2'
    have r3 : Paired (Enc.R X.K M2 H2) (vs.set j v0) (xs.set j y) := by
      have ry := tr (s1.trans s2) hh0 r0
      have : ∀ {vs : List V} {xs : List α} {j : Nat}, Paired (Enc.R X.K M2 H2) vs xs → Paired (Enc.R X.K M2 H2) (vs.set j v0) (xs.set j y) := by
        intro vs xs j r
        induction r generalizing j with
        | nil => exact .nil
        | cons r t ih =>
          cases j with
          | zero => exact .cons ry t
          | succ j => exact .cons r ih
      exact this rv
    obtain ⟨s3, h3⟩ := put_cell hh2' r3
    rw [← e1, ← e2] at s3
    rw [← e2] at h3
    exact ⟨x.a, vs, i, j, rfl, rfl, ev, by rw [rv.length]; exact hj, nk _ _ _ _ _ p (((s0.trans s1).trans s2).trans s3) (E.step (((s0.trans s1).trans s2).trans s3) h3)⟩
/-- len -/
theorem de_lenL {p : Pos} {P : Int → List Cell → Prop} (hm : X.mg "len" = none) (h : DE X a δ μ fun (xs : List α) μ1 => P xs.length μ1) (hg : Gl X "len" := by rfl)
    (he : starEach [a] X.env = (false, eval a X.env) :: starEach [] X.env := by rfl) (hpl : (backTo pos (starEach [] X.env)).any (·.1) = false := by rfl) : DE X (.Call (.Name "len" p) [a] [] pos) δ μ P :=
  de_cb call_len hm PySem.boot_len (da_cons (h.mono fun i μ1 q => da_nil ⟨_, q, fun M H vs r Q k => by
    cases r with
    | cons r1 r =>
      cases r
      obtain ⟨ad, vs, rfl, _, rd, rp⟩ := r1
      exact ⟨_, vs.length, rfl, .inl ⟨vs, .inl rd, rfl⟩, k _ (by rw [rp.length]; rfl)⟩⟩) he) hg (by decide) (by decide) he hpl
theorem de_lenT {p : Pos} {P : Int → List Cell → Prop} (hm : X.mg "len" = none) (h : DE X a δ μ fun (xs : Tup α) μ1 => P xs.l.length μ1) (hg : Gl X "len" := by rfl)
    (he : starEach [a] X.env = (false, eval a X.env) :: starEach [] X.env := by rfl) (hpl : (backTo pos (starEach [] X.env)).any (·.1) = false := by rfl) : DE X (.Call (.Name "len" p) [a] [] pos) δ μ P :=
  de_cb call_len hm PySem.boot_len (da_cons (h.mono fun i μ1 q => da_nil ⟨_, q, fun M H vs r Q k => by
    cases r with
    | cons r1 r =>
      cases r
      obtain ⟨ad, vs, rfl, rd, rp⟩ := r1
      exact ⟨_, vs.length, rfl, .inr ⟨vs, rd, rfl⟩, k _ (by rw [rp.length]; rfl)⟩⟩) he) hg (by decide) (by decide) he hpl
theorem de_len2 {p : Pos} {P : Int → List Cell → Prop} (hm : X.mg "len" = none) (h : DE X a δ μ fun (xs : α × β) μ1 => P 2 μ1) (hg : Gl X "len" := by rfl)
    (he : starEach [a] X.env = (false, eval a X.env) :: starEach [] X.env := by rfl) (hpl : (backTo pos (starEach [] X.env)).any (·.1) = false := by rfl) : DE X (.Call (.Name "len" p) [a] [] pos) δ μ P :=
  de_cb call_len hm PySem.boot_len (da_cons (h.mono fun i μ1 q => da_nil ⟨_, q, fun M H vs r Q k => by
    cases r with
    | cons r1 r =>
      cases r
      obtain ⟨ad, v1, v2, rfl, rd, rp⟩ := r1
      exact ⟨_, 2, rfl, .inr ⟨_, rd, rfl⟩, k _ rfl⟩⟩) he) hg (by decide) (by decide) he hpl
theorem de_lenC {p : Pos} {P : Int → List Cell → Prop} (c : Nat) (hm : X.mg "len" = none) (h : DE X a δ μ fun (x : Ref) μ1 => ∃ xs : List α, μ1[c]? = some (lst x.a xs) ∧ P xs.length μ1) (hg : Gl X "len" := by rfl)
    (he : starEach [a] X.env = (false, eval a X.env) :: starEach [] X.env := by rfl) (hpl : (backTo pos (starEach [] X.env)).any (·.1) = false := by rfl) : DE X (.Call (.Name "len" p) [a] [] pos) δ μ P :=
  of_pe (pe_callB call_len hg hm PySem.boot_len (pa_cons (cE_pe a) pa_nil he) (by decide) (by decide) he hpl) fun M σ H E Q q => h M σ H E _ fun x μ1 M1 v1 H1 p1 s1 hh1 r1 => by
    obtain ⟨xs, hx, p⟩ := p1
    cases r1
    obtain ⟨vs, ev, rv⟩ := hh1.cell _ (List.mem_of_getElem? hx)
    exact ⟨_, vs.length, rfl, .inl ⟨vs, .inl (.inl ev), rfl⟩, q _ μ1 M1 _ H1 p s1 hh1 (by rw [rv.length]; rfl)⟩
/-- tuple(xs) of a list -/
theorem de_tuple {p : Pos} {P : Tup α → List Cell → Prop} (hm : X.mg "tuple" = none) (h : DE X a δ μ fun (xs : List α) μ1 => P ⟨xs⟩ μ1) (hg : Gl X "tuple" := by rfl)
    (he : starEach [a] X.env = (false, eval a X.env) :: starEach [] X.env := by rfl) : DE X (.Call (.Name "tuple" p) [a] [] pos) δ μ P :=
  of_pe (pe_tupleOf hg hm (cE_pe a) he) fun M σ H E Q q => h M σ H E _ fun xs μ1 M1 v1 H1 p1 s1 hh1 r1 => by
    have r0 := r1
    obtain ⟨ad, vs, rfl, nm, rd, rp⟩ := r1
    refine .inl ⟨ad, vs, rfl, .inl rd, fun c hc => ?_⟩
    have s2 := foot_alloc hh1 hc (.tup vs)
    exact q ⟨xs⟩ μ1 M1 _ _ p1 (s1.trans s2) (hh1.alloc hc _) ⟨c, vs, rfl, SqT.of upd_same, paired_map (fun _ _ r => tr s2 hh1 r) rp⟩
/-- list(xs): a new list that is to change -/
theorem de_list {p : Pos} {P : Ref → List Cell → Prop} (hm : X.mg "list" = none) (h : DE X a δ μ fun (xs : Tup α) μ1 => ∀ l, P ⟨l⟩ (μ1 ++ [lst l xs.l])) (hg : Gl X "list" := by rfl)
    (he : starEach [a] X.env = (false, eval a X.env) :: starEach [] X.env := by rfl) (hpl : (backTo pos (starEach [] X.env)).any (·.1) = false := by rfl) : DE X (.Call (.Name "list" p) [a] [] pos) δ μ P :=
  of_pe (pe_callTy call_list_of hg hm (by decide +kernel) (pa_cons (cE_pe a) pa_nil he) (by decide) (by decide) he hpl) fun M σ H E Q q => h M σ H E _ fun xs μ1 M1 v1 H1 p1 s1 hh1 r1 => by
    obtain ⟨ad, vs, rfl, rd, rp⟩ := r1
    refine ⟨ad, vs, rfl, .inr rd, fun c hc => ?_⟩
    obtain ⟨s2, h2⟩ := new_cell hh1 hc rp
    exact q ⟨c⟩ _ _ _ _ (p1 c) (s1.trans s2) h2 rfl
end
end Dl
namespace Dl
open PySem PySem.Spec PyProof.Rows L2
/-! ### comprehensions -/
def wipeD (δ : List Slot) : List Nat → List Slot
  | [] => δ
  | v :: vs => (wipeD δ vs).set v .any
theorem wipe_at {σ : L2.St} : ∀ {vs : List Nat} {j : Nat}, (wipe σ vs)[j]? = if j ∈ vs ∧ j < σ.length then some none else σ[j]?
  | [], j => by simp [wipe]
  | v :: vs, j => by
    show ((wipe σ vs).set v none)[j]? = _
    rw [List.getElem?_set, wipe_at (vs := vs), wipe_length]
    by_cases h : v = j
    · subst h
      by_cases h2 : v < σ.length
      · simp [h2]
      · simp [h2]
    · have h' : ¬ j = v := fun e => h e.symm
      simp [h, h']
theorem wipe_set {σ : L2.St} {vs : List Nat} {i : Nat} {x : Option V} (h : i ∈ vs) : wipe ((wipe σ vs).set i x) vs = wipe σ vs := by
  apply List.ext_getElem?
  intro j
  rw [wipe_at, wipe_at, List.length_set, wipe_length]
  by_cases h1 : j ∈ vs ∧ j < σ.length
  · rw [if_pos h1, if_pos h1]
  · rw [if_neg h1, if_neg h1, List.getElem?_set, wipe_at, wipe_length]
    by_cases h2 : i = j
    · subst h2
      have : ¬ i < σ.length := fun z => h1 ⟨h, z⟩
      rw [if_pos rfl, if_neg this]
      exact (List.getElem?_eq_none (by omega)).symm
    · rw [if_neg h2, if_neg h1]
theorem wipe_set2 {σ : L2.St} {vs : List Nat} {i j : Nat} {x y : Option V} (h : i ∈ vs) (h' : j ∈ vs) : wipe (((wipe σ vs).set i x).set j y) vs = wipe σ vs := by
  apply List.ext_getElem?
  intro k
  rw [wipe_at, wipe_at, List.length_set, List.length_set, wipe_length]
  by_cases h1 : k ∈ vs ∧ k < σ.length
  · rw [if_pos h1, if_pos h1]
  · rw [if_neg h1, if_neg h1, List.getElem?_set, List.getElem?_set, wipe_at, List.length_set, wipe_length]
    by_cases h3 : j = k
    · subst h3
      have : ¬ j < σ.length := fun z => h1 ⟨h', z⟩
      rw [if_pos rfl, if_neg this]
      exact (List.getElem?_eq_none (by omega)).symm
    · rw [if_neg h3]
      by_cases h2 : i = k
      · subst h2
        have : ¬ i < σ.length := fun z => h1 ⟨h, z⟩
        rw [if_pos rfl, if_neg this]
        exact (List.getElem?_eq_none (by omega)).symm
      · rw [if_neg h2, if_neg h1]
section
variable {K : PySem.W.Frag} {M M' : AS} {μ μ' : List Cell} {δ : List Slot} {σ : L2.St} {H H' : Hp}
theorem EnvOk.wipe (E : EnvOk K M μ δ σ H) : ∀ vs : List Nat, EnvOk K M μ (wipeD δ vs) (L2.wipe σ vs) H
  | [] => E
  | v :: vs => by
    have E1 := E.wipe vs
    refine ⟨E1.h, by show ((L2.wipe σ vs).set v none).length = ((wipeD δ vs).set v .any).length; rw [List.length_set, List.length_set]; exact E1.len, fun i s w e1 e2 => ?_⟩
    have e1 : ((wipeD δ vs).set v .any)[i]? = some s := e1
    have e2 : ((L2.wipe σ vs).set v none)[i]? = some w := e2
    by_cases h : v = i
    · subst h
      rw [List.getElem?_set] at e1
      rw [if_pos rfl] at e1
      split at e1
      · cases e1; trivial
      · cases e1
    · rw [List.getElem?_set_ne h] at e1 e2
      exact E1.sl i s w e1 e2
theorem EnvOk.cells (E : EnvOk K M μ δ σ H) (h : Holds K M μ' H) : EnvOk K M μ' δ σ H := ⟨h, E.len, E.sl⟩
/-- a target within a block -/
structure WB (K : PySem.W.Frag) (g : TG) (vs : List Nat) (s : Slot) (dg : List Slot → List Slot) : Prop where
  run : ∀ (δ : List Slot) (M : AS) (μ : List Cell) (σ : L2.St) (H : Hp) (v : V), EnvOk K M μ δ σ H → SlotV K M H v s → ∀ Q : L2.St → Hp → Prop, (∀ σ', EnvOk K M μ (dg (wipeD δ vs)) σ' H → L2.wipe σ' vs = L2.wipe σ vs → Q σ' H) → g v (L2.wipe σ vs) H Q
theorem wb_name {i : Nat} {vs : List Nat} {s : Slot} (h : i ∈ vs := by decide) : WB K (gName i) vs s (fun δ => δ.set i s) := ⟨fun δ M μ σ H v E r Q k => k _ ((E.wipe vs).put r) (wipe_set h)⟩
theorem wb_pair {i j : Nat} {vs : List Nat} {α β : Type} {A : Enc α} {B : Enc β} {x : α × β} (h : i ∈ vs := by decide) (h' : j ∈ vs := by decide) : WB K (gTup K 2 (gCons (gName i) (gCons (gName j) gNil))) vs (.val (@instEncProd α β A B) x) (fun δ => (δ.set i (.val A x.1)).set j (.val B x.2)) :=
  ⟨fun δ M μ σ H v E r Q k => by
    obtain ⟨a, v1, v2, rfl, hs, r1, r2⟩ := r
    exact ⟨a, [v1, v2], rfl, hs, rfl, v1, [v2], rfl, v2, [], rfl, rfl, k _ (((E.wipe vs).put (s := .val A x.1) r1).put (s := .val B x.2) r2) (wipe_set2 h h')⟩⟩
end
section
variable {X : Cx} {α β γ ρ : Type} [Enc α] [Enc β] [Enc γ] [Enc ρ] {e a b tg iter elt : Expr} {es ifs : List Expr} {δ : List Slot} {μ : List Cell}
  {pos p : Pos} {scope : Scope} {own : List (Str × Nat)} {g : TG}
abbrev blk (X : Cx) (scope : Scope) (s : Shared) (H : Hp) (C : Addr) (cl : List (Str × Addr)) (fp : List Addr) : Cx := X.blk s H scope (compEnvC scope cl C X.env) fp
def cB (X : Cx) (scope : Scope) (e : Expr) : TE := fun σ H Q => ∀ s H0 C cl fp, cE (blk X scope s H0 C cl fp) e σ H Q
def cBT (X : Cx) (scope : Scope) (e : Expr) : TT := fun σ H Q => ∀ s H0 C cl fp, cV (blk X scope s H0 C cl fp) e σ H Q
theorem cB_pe (s H0 C cl fp) : PE (blk X scope s H0 C cl fp) e (cB X scope e) := ⟨fun pins st σ H Q I h => h s H0 C cl fp pins st I⟩
theorem cBT_pt (s H0 C cl fp) : PT (blk X scope s H0 C cl fp) e (cBT X scope e) := ⟨fun pins st σ H Q I h => h s H0 C cl fp pins st I⟩
/-- what a turn of the block does -/
def Turns (X : Cx) (scope : Scope) (elt : Expr) (ifs : List Expr) {β : Type} [Enc β] (δ : List Slot) (μ : List Cell) (Yes : β → List Cell → Prop) (No : List Cell → Prop) : Prop :=
  ∀ s H C cl fp, match ifs with
    | [] => DE (blk X scope s H C cl fp) elt δ μ Yes
    | c :: _ => DT (blk X scope s H C cl fp) c δ μ fun b μ1 => (b = true → ∀ s H C cl fp, DE (blk X scope s H C cl fp) elt δ μ1 Yes) ∧ (b = false → No μ1)
def ttOf (X : Cx) (scope : Scope) : List Expr → TT
  | [] => tYes
  | c :: _ => cBT X scope c
theorem Ste.swap_r {M M' : AS} {μ μ' : List Cell} {H H' : Hp} (s : Ste M μ H M' μ' H') : Ste M μ H M' μ' H' := s
/-- one turn: from the readings to the cells -/
theorem turn_ok {D : Addr} {M : AS} {H : Hp} {M1 : AS} {μ1 μ' : List Cell} {H1 : Hp} {ys : List β} {J : List β → List Cell → Prop} {δ' : List Slot} {σ2 : L2.St} {Nx : Hp → Prop}
    (ht : Turns X scope elt ifs δ' μ' (fun (y : β) μ3 => ys.length < 10000 ∧ J (ys ++ [y]) μ3) (fun μ3 => J ys μ3))
    (s : Ste M1 μ1 H1 M (μ' ++ [lst D ys]) H) (E : EnvOk X.K M (μ' ++ [lst D ys]) δ' σ2 H)
    (nx : ∀ ys' μ3 M3 H3, J ys' μ3 → Ste M1 μ1 H1 M3 (μ3 ++ [lst D ys']) H3 → Holds X.K M3 (μ3 ++ [lst D ys']) H3 → Nx H3) :
    ttOf X scope ifs σ2 H fun b H3 => if b = true then cB X scope elt σ2 H3 fun y H4 => ∃ acc, H4 D = some (.lst acc) ∧ acc.length < sizeLine ∧ Nx (upd H4 D (.lst (acc ++ [y]))) else Nx H3 := by
  have sp : Parts (μ' ++ [lst D ys]) μ' [lst D ys] := ⟨List.Perm.refl _⟩
  have yes : ∀ {M2 : AS} {μ2 : List Cell} {H2 : Hp}, (∀ s H C cl fp, DE (blk X scope s H C cl fp) elt δ' μ2 (fun (y : β) μ3 => ys.length < 10000 ∧ J (ys ++ [y]) μ3)) → Ste M1 μ1 H1 M2 (μ2 ++ [lst D ys]) H2 → EnvOk X.K M2 (μ2 ++ [lst D ys]) δ' σ2 H2 →
      cB X scope elt σ2 H2 fun y H4 => ∃ acc, H4 D = some (.lst acc) ∧ acc.length < sizeLine ∧ Nx (upd H4 D (.lst (acc ++ [y]))) := by
    intro M2 μ2 H2 hd s2 E2 sh H0 C cl fp
    have sp2 : Parts (μ2 ++ [lst D ys]) μ2 [lst D ys] := ⟨List.Perm.refl _⟩
    refine hd sh H0 C cl fp M2 σ2 H2 (E2.cells (E2.h.part sp2)) _ fun y μ3 M3 v H3 p3 s3 h3 r3 => ?_
    obtain ⟨s4, h4⟩ := frame E2.h sp2 s3 h3
    obtain ⟨acc, ea, ra⟩ := h4.cell (lst D ys) (by simp)
    have r4 : Paired (Enc.R X.K M3 H3) (acc ++ [v]) (ys ++ [y]) := by
      have : ∀ {vs : List V} {xs : List β}, Paired (Enc.R X.K M3 H3) vs xs → Paired (Enc.R X.K M3 H3) (vs ++ [v]) (xs ++ [y]) := by
        intro vs xs r
        induction r with
        | nil => exact .cons r3 .nil
        | cons r t ih => exact .cons r ih
      exact this ra
    obtain ⟨s5, h5⟩ := put_cell (μ' := []) h4 r4
    exact ⟨acc, ea, by rw [ra.length]; exact Nat.lt_of_lt_of_le p3.1 (by decide), nx _ _ _ _ p3.2 ((s2.trans s4).trans s5) h5⟩
  cases ifs with
  | nil => exact iteT (B := Nx H) (yes (fun s H C cl fp => ht s H C cl fp) s E)
  | cons c r =>
    intro sh H0 C cl fp
    refine ht sh H0 C cl fp M σ2 H (E.cells (E.h.part sp)) _ fun b μ2 M2 H2 p2 s2 h2 => ?_
    obtain ⟨s3, h3⟩ := frame E.h sp s2 h2
    cases b with
    | true => exact iteT (yes (p2.1 rfl) (s.trans s3) (E.step s3 h3))
    | false => exact iteF (nx _ _ _ _ (p2.2 rfl) (s.trans s3) h3)
theorem pts_of (hl : ifs.length ≤ 1) (s H0 C cl fp) : PTs (blk X scope s H0 C cl fp) ifs (ttOf X scope ifs) := by
  cases ifs with
  | nil => exact pts_nil
  | cons c r =>
    cases r with
    | nil => exact pts_one (cBT_pt s H0 C cl fp)
    | cons d r => simp at hl
/-- the whole comprehension over a list that stays: its reading -/
theorem we_lcLN {A : Enc α} (dg : α → List Slot → List Slot) (hw : ∀ x : α, WB X.K g (own.map (·.2)) (.val A x) (dg x))
    {P : Ref → List Cell → Prop} (h : DE X iter δ μ fun (xs : List α) μ1 => ∃ J : Nat → List β → List Cell → Prop, J 0 [] μ1 ∧
      (∀ k x ys μ', xs[k]? = some x → J k ys μ' → Turns X scope elt ifs (dg x (wipeD δ (own.map (·.2)))) μ' (fun (y : β) μ3 => ys.length < 10000 ∧ J (k + 1) (ys ++ [y]) μ3) (fun μ3 => J (k + 1) ys μ3)) ∧ (∀ ys μ', J xs.length ys μ' → ∀ D, P ⟨D⟩ (μ' ++ [lst D ys]))) :
    WE X.K (tLc (iList X.K (cE X iter)) g (ttOf X scope ifs) (cB X scope elt) (own.map (·.2))) δ μ P := fun M σ H E Q q => h M σ H E _ fun xs μ1 M1 v H1 p1 s1 hh1 r1 => by
  obtain ⟨J, j0, jh, je⟩ := p1
  obtain ⟨ad, vs, rfl, nm, rd, rp⟩ := r1
  have hl := rp.length
  have lt : ad < ad + 1 := Nat.lt_succ_self _
  refine ⟨ad, rfl, ⟨vs, .inl rd⟩, fun D hD => ?_⟩
  obtain ⟨s2, h2⟩ := new_cell (A := inferInstanceAs (Enc β)) (xs := ([] : List β)) hh1 hD .nil
  have E1 := E.step s1 hh1
  refine lc_list (xs := vs) (fun i H' => ∃ M' μ' ys, J i ys μ' ∧ Ste M1 μ1 H1 M' (μ' ++ [lst D ys]) H' ∧ Holds X.K M' (μ' ++ [lst D ys]) H') ⟨_, μ1, [], j0, s2, h2⟩ ?_ ?_ ?_
  · rintro i H' hi ⟨M', μ', ys, hJ, s, hh⟩
    rcases rd with rd | ⟨o, rd⟩
    · exact .inl (.inl (s.keep _ _ rd (.inl fun z => nm (hh1.inM _ z))))
    · exact .inl (.inr ⟨o, s.keep _ _ rd (.inr trivial)⟩)
  · rintro i y H' hi ⟨M', μ', ys, hJ, s, hh⟩
    have hi' : i < xs.length := by rw [← hl]; exact (List.getElem?_eq_some_iff.mp hi).1
    obtain ⟨y', e1, ry⟩ := paired_get rp (List.getElem?_eq_getElem hi')
    rw [hi] at e1; cases e1
    refine (hw xs[i]).run δ M' _ σ H' y (E1.step s hh) (Dl.tr (A := A) s hh1 ry) _ fun σ2 E2 ew => ⟨ew, ?_⟩
    exact turn_ok (J := fun ys μ3 => J (i + 1) ys μ3) (jh i _ ys μ' (List.getElem?_eq_getElem hi') hJ) s E2 fun ys' μ3 M3 H3 pj s3 h3 => ⟨M3, μ3, ys', pj, s3, h3⟩
  · rintro H' ⟨M', μ', ys, hJ, s, hh⟩
    rw [hl] at hJ
    exact q ⟨D⟩ _ _ _ _ (je _ _ hJ D) (s1.trans s) hh rfl
theorem we_lcL {A : Enc α} (dg : α → List Slot → List Slot) (hw : ∀ x : α, WB X.K g (own.map (·.2)) (.val A x) (dg x))
    {P : List β → List Cell → Prop} (h : DE X iter δ μ fun (xs : List α) μ1 => ∃ J : Nat → List β → List Cell → Prop, J 0 [] μ1 ∧
      (∀ k x ys μ', xs[k]? = some x → J k ys μ' → Turns X scope elt ifs (dg x (wipeD δ (own.map (·.2)))) μ' (fun (y : β) μ3 => ys.length < 10000 ∧ J (k + 1) (ys ++ [y]) μ3) (fun μ3 => J (k + 1) ys μ3)) ∧ (∀ ys μ', J xs.length ys μ' → P ys μ')) :
    WE X.K (tLc (iList X.K (cE X iter)) g (ttOf X scope ifs) (cB X scope elt) (own.map (·.2))) δ μ P := fun M σ H E Q q => h M σ H E _ fun xs μ1 M1 v H1 p1 s1 hh1 r1 => by
  obtain ⟨J, j0, jh, je⟩ := p1
  obtain ⟨ad, vs, rfl, nm, rd, rp⟩ := r1
  have hl := rp.length
  have lt : ad < ad + 1 := Nat.lt_succ_self _
  refine ⟨ad, rfl, ⟨vs, .inl rd⟩, fun D hD => ?_⟩
  obtain ⟨s2, h2⟩ := new_cell (A := inferInstanceAs (Enc β)) (xs := ([] : List β)) hh1 hD .nil
  have E1 := E.step s1 hh1
  refine lc_list (xs := vs) (fun i H' => ∃ M' μ' ys, J i ys μ' ∧ Ste M1 μ1 H1 M' (μ' ++ [lst D ys]) H' ∧ Holds X.K M' (μ' ++ [lst D ys]) H') ⟨_, μ1, [], j0, s2, h2⟩ ?_ ?_ ?_
  · rintro i H' hi ⟨M', μ', ys, hJ, s, hh⟩
    rcases rd with rd | ⟨o, rd⟩
    · exact .inl (.inl (s.keep _ _ rd (.inl fun z => nm (hh1.inM _ z))))
    · exact .inl (.inr ⟨o, s.keep _ _ rd (.inr trivial)⟩)
  · rintro i y H' hi ⟨M', μ', ys, hJ, s, hh⟩
    have hi' : i < xs.length := by rw [← hl]; exact (List.getElem?_eq_some_iff.mp hi).1
    obtain ⟨y', e1, ry⟩ := paired_get rp (List.getElem?_eq_getElem hi')
    rw [hi] at e1; cases e1
    refine (hw xs[i]).run δ M' _ σ H' y (E1.step s hh) (Dl.tr (A := A) s hh1 ry) _ fun σ2 E2 ew => ⟨ew, ?_⟩
    exact turn_ok (J := fun ys μ3 => J (i + 1) ys μ3) (jh i _ ys μ' (List.getElem?_eq_getElem hi') hJ) s E2 fun ys' μ3 M3 H3 pj s3 h3 => ⟨M3, μ3, ys', pj, s3, h3⟩
  · rintro H' ⟨M', μ', ys, hJ, s, hh⟩
    rw [hl] at hJ
    obtain ⟨s3, h3, r3⟩ := freeze (μ' := []) hh
    rw [List.append_nil] at s3 h3
    exact q ys _ _ _ _ (je _ _ hJ) ((s1.trans s).trans s3) h3 r3
theorem we_lcTN {A : Enc α} (dg : α → List Slot → List Slot) (hw : ∀ x : α, WB X.K g (own.map (·.2)) (.val A x) (dg x))
    {P : Ref → List Cell → Prop} (h : DE X iter δ μ fun (xs : Tup α) μ1 => ∃ J : Nat → List β → List Cell → Prop, J 0 [] μ1 ∧
      (∀ k x ys μ', xs.l[k]? = some x → J k ys μ' → Turns X scope elt ifs (dg x (wipeD δ (own.map (·.2)))) μ' (fun (y : β) μ3 => ys.length < 10000 ∧ J (k + 1) (ys ++ [y]) μ3) (fun μ3 => J (k + 1) ys μ3)) ∧ (∀ ys μ', J xs.l.length ys μ' → ∀ D, P ⟨D⟩ (μ' ++ [lst D ys]))) :
    WE X.K (tLc (iTup X.K (cE X iter)) g (ttOf X scope ifs) (cB X scope elt) (own.map (·.2))) δ μ P := fun M σ H E Q q => h M σ H E _ fun xs μ1 M1 v H1 p1 s1 hh1 r1 => by
  obtain ⟨J, j0, jh, je⟩ := p1
  obtain ⟨ad, vs, rfl, rd, rp⟩ := r1
  have hl := rp.length
  refine ⟨ad, rfl, ⟨vs, rd⟩, fun D hD => ?_⟩
  obtain ⟨s2, h2⟩ := new_cell (A := inferInstanceAs (Enc β)) (xs := ([] : List β)) hh1 hD .nil
  have E1 := E.step s1 hh1
  refine lc_tup (xs := vs) (fun i H' => ∃ M' μ' ys, J i ys μ' ∧ Ste M1 μ1 H1 M' (μ' ++ [lst D ys]) H' ∧ Holds X.K M' (μ' ++ [lst D ys]) H') ⟨_, μ1, [], j0, s2, h2⟩ ?_ ?_ ?_
  · rintro i H' hi ⟨M', μ', ys, hJ, s, hh⟩
    exact sqT_keep s.keep rd
  · rintro i y H' hi ⟨M', μ', ys, hJ, s, hh⟩
    have hi' : i < xs.l.length := by rw [← hl]; exact (List.getElem?_eq_some_iff.mp hi).1
    obtain ⟨y', e1, ry⟩ := paired_get rp (List.getElem?_eq_getElem hi')
    rw [hi] at e1; cases e1
    refine (hw xs.l[i]).run δ M' _ σ H' y (E1.step s hh) (Dl.tr (A := A) s hh1 ry) _ fun σ2 E2 ew => ⟨ew, ?_⟩
    exact turn_ok (J := fun ys μ3 => J (i + 1) ys μ3) (jh i _ ys μ' (List.getElem?_eq_getElem hi') hJ) s E2 fun ys' μ3 M3 H3 pj s3 h3 => ⟨M3, μ3, ys', pj, s3, h3⟩
  · rintro H' ⟨M', μ', ys, hJ, s, hh⟩
    rw [hl] at hJ
    exact q ⟨D⟩ _ _ _ _ (je _ _ hJ D) (s1.trans s) hh rfl
theorem we_lcT {A : Enc α} (dg : α → List Slot → List Slot) (hw : ∀ x : α, WB X.K g (own.map (·.2)) (.val A x) (dg x))
    {P : List β → List Cell → Prop} (h : DE X iter δ μ fun (xs : Tup α) μ1 => ∃ J : Nat → List β → List Cell → Prop, J 0 [] μ1 ∧
      (∀ k x ys μ', xs.l[k]? = some x → J k ys μ' → Turns X scope elt ifs (dg x (wipeD δ (own.map (·.2)))) μ' (fun (y : β) μ3 => ys.length < 10000 ∧ J (k + 1) (ys ++ [y]) μ3) (fun μ3 => J (k + 1) ys μ3)) ∧ (∀ ys μ', J xs.l.length ys μ' → P ys μ')) :
    WE X.K (tLc (iTup X.K (cE X iter)) g (ttOf X scope ifs) (cB X scope elt) (own.map (·.2))) δ μ P := fun M σ H E Q q => h M σ H E _ fun xs μ1 M1 v H1 p1 s1 hh1 r1 => by
  obtain ⟨J, j0, jh, je⟩ := p1
  obtain ⟨ad, vs, rfl, rd, rp⟩ := r1
  have hl := rp.length
  refine ⟨ad, rfl, ⟨vs, rd⟩, fun D hD => ?_⟩
  obtain ⟨s2, h2⟩ := new_cell (A := inferInstanceAs (Enc β)) (xs := ([] : List β)) hh1 hD .nil
  have E1 := E.step s1 hh1
  refine lc_tup (xs := vs) (fun i H' => ∃ M' μ' ys, J i ys μ' ∧ Ste M1 μ1 H1 M' (μ' ++ [lst D ys]) H' ∧ Holds X.K M' (μ' ++ [lst D ys]) H') ⟨_, μ1, [], j0, s2, h2⟩ ?_ ?_ ?_
  · rintro i H' hi ⟨M', μ', ys, hJ, s, hh⟩
    exact sqT_keep s.keep rd
  · rintro i y H' hi ⟨M', μ', ys, hJ, s, hh⟩
    have hi' : i < xs.l.length := by rw [← hl]; exact (List.getElem?_eq_some_iff.mp hi).1
    obtain ⟨y', e1, ry⟩ := paired_get rp (List.getElem?_eq_getElem hi')
    rw [hi] at e1; cases e1
    refine (hw xs.l[i]).run δ M' _ σ H' y (E1.step s hh) (Dl.tr (A := A) s hh1 ry) _ fun σ2 E2 ew => ⟨ew, ?_⟩
    exact turn_ok (J := fun ys μ3 => J (i + 1) ys μ3) (jh i _ ys μ' (List.getElem?_eq_getElem hi') hJ) s E2 fun ys' μ3 M3 H3 pj s3 h3 => ⟨M3, μ3, ys', pj, s3, h3⟩
  · rintro H' ⟨M', μ', ys, hJ, s, hh⟩
    rw [hl] at hJ
    obtain ⟨s3, h3, r3⟩ := freeze (μ' := []) hh
    rw [List.append_nil] at s3 h3
    exact q ys _ _ _ _ (je _ _ hJ) ((s1.trans s).trans s3) h3 r3
theorem we_lcRN {i0 : Nat} (hi0 : i0 ∈ own.map (·.2))
    {P : Ref → List Cell → Prop} (h : DE X a δ μ fun (n : Int) μ1 => (n < 2 ^ 62 ∧ -(2 ^ 62) ≤ n) ∧ ∃ J : Nat → List β → List Cell → Prop, J 0 [] μ1 ∧
      (∀ (k : Nat) ys μ', (k : Int) < n → J k ys μ' → Turns X scope elt ifs ((wipeD δ (own.map (·.2))).set i0 (sl (k : Int))) μ' (fun (y : β) μ3 => ys.length < 10000 ∧ J (k + 1) (ys ++ [y]) μ3) (fun μ3 => J (k + 1) ys μ3)) ∧ (∀ ys μ', J n.toNat ys μ' → ∀ D, P ⟨D⟩ (μ' ++ [lst D ys]))) :
    WE X.K (tLc (iRng1 (tCons (cE X a) tNil)) (gName i0) (ttOf X scope ifs) (cB X scope elt) (own.map (·.2))) δ μ P := fun M σ H E Q q => h M σ H E _ fun n μ1 M1 v H1 p1 s1 hh1 r1 => by
  obtain ⟨⟨n1, n2⟩, J, j0, jh, je⟩ := p1
  cases r1
  refine ⟨n, rfl, n2, n1, fun D hD => ?_⟩
  obtain ⟨s2, h2⟩ := new_cell (A := inferInstanceAs (Enc β)) (xs := ([] : List β)) hh1 hD .nil
  have E1 := E.step s1 hh1
  refine lc_range (fun i H' => ∃ M' μ' ys, J i ys μ' ∧ Ste M1 μ1 H1 M' (μ' ++ [lst D ys]) H' ∧ Holds X.K M' (μ' ++ [lst D ys]) H') ⟨_, μ1, [], j0, s2, h2⟩ ?_ ?_
  · rintro i H' hi ⟨M', μ', ys, hJ, s, hh⟩
    refine (wb_name (s := sl (i : Int)) hi0).run δ M' _ σ H' _ (E1.step s hh) (by show V.int (0 + (i : Int)) = V.int i; rw [Int.zero_add]) _ fun σ2 E2 ew => ⟨ew, ?_⟩
    exact turn_ok (J := fun ys μ3 => J (i + 1) ys μ3) (jh i ys μ' (by omega) hJ) s E2 fun ys' μ3 M3 H3 pj s3 h3 => ⟨M3, μ3, ys', pj, s3, h3⟩
  · rintro H' ⟨M', μ', ys, hJ, s, hh⟩
    exact q ⟨D⟩ _ _ _ _ (je _ _ hJ D) (s1.trans s) hh rfl
theorem we_lcR {i0 : Nat} (hi0 : i0 ∈ own.map (·.2))
    {P : List β → List Cell → Prop} (h : DE X a δ μ fun (n : Int) μ1 => (n < 2 ^ 62 ∧ -(2 ^ 62) ≤ n) ∧ ∃ J : Nat → List β → List Cell → Prop, J 0 [] μ1 ∧
      (∀ (k : Nat) ys μ', (k : Int) < n → J k ys μ' → Turns X scope elt ifs ((wipeD δ (own.map (·.2))).set i0 (sl (k : Int))) μ' (fun (y : β) μ3 => ys.length < 10000 ∧ J (k + 1) (ys ++ [y]) μ3) (fun μ3 => J (k + 1) ys μ3)) ∧ (∀ ys μ', J n.toNat ys μ' → P ys μ')) :
    WE X.K (tLc (iRng1 (tCons (cE X a) tNil)) (gName i0) (ttOf X scope ifs) (cB X scope elt) (own.map (·.2))) δ μ P := fun M σ H E Q q => h M σ H E _ fun n μ1 M1 v H1 p1 s1 hh1 r1 => by
  obtain ⟨⟨n1, n2⟩, J, j0, jh, je⟩ := p1
  cases r1
  refine ⟨n, rfl, n2, n1, fun D hD => ?_⟩
  obtain ⟨s2, h2⟩ := new_cell (A := inferInstanceAs (Enc β)) (xs := ([] : List β)) hh1 hD .nil
  have E1 := E.step s1 hh1
  refine lc_range (fun i H' => ∃ M' μ' ys, J i ys μ' ∧ Ste M1 μ1 H1 M' (μ' ++ [lst D ys]) H' ∧ Holds X.K M' (μ' ++ [lst D ys]) H') ⟨_, μ1, [], j0, s2, h2⟩ ?_ ?_
  · rintro i H' hi ⟨M', μ', ys, hJ, s, hh⟩
    refine (wb_name (s := sl (i : Int)) hi0).run δ M' _ σ H' _ (E1.step s hh) (by show V.int (0 + (i : Int)) = V.int i; rw [Int.zero_add]) _ fun σ2 E2 ew => ⟨ew, ?_⟩
    exact turn_ok (J := fun ys μ3 => J (i + 1) ys μ3) (jh i ys μ' (by omega) hJ) s E2 fun ys' μ3 M3 H3 pj s3 h3 => ⟨M3, μ3, ys', pj, s3, h3⟩
  · rintro H' ⟨M', μ', ys, hJ, s, hh⟩
    obtain ⟨s3, h3, r3⟩ := freeze (μ' := []) hh
    rw [List.append_nil] at s3 h3
    exact q ys _ _ _ _ (je _ _ hJ) ((s1.trans s).trans s3) h3 r3
/-- the comprehensions as expressions, and stored at a name -/
theorem de_lcL {A : Enc α} (hc : X.calm = true) (hN : X.N.Nodup) (ok : BlkOk X.N X.env.scope scope own) (dg : α → List Slot → List Slot) (hg : ∀ (s : Shared) (H : Hp) (C : Addr) (cl : List (Str × Addr)) (fp : List Addr), PG (blk X scope s H C cl fp) tg g) (hw : ∀ x : α, WB X.K g (own.map (·.2)) (.val A x) (dg x)) (hl : ifs.length ≤ 1)
    {P : List β → List Cell → Prop} (h : DE X iter δ μ fun (xs : List α) μ1 => ∃ J : Nat → List β → List Cell → Prop, J 0 [] μ1 ∧
      (∀ k x ys μ', xs[k]? = some x → J k ys μ' → Turns X scope elt ifs (dg x (wipeD δ (own.map (·.2)))) μ' (fun (y : β) μ3 => ys.length < 10000 ∧ J (k + 1) (ys ++ [y]) μ3) (fun μ3 => J (k + 1) ys μ3)) ∧ (∀ ys μ', J xs.length ys μ' → P ys μ'))
    (hs : ∀ x, foldedSetIterable iter X.env x = pure x := by intro _; rfl) : DE X (.ListComp elt [⟨tg, iter, ifs, 0⟩] scope pos) δ μ P :=
  of_pe (pe_lc hc hN (pi_list (cE_pe iter)) ok hg (pts_of hl) cB_pe hs) (we_lcL dg hw h)
theorem de_lcT {A : Enc α} (hc : X.calm = true) (hN : X.N.Nodup) (ok : BlkOk X.N X.env.scope scope own) (dg : α → List Slot → List Slot) (hg : ∀ (s : Shared) (H : Hp) (C : Addr) (cl : List (Str × Addr)) (fp : List Addr), PG (blk X scope s H C cl fp) tg g) (hw : ∀ x : α, WB X.K g (own.map (·.2)) (.val A x) (dg x)) (hl : ifs.length ≤ 1)
    {P : List β → List Cell → Prop} (h : DE X iter δ μ fun (xs : Tup α) μ1 => ∃ J : Nat → List β → List Cell → Prop, J 0 [] μ1 ∧
      (∀ k x ys μ', xs.l[k]? = some x → J k ys μ' → Turns X scope elt ifs (dg x (wipeD δ (own.map (·.2)))) μ' (fun (y : β) μ3 => ys.length < 10000 ∧ J (k + 1) (ys ++ [y]) μ3) (fun μ3 => J (k + 1) ys μ3)) ∧ (∀ ys μ', J xs.l.length ys μ' → P ys μ'))
    (hs : ∀ x, foldedSetIterable iter X.env x = pure x := by intro _; rfl) : DE X (.ListComp elt [⟨tg, iter, ifs, 0⟩] scope pos) δ μ P :=
  of_pe (pe_lc hc hN (pi_tup (cE_pe iter)) ok hg (pts_of hl) cB_pe hs) (we_lcT dg hw h)
theorem de_lcR {i0 : Nat} {x0 : Str} {px pos' : Pos} (hc : X.calm = true) (hN : X.N.Nodup) (ok : BlkOk X.N X.env.scope scope own) (hi0 : i0 ∈ own.map (·.2)) (hg : ∀ (s : Shared) (H : Hp) (C : Addr) (cl : List (Str × Addr)) (fp : List Addr), PG (blk X scope s H C cl fp) (.Name x0 px) (gName i0)) (hl : ifs.length ≤ 1) (hm : X.mg "range" = none)
    {P : List β → List Cell → Prop} (h : DE X a δ μ fun (n : Int) μ1 => (n < 2 ^ 62 ∧ -(2 ^ 62) ≤ n) ∧ ∃ J : Nat → List β → List Cell → Prop, J 0 [] μ1 ∧
      (∀ (k : Nat) ys μ', (k : Int) < n → J k ys μ' → Turns X scope elt ifs ((wipeD δ (own.map (·.2))).set i0 (sl (k : Int))) μ' (fun (y : β) μ3 => ys.length < 10000 ∧ J (k + 1) (ys ++ [y]) μ3) (fun μ3 => J (k + 1) ys μ3)) ∧ (∀ ys μ', J n.toNat ys μ' → P ys μ'))
    (hgl : Gl X "range" := by rfl) (hs1 : starEach [a] X.env = [(false, eval a X.env)] := by rfl) (hs2 : starEach [a] X.env = (false, eval a X.env) :: starEach [] X.env := by rfl)
    (hs : ∀ x, foldedSetIterable (.Call (.Name "range" p) [a] [] pos') X.env x = pure x := by intro _; rfl) : DE X (.ListComp elt [⟨.Name x0 px, .Call (.Name "range" p) [a] [] pos', ifs, 0⟩] scope pos) δ μ P :=
  of_pe (pe_lc hc hN (pi_range1 hgl hm (pa_cons (cE_pe a) pa_nil hs2) hs1) ok hg (pts_of hl) cB_pe hs) (we_lcR hi0 h)
theorem de_lcRN {i0 : Nat} {x0 : Str} {px pos' : Pos} (hc : X.calm = true) (hN : X.N.Nodup) (ok : BlkOk X.N X.env.scope scope own) (hi0 : i0 ∈ own.map (·.2)) (hg : ∀ (s : Shared) (H : Hp) (C : Addr) (cl : List (Str × Addr)) (fp : List Addr), PG (blk X scope s H C cl fp) (.Name x0 px) (gName i0)) (hl : ifs.length ≤ 1) (hm : X.mg "range" = none)
    {P : Ref → List Cell → Prop} (h : DE X a δ μ fun (n : Int) μ1 => (n < 2 ^ 62 ∧ -(2 ^ 62) ≤ n) ∧ ∃ J : Nat → List β → List Cell → Prop, J 0 [] μ1 ∧
      (∀ (k : Nat) ys μ', (k : Int) < n → J k ys μ' → Turns X scope elt ifs ((wipeD δ (own.map (·.2))).set i0 (sl (k : Int))) μ' (fun (y : β) μ3 => ys.length < 10000 ∧ J (k + 1) (ys ++ [y]) μ3) (fun μ3 => J (k + 1) ys μ3)) ∧ (∀ ys μ', J n.toNat ys μ' → ∀ D, P ⟨D⟩ (μ' ++ [lst D ys])))
    (hgl : Gl X "range" := by rfl) (hs1 : starEach [a] X.env = [(false, eval a X.env)] := by rfl) (hs2 : starEach [a] X.env = (false, eval a X.env) :: starEach [] X.env := by rfl)
    (hs : ∀ x, foldedSetIterable (.Call (.Name "range" p) [a] [] pos') X.env x = pure x := by intro _; rfl) : DE X (.ListComp elt [⟨.Name x0 px, .Call (.Name "range" p) [a] [] pos', ifs, 0⟩] scope pos) δ μ P :=
  of_pe (pe_lc hc hN (pi_range1 hgl hm (pa_cons (cE_pe a) pa_nil hs2) hs1) ok hg (pts_of hl) cB_pe hs) (we_lcRN hi0 h)
section
variable {N B C : PN} {R : ρ → List Cell → Prop} {i : Nat} {y : Str} {py spos : Pos}
/-- x = [..]: the list is to change -/
theorem ds_lcLN {A : Enc α} (hc : X.calm = true) (hN : X.N.Nodup) (ok : BlkOk X.N X.env.scope scope own) (dg : α → List Slot → List Slot) (hg : ∀ (s : Shared) (H : Hp) (C : Addr) (cl : List (Str × Addr)) (fp : List Addr), PG (blk X scope s H C cl fp) tg g) (hw : ∀ x : α, WB X.K g (own.map (·.2)) (.val A x) (dg x)) (hl : ifs.length ≤ 1)
    (h : DE X iter δ μ fun (xs : List α) μ1 => ∃ J : Nat → List β → List Cell → Prop, J 0 [] μ1 ∧
      (∀ k x ys μ', xs[k]? = some x → J k ys μ' → Turns X scope elt ifs (dg x (wipeD δ (own.map (·.2)))) μ' (fun (y : β) μ3 => ys.length < 10000 ∧ J (k + 1) (ys ++ [y]) μ3) (fun μ3 => J (k + 1) ys μ3)) ∧ (∀ ys μ', J xs.length ys μ' → ∀ D, N (δ.set i (sl (Ref.mk D))) (μ' ++ [lst D ys])))
    (hsw : swapsWith (.ListComp elt [⟨tg, iter, ifs, 0⟩] scope pos) (some (.Name y py)) spos.line X.env = pure true) (hy : X.N[i]? = some y := by rfl) (hyl : X.env.scope.names.lookup y = some .local := by rfl)
    (hs : ∀ x, foldedSetIterable iter X.env x = pure x := by intro _; rfl) : DS X (.Assign [.Name y py] (.ListComp elt [⟨tg, iter, ifs, 0⟩] scope pos) spos) δ μ N R B C :=
  of_ps (ps_setLc hc hN hy hyl hsw (pi_list (cE_pe iter)) ok hg (pts_of hl) cB_pe hs) fun M σ H E D n r b c => we_lcLN (P := fun x μ' => N (δ.set i (sl x)) μ') dg hw h M σ H E _ fun x μ' M' v H' p s hh rr => n _ μ' M' _ H' p s ((E.step s hh).put rr)
/-- x = [..]: the list stays -/
theorem ds_lcL {A : Enc α} (hc : X.calm = true) (hN : X.N.Nodup) (ok : BlkOk X.N X.env.scope scope own) (dg : α → List Slot → List Slot) (hg : ∀ (s : Shared) (H : Hp) (C : Addr) (cl : List (Str × Addr)) (fp : List Addr), PG (blk X scope s H C cl fp) tg g) (hw : ∀ x : α, WB X.K g (own.map (·.2)) (.val A x) (dg x)) (hl : ifs.length ≤ 1)
    (h : DE X iter δ μ fun (xs : List α) μ1 => ∃ J : Nat → List β → List Cell → Prop, J 0 [] μ1 ∧
      (∀ k x ys μ', xs[k]? = some x → J k ys μ' → Turns X scope elt ifs (dg x (wipeD δ (own.map (·.2)))) μ' (fun (y : β) μ3 => ys.length < 10000 ∧ J (k + 1) (ys ++ [y]) μ3) (fun μ3 => J (k + 1) ys μ3)) ∧ (∀ ys μ', J xs.length ys μ' → N (δ.set i (sl ys)) μ'))
    (hsw : swapsWith (.ListComp elt [⟨tg, iter, ifs, 0⟩] scope pos) (some (.Name y py)) spos.line X.env = pure true) (hy : X.N[i]? = some y := by rfl) (hyl : X.env.scope.names.lookup y = some .local := by rfl)
    (hs : ∀ x, foldedSetIterable iter X.env x = pure x := by intro _; rfl) : DS X (.Assign [.Name y py] (.ListComp elt [⟨tg, iter, ifs, 0⟩] scope pos) spos) δ μ N R B C :=
  of_ps (ps_setLc hc hN hy hyl hsw (pi_list (cE_pe iter)) ok hg (pts_of hl) cB_pe hs) fun M σ H E D n r b c => we_lcL (P := fun ys μ' => N (δ.set i (sl ys)) μ') dg hw h M σ H E _ fun x μ' M' v H' p s hh rr => n _ μ' M' _ H' p s ((E.step s hh).put rr)
theorem ds_lcT {A : Enc α} (hc : X.calm = true) (hN : X.N.Nodup) (ok : BlkOk X.N X.env.scope scope own) (dg : α → List Slot → List Slot) (hg : ∀ (s : Shared) (H : Hp) (C : Addr) (cl : List (Str × Addr)) (fp : List Addr), PG (blk X scope s H C cl fp) tg g) (hw : ∀ x : α, WB X.K g (own.map (·.2)) (.val A x) (dg x)) (hl : ifs.length ≤ 1)
    (h : DE X iter δ μ fun (xs : Tup α) μ1 => ∃ J : Nat → List β → List Cell → Prop, J 0 [] μ1 ∧
      (∀ k x ys μ', xs.l[k]? = some x → J k ys μ' → Turns X scope elt ifs (dg x (wipeD δ (own.map (·.2)))) μ' (fun (y : β) μ3 => ys.length < 10000 ∧ J (k + 1) (ys ++ [y]) μ3) (fun μ3 => J (k + 1) ys μ3)) ∧ (∀ ys μ', J xs.l.length ys μ' → N (δ.set i (sl ys)) μ'))
    (hsw : swapsWith (.ListComp elt [⟨tg, iter, ifs, 0⟩] scope pos) (some (.Name y py)) spos.line X.env = pure true) (hy : X.N[i]? = some y := by rfl) (hyl : X.env.scope.names.lookup y = some .local := by rfl)
    (hs : ∀ x, foldedSetIterable iter X.env x = pure x := by intro _; rfl) : DS X (.Assign [.Name y py] (.ListComp elt [⟨tg, iter, ifs, 0⟩] scope pos) spos) δ μ N R B C :=
  of_ps (ps_setLc hc hN hy hyl hsw (pi_tup (cE_pe iter)) ok hg (pts_of hl) cB_pe hs) fun M σ H E D n r b c => we_lcT (P := fun ys μ' => N (δ.set i (sl ys)) μ') dg hw h M σ H E _ fun x μ' M' v H' p s hh rr => n _ μ' M' _ H' p s ((E.step s hh).put rr)
end
/-! ### types, equality, powers -/
end
/-- a kind whose values are of one built-in type -/
class Ty (α : Type) [Enc α] (n : outParam String) : Prop where
  ty : ∀ {K M H v} {x : α}, Enc.R K M H v x → TyX K H v (.type n)
instance : Ty Int "int" := ⟨fun h => by cases h; exact .base (.int _)⟩
instance : Ty Bool "bool" := ⟨fun h => by cases h; exact .base (.bl _)⟩
instance : Ty Str "str" := ⟨fun h => by cases h; exact .base (.str _)⟩
theorem ty_sqT {K : PySem.W.Frag} {H : Hp} {a : Addr} {xs : List V} (h : SqT K H a xs) : TyX K H (.ref a) (.type "tuple") := by
  rcases h with (h | ⟨o, h⟩) | ⟨o, its, n, h, c, _⟩
  · exact .base (.tup h)
  · exact .fTuple h
  · exact .kTuple h c
instance [Enc α] [Enc β] : Ty (α × β) "tuple" := ⟨fun h => by obtain ⟨a, v1, v2, rfl, s, _⟩ := h; exact ty_sqT s⟩
instance [Enc α] : Ty (Tup α) "tuple" := ⟨fun h => by obtain ⟨a, vs, rfl, s, _⟩ := h; exact ty_sqT s⟩
/-- data that == compares by what it stands for -/
class Deep (α : Type) [Enc α] where
  d : α → PyData
  dp : ∀ {K M H v} {x : α}, Enc.R K M H v x → Dp K H v (d x)
  n : Nat
  sh : ∀ x : α, (d x).canLay0 = true ∧ (d x).depth ≤ n
  eq : ∀ x y : α, PyData.eqv (d x) (d y) = true ↔ x = y
section
variable {X : Cx} {α β : Type} [Enc α] [Enc β] {e a b : Expr} {δ : List Slot} {μ : List Cell} {PB : Bool → List Cell → Prop} {pos p : Pos}
/-- isinstance(x, T), T a built-in type by its name -/
theorem de_isi {n T : String} {x : Str} [Ty α n] {p1 p2 : Pos} {r : Bool} (hk : kitB n T = some r) (hm : X.mg "isinstance" = none) (hm2 : X.mg x = none) (hv : bootBuiltins x = some (.type T)) (h : DE X a δ μ fun (_ : α) μ1 => PB r μ1)
    (hg : Gl X "isinstance" := by rfl) (hg2 : Gl X x := by rfl) (hn2 : x ≠ "__name__" := by decide) (hdb2 : (x == ("__debug__" : Str)) = false := by decide)
    (he : starEach [a, .Name x p2] X.env = (false, eval a X.env) :: starEach [.Name x p2] X.env := by rfl) (he2 : starEach [.Name x p2] X.env = (false, eval (.Name x p2) X.env) :: starEach [] X.env := by rfl) (hpl : (backTo pos (starEach [.Name x p2] X.env)).any (·.1) = false := by rfl) :
    DE X (.Call (.Name "isinstance" p1) [a, .Name x p2] [] pos) δ μ PB :=
  of_pe (pe_callB call_isi hg hm (by decide +kernel) (pa_cons (cE_pe a) (pa_cons (pe_bltn (v := .ty T) hg2 hm2 hv rfl hn2 hdb2) pa_nil he2) he) (by decide) (by decide) he hpl) fun M σ H E Q q => h M σ H E _ fun x μ1 M1 v1 H1 p1 s1 hh1 r1 =>
    ⟨v1, .ty T, _, _, r, rfl, .ty T, Ty.ty r1, kit_ty hk, q r μ1 M1 _ H1 p1 s1 hh1 rfl⟩
theorem de_eqD [D : Deep α] (hu : X.A.units + 64 < cLine) (hD : D.n ≤ 64 := by decide) (h : DE X a δ μ fun (x : α) μ1 => DE X b δ μ1 fun (y : α) μ2 => ∀ r : Bool, (r = true ↔ x = y) → PB r μ2) : DE X (.Compare a [.Eq] [b] pos) δ μ PB :=
  of_pe (pe_cmpR (op_eqD hu) (cE_pe a) (cE_pe b) (nomark b)) (we2 h (fun x μ1 p => p) fun x μ1 y μ2 _ p2 M H v w hh r1 r2 Q k => by
    have s : ∀ x : α, SeqAt.shaped (D.d x) = true := fun x => by
      unfold SeqAt.shaped
      rw [(D.sh x).1, Bool.true_and]
      exact decide_eq_true (Nat.le_trans (D.sh x).2 hD)
    exact ⟨_, _, D.dp r1, D.dp r2, s x, s y, k _ μ2 M _ H (p2 _ (D.eq x y)) Ste.refl hh rfl⟩)
theorem dt_eqD [D : Deep α] (hu : X.A.units + 64 < cLine) (hD : D.n ≤ 64 := by decide) (h : DE X a δ μ fun (x : α) μ1 => DE X b δ μ1 fun (y : α) μ2 => ∀ r : Bool, (r = true ↔ x = y) → PB r μ2) : DT X (.Compare a [.Eq] [b] pos) δ μ PB :=
  of_pt (pt_cmpR (op_eqD hu) (cE_pe a) (cE_pe b) (nomark b)) (wt2 h (fun x μ1 p => p) fun x μ1 y μ2 _ p2 M H v w hh r1 r2 Q k => by
    have s : ∀ x : α, SeqAt.shaped (D.d x) = true := fun x => by
      unfold SeqAt.shaped
      rw [(D.sh x).1, Bool.true_and]
      exact decide_eq_true (Nat.le_trans (D.sh x).2 hD)
    exact ⟨_, _, D.dp r1, D.dp r2, s x, s y, k _ μ2 M H (p2 _ (D.eq x y)) Ste.refl hh⟩)
theorem dt_neD [D : Deep α] (hu : X.A.units + 64 < cLine) (hD : D.n ≤ 64 := by decide) (h : DE X a δ μ fun (x : α) μ1 => DE X b δ μ1 fun (y : α) μ2 => ∀ r : Bool, (r = true ↔ x ≠ y) → PB r μ2) : DT X (.Compare a [.NotEq] [b] pos) δ μ PB :=
  of_pt (pt_cmpR (op_neD hu) (cE_pe a) (cE_pe b) (nomark b)) (wt2 h (fun x μ1 p => p) fun x μ1 y μ2 _ p2 M H v w hh r1 r2 Q k => by
    have s : ∀ x : α, SeqAt.shaped (D.d x) = true := fun x => by
      unfold SeqAt.shaped
      rw [(D.sh x).1, Bool.true_and]
      exact decide_eq_true (Nat.le_trans (D.sh x).2 hD)
    refine ⟨_, _, D.dp r1, D.dp r2, s x, s y, k _ μ2 M H (p2 _ ?_) Ste.refl hh⟩
    have e := D.eq x y
    cases q : PyData.eqv (D.d x) (D.d y) with
    | true => simp [q] at e; simp [e]
    | false => simp [q] at e; simp [e])
theorem de_neD [D : Deep α] (hu : X.A.units + 64 < cLine) (hD : D.n ≤ 64 := by decide) (h : DE X a δ μ fun (x : α) μ1 => DE X b δ μ1 fun (y : α) μ2 => ∀ r : Bool, (r = true ↔ x ≠ y) → PB r μ2) : DE X (.Compare a [.NotEq] [b] pos) δ μ PB :=
  of_pe (pe_cmpR (op_neD hu) (cE_pe a) (cE_pe b) (nomark b)) (we2 h (fun x μ1 p => p) fun x μ1 y μ2 _ p2 M H v w hh r1 r2 Q k => by
    have s : ∀ x : α, SeqAt.shaped (D.d x) = true := fun x => by
      unfold SeqAt.shaped
      rw [(D.sh x).1, Bool.true_and]
      exact decide_eq_true (Nat.le_trans (D.sh x).2 hD)
    refine ⟨_, _, D.dp r1, D.dp r2, s x, s y, k _ μ2 M _ H (p2 _ ?_) Ste.refl hh rfl⟩
    have e := D.eq x y
    cases q : PyData.eqv (D.d x) (D.d y) with
    | true => simp [q] at e; simp [e]
    | false => simp [q] at e; simp [e])
theorem de_pow {P : Int → List Cell → Prop} (h : DE X a δ μ fun (x : Int) μ1 => DE X b δ μ1 fun (y : Int) μ2 => CPow x y ∧ P (x ^ y.toNat) μ2) : DE X (.BinOp a .Pow b pos) δ μ P :=
  de_op op_pow (h.mono fun x μ1 h => h.mono fun y μ2 p => ⟨_, p.2, iiC (g := fun i j => i ^ j.toNat) p.1⟩)
end
instance : Deep Int where
  d x := .int x
  dp h := by cases h; exact .int _
  n := 0
  sh x := ⟨rfl, Nat.le_refl _⟩
  eq x y := by show (x == y) = true ↔ _; simp
instance [Enc α] [Enc β] [A : Deep α] [B : Deep β] : Deep (α × β) where
  d x := .tuple [A.d x.1, B.d x.2]
  dp h := by
    obtain ⟨a, v1, v2, rfl, s, r1, r2⟩ := h
    exact .tup s (.cons (A.dp r1) (.cons (B.dp r2) .nil))
  n := max A.n B.n + 1
  sh x := by
    have a := A.sh x.1
    have b := B.sh x.2
    refine ⟨by show (PyData.canLay0 (A.d x.1) && (PyData.canLay0 (B.d x.2) && true)) = true; rw [a.1, b.1]; rfl, ?_⟩
    have h1 := a.2
    have h2 := b.2
    show max (PyData.depth (A.d x.1)) (max (PyData.depth (B.d x.2)) 0) + 1 ≤ max A.n B.n + 1
    omega
  eq x y := by
    show (PyData.eqv (A.d x.1) (A.d y.1) && (PyData.eqv (B.d x.2) (B.d y.2) && true)) = true ↔ _
    rw [Bool.and_true, Bool.and_eq_true, A.eq, B.eq]
    exact ⟨fun h => Prod.ext h.1 h.2, fun h => by rw [h]; exact ⟨rfl, rfl⟩⟩
end Dl
namespace Dl
open PySem PySem.Spec PyProof.Rows L2
/-! ### the jar of drawn numbers -/
/-- the jar: its list at j, the great numbers' list at g -/
def JarC (j g : Addr) : Cell where
  foot := [j, g]
  holds := fun K M H => j ≠ g ∧ ∃ (gs : List Int) (a b c : Int), H j = some (.lst [.ref g, .int a, .int b, .int c]) ∧ H g = some (.lst (gs.map V.int))
  mono := fun k h => by
    obtain ⟨ne, gs, a, b, c, h1, h2⟩ := h
    exact ⟨ne, gs, a, b, c, k _ _ h1 (.inl (by simp)), k _ _ h2 (.inl (by simp))⟩
  set := fun _ h => h
/-- a draw below many: any number from 0 on -/
def phDraw : Pm Int := fun as μ P => ∃ (j g : Addr) (many : Int), as = [sl (Ref.mk j), sl many] ∧ μ = [JarC j g] ∧ (0 < many ∧ many.natAbs.log2 < 9000) ∧ ∀ d : Int, 0 ≤ d → d < many → P d [JarC j g]
section
variable {P : Program} {w : World} {K : PySem.W.Frag} {mg : Str → Option Value} {base : Heap}
theorem jar_ste {M : AS} {H H' : Hp} {j g : Addr} (h : Holds K M [JarC j g] H) (gs : List Int) (a b c : Int) (hj : H' j = some (.lst [.ref g, .int a, .int b, .int c])) (hg : H' g = some (.lst (gs.map V.int))) (ne : j ≠ g) (k : ∀ b o, H b = some o → b ≠ j → b ≠ g → H' b = some o) :
    Ste M [JarC j g] H M [JarC j g] H' ∧ Holds K M [JarC j g] H' := by
  have fj : ∀ b, foots [JarC j g] b ↔ b = j ∨ b = g := fun b => by rw [foots_one]; show b ∈ [j, g] ↔ _; simp
  obtain ⟨_, gs0, a0, b0, c0, e1, e2⟩ := h.cell _ (List.mem_singleton.mpr rfl)
  have al : ∀ b, H b ≠ none → H' b ≠ none := fun b n => by
    by_cases h1 : b = j
    · rw [h1, hj]; exact fun z => nomatch z
    · by_cases h2 : b = g
      · rw [h2, hg]; exact fun z => nomatch z
      · cases e : H b with
        | none => exact absurd e n
        | some o => rw [k b o e h1 h2]; exact fun z => nomatch z
  refine ⟨⟨fun b o e cc => ?_, al, fun b z => .inl z, fun b z => .inl z, fun b z _ _ => z⟩, ⟨fun d hd => ?_, h.inM, fun b z => al b (h.al b z), h.dj⟩⟩
  · rcases cc with cc | cc
    · exact k b o e (fun z => cc ((fj b).mpr (.inl z))) (fun z => cc ((fj b).mpr (.inr z)))
    · refine k b o e (fun z => ?_) (fun z => ?_)
      · rw [z] at e; rw [e1] at e; cases e; exact cc.elim
      · rw [z] at e; rw [e2] at e; cases e; exact cc.elim
  · rw [List.mem_singleton.mp hd]
    exact ⟨ne, gs, a, b, c, hj, hg⟩
end
section
variable {X : Cx} {es : List Expr} {δ : List Slot} {μ : List Cell} {pos : Pos}
/-- [great, 0, mix, 0]: a jar is made -/
theorem de_jarLit {P : Ref → List Cell → Prop} (h : DA X es δ μ fun ss μ1 => ∃ (g : Addr) (gs : List Int) (a b c : Int), ss = [sl (Ref.mk g), sl a, sl b, sl c] ∧ μ1 = [lst g gs] ∧ ∀ j, P ⟨j⟩ [JarC j g]) : DE X (.List es pos) δ μ P :=
  of_pe (pe_lst (cA_pa es)) fun M σ H E Q q => h M σ H E _ fun ss μ1 M1 vs H1 p1 s1 hh1 r1 => by
    obtain ⟨g, gs, a, b, c, rfl, rfl, p⟩ := p1
    cases r1 with
    | cons r0 r1 => cases r1 with
      | cons ra r1 => cases r1 with
        | cons rb r1 => cases r1 with
          | cons rc r1 =>
            cases r1; cases r0; cases ra; cases rb; cases rc
            refine ⟨by show 4 ≤ sizeLine; decide, fun j hj => ?_⟩
            obtain ⟨ws, eg, rg⟩ := hh1.cell _ (List.mem_singleton.mpr rfl)
            have gj : g ≠ j := ne_of_none eg hj
            have ew : ws = gs.map V.int := by
              have : ∀ {ws : List V} {gs : List Int}, Paired (Enc.R X.K M1 H1) ws gs → ws = gs.map V.int := by
                intro ws gs r
                induction r with
                | nil => rfl
                | cons r t ih => cases r; rw [ih]; rfl
              exact this rg
            have mg : M1 g := hh1.inM g ⟨_, List.mem_singleton.mpr rfl, by show g ∈ [g]; simp⟩
            have fj : ∀ x, foots [JarC j g] x ↔ x = j ∨ x = g := fun x => by rw [foots_one]; show x ∈ [j, g] ↔ _; simp
            have al : ∀ x, H1 x ≠ none → upd H1 j (.lst [.ref g, .int a, .int b, .int c]) x ≠ none := fun x n => by
              by_cases e : x = j
              · rw [e, upd_same]; exact fun z => nomatch z
              · rw [upd_ne e]; exact n
            refine q ⟨j⟩ _ (fun x => M1 x ∨ x = j) _ _ (p j) (s1.trans ⟨fun x o e _ => by rw [upd_ne (ne_of_none e hj)]; exact e, al, fun x z => z.imp id fun e => by rw [e]; exact hj, fun x z => ?_, fun x z _ _ => .inl z⟩)
              ⟨fun d hd => ?_, fun x z => ?_, fun x z => ?_, List.pairwise_singleton _ _⟩ rfl
            · rcases (fj x).mp z with z | z
              · rw [z]; exact .inr hj
              · rw [z]; exact .inl ⟨_, List.mem_singleton.mpr rfl, by show g ∈ [g]; simp⟩
            · rw [List.mem_singleton.mp hd]
              exact ⟨gj.symm, gs, a, b, c, upd_same, by rw [upd_ne gj, eg, ew]⟩
            · rcases (fj x).mp z with z | z
              · exact .inr z
              · rw [z]; exact .inl mg
            · rcases z with z | z
              · exact al x (hh1.al x z)
              · rw [z, upd_same]; exact fun q => nomatch q
end
theorem un_of {A : Around} {k : Nat} (hr : Room k A) : A.units + 64 < cLine := hr.units
section
variable {X : Cx} {α β γ ρ : Type} [Enc α] [Enc β] [Enc γ] [Enc ρ] {e a b : Expr} {es : List Expr} {δ : List Slot} {μ : List Cell} {P : Int → List Cell → Prop} {PB : Bool → List Cell → Prop}
  {N B C : PN} {R : ρ → List Cell → Prop} {st : Stmt} {sts s1 s2 : List Stmt} {pos p : Pos}
theorem DS.mid (Mid : PN) (h : DS X st δ μ Mid R B C) (k : ∀ δ' μ', Mid δ' μ' → N δ' μ') : DS X st δ μ N R B C := h.mono k (fun _ _ h => h) (fun _ _ h => h) (fun _ _ h => h)
/-- // by a divisor of either sign, below 2 ^ 9000 -/
def CDivZ (_ j : Int) : Prop := j ≠ 0 ∧ j.natAbs.log2 < 9000
theorem op_fdivZ : OpR X (binaryOp .FloorDiv) (rI CDivZ fun i j => .int (i.fdiv j)) := opI fun _ _ _ _ _ _ _ hc q => floordiv_int hc.1 q (.inl (PyProof.noPylong_of_log2 hc.2))
theorem de_divZ (h : DE X a δ μ fun (x : Int) μ1 => DE X b δ μ1 fun (y : Int) μ2 => CDivZ x y ∧ P (x.fdiv y) μ2) : DE X (.BinOp a .FloorDiv b pos) δ μ P :=
  de_op op_fdivZ (h.mono fun x μ1 h => h.mono fun y μ2 p => ⟨_, p.2, iiC (g := fun i j => i.fdiv j) p.1⟩)
theorem de_shl (h : DE X a δ μ fun (x : Int) μ1 => DE X b δ μ1 fun (y : Int) μ2 => CShl x y ∧ P (x * 2 ^ y.toNat) μ2) : DE X (.BinOp a .LShift b pos) δ μ P :=
  de_op op_shlW (h.mono fun x μ1 h => h.mono fun y μ2 p => ⟨_, p.2, iiC (g := fun i j => i * 2 ^ j.toNat) p.1⟩)
theorem de_bits {apos : Pos} (h : DE X a δ μ fun (x : Int) μ1 => P (Builtin.Int.intBits x : Nat) μ1) (hbase : attributeBase a "bit_length" X.env (eval a X.env) = eval a X.env := by rfl) (hline : (apos.endLine == pos.line) = true := by rfl) :
    DE X (.Call (.Attribute a "bit_length" apos) [] [] pos) δ μ P :=
  of_pe (pe_bits (cE_pe a) hbase hline) fun M σ H E Q q => h M σ H E _ fun x μ1 M1 v1 H1 p1 s1 hh1 r1 => ⟨x, r1, q _ μ1 M1 _ H1 p1 s1 hh1 rfl⟩
def rIsqrt : List V → Hp → VK → Prop := fun vs H Q => ∃ a : Int, vs = [.int a] ∧ (0 ≤ a ∧ a.toNat.log2 / 30 + 1 ≤ 450) ∧ Q (.int ((Float64.isqrt a.toNat : Nat) : Int)) H
theorem cr_isqrt : CallR X (.builtin "math.isqrt") rIsqrt := by
  intro pins s σ H vs us Q I r h
  obtain ⟨a, rfl, ⟨h0, h1⟩, q⟩ := h
  cases r with
  | cons r1 r =>
    cases r
    obtain ⟨t, rfl⟩ := r1
    exact call_function_meets PySem.W.MGF.kind_isqrt PySem.W.MGF.plain_isqrt PySem.W.MGF.entry_isqrt (PySem.W.MGF.args_isqrt _) (PySem.W.mg_run_isqrt a t (by omega) (by omega) (by omega)).meets ⟨.int _, H, I.tok _, ⟨_, rfl⟩, q⟩
theorem de_isqrt {x : Str} (hm : X.mg x = some (.builtin "math.isqrt")) (h : DE X a δ μ fun (i : Int) μ1 => (0 ≤ i ∧ i.toNat.log2 / 30 + 1 ≤ 450) ∧ P ((Float64.isqrt i.toNat : Nat) : Int) μ1) (hg : Gl X x := by rfl) (hdb : (x == ("__debug__" : Str)) = false := by decide)
    (he : starEach [a] X.env = (false, eval a X.env) :: starEach [] X.env := by rfl) (hpl : (backTo pos (starEach [] X.env)).any (·.1) = false := by rfl) : DE X (.Call (.Name x p) [a] [] pos) δ μ P :=
  de_cbf cr_isqrt hm (da_cons (h.mono fun i μ1 q => da_nil ⟨_, q.2, fun M H vs r Q k => by
    cases r with
    | cons r1 r =>
      cases r
      cases r1
      exact ⟨i, rfl, q.1, k _ rfl⟩⟩) he) hg hdb he hpl
/-- x = y = e -/
theorem ds_set2 {A : Enc α} {i j : Nat} {x y : Str} {px py : Pos} (hN : X.N.Nodup) (h : @DE X α A e δ μ fun v μ' => N ((δ.set i (.val A v)).set j (.val A v)) μ') (hi : X.N[i]? = some x := by rfl) (hj : X.N[j]? = some y := by rfl)
    (hx : Loc X.env.scope x := by first | exact Or.inl rfl | exact Or.inr rfl) (hy : Loc X.env.scope y := by first | exact Or.inl rfl | exact Or.inr rfl)
    (hf : X.fn x = true ∨ X.env.scope.names.lookup x = some .local := by first | exact .inl rfl | exact .inr rfl) (hf2 : X.fn y = true ∨ X.env.scope.names.lookup y = some .local := by first | exact .inl rfl | exact .inr rfl)
    (ha : (assignEach [.Name x px, .Name y py] X.env).map (·.2) = [assign (.Name x px) X.env, assign (.Name y py) X.env] := by rfl) (hw : swappedStores [.Name x px, .Name y py] e X.env = pure none := by rfl) :
    DS X (.Assign [.Name x px, .Name y py] e pos) δ μ N R B C :=
  of_ps (ps_asg2 (cE_pe e) (pg_name (i := i) hN hi hx hf) (pg_name (i := j) hN hj hy hf2) ha hw) fun M σ H E D n r b c => h M σ H E _ fun v μ' M' w H' p s hh rr => n _ μ' M' _ H' p s (((E.step s hh).put (s := .val A v) rr).put (s := .val A v) rr)
/-- x, y = e, e a tuple of two -/
theorem ds_unpack2 {A : Enc α} {A2 : Enc β} {i j : Nat} {x y : Str} {px py pt : Pos} {kt : _} (hc : X.calm = true) (hN : X.N.Nodup) (h : @DE X (α × β) (@instEncProd α β A A2) e δ μ fun v μ' => N ((δ.set i (.val A v.1)).set j (.val A2 v.2)) μ')
    (hs : swapsWithSole [.Tuple [.Name x px, .Name y py] kt pt] e pos.line X.env = pure false := by rfl) (hw : swappedStores [.Tuple [.Name x px, .Name y py] kt pt] e X.env = pure none := by rfl)
    (h1 : (assignEach [.Tuple [.Name x px, .Name y py] kt pt] X.env).map (·.2) = [assign (.Tuple [.Name x px, .Name y py] kt pt) X.env] := by rfl)
    (hi : X.N[i]? = some x := by rfl) (hj : X.N[j]? = some y := by rfl)
    (hx : Loc X.env.scope x := by first | exact Or.inl rfl | exact Or.inr rfl) (hy : Loc X.env.scope y := by first | exact Or.inl rfl | exact Or.inr rfl)
    (hf : X.fn x = true ∨ X.env.scope.names.lookup x = some .local := by first | exact .inl rfl | exact .inr rfl) (hf2 : X.fn y = true ∨ X.env.scope.names.lookup y = some .local := by first | exact .inl rfl | exact .inr rfl)
    (hn : (assignEach [.Name x px, .Name y py] X.env).length = 2 := by rfl) (hst : (assignEach [.Name x px, .Name y py] X.env).findIdx? (·.1) = none := by rfl)
    (hs1 : (assignEach [.Name x px, .Name y py] X.env).map (·.2) = assign (.Name x px) X.env :: (assignEach [.Name y py] X.env).map (·.2) := by rfl) (hs2 : (assignEach [.Name y py] X.env).map (·.2) = assign (.Name y py) X.env :: (assignEach [] X.env).map (·.2) := by rfl) :
    DS X (.Assign [.Tuple [.Name x px, .Name y py] kt pt] e pos) δ μ N R B C :=
  of_ps (ps_asg (cE_pe e) (pg_tup hc (pgs_cons (pg_name (i := i) hN hi hx hf) (pgs_cons (pg_name (i := j) hN hj hy hf2) pgs_nil hs2) hs1) hn hst) hs hw h1) fun M σ H E D n r b c => h M σ H E _ fun v μ' M' w H' p s hh rr =>
    (wg_pair (A := A) (B := A2)).run M' μ' σ H' w (E.step s hh) rr _ fun σ' E' => n _ μ' M' σ' H' p s E'
/-- a module's constant that is an int -/
theorem de_globI {x : Str} {i : Int} {t : Tok} {pos : Pos} (hm : X.mg x = some (.int i t)) (q : P i μ) (hg : Gl X x := by rfl) (hd : (x == ("__debug__" : Str)) = false := by decide) : DE X (.Name x pos) δ μ P :=
  de_c (pe_glob (v := .int i) hg hm ⟨t, rfl⟩ hd) (fun _ _ _ => rfl) q
end
end Dl
namespace Dl
open PySem PySem.Spec PyProof.Rows L2
/-! ### the script -/
structure Scr where
  l : List Int
instance : Enc Scr where
  R K M H v x := ∃ a, v = .ref a ∧ ((∃ o, H a = some (.frz o (.lst (x.l.map V.int)))) ∨ ∀ H, SqL K H a (x.l.map V.int))
  mono k h := by
    obtain ⟨a, e, s⟩ := h
    exact ⟨a, e, s.imp (fun ⟨o, s⟩ => ⟨o, k _ _ s (.inr trivial)⟩) id⟩
  set k h := h
theorem scr_sq {K : PySem.W.Frag} {H : Hp} {a : Addr} {xs : List V} (h : (∃ o, H a = some (.frz o (.lst xs))) ∨ ∀ H, SqL K H a xs) : SqL K H a xs := h.elim (fun ⟨o, s⟩ => .inl (.inr ⟨o, s⟩)) fun s => s H
theorem scr_of {K : PySem.W.Frag} {M : AS} {H : Hp} {a : Addr} {ns : List Int} (hO : Only H) (h : SqL K H a (ns.map V.int)) : Enc.R K M H (.ref a) (Scr.mk ns) := by
  refine ⟨a, rfl, ?_⟩
  rcases h with (h | h) | h
  · rcases hO a with e | ⟨o, xs, e⟩
    · rw [e] at h; cases h
    · rw [e] at h; cases h
  · exact .inl h
  · exact .inr fun _ => .inr h
theorem paired_ints {K : PySem.W.Frag} {M : AS} {H : Hp} : ∀ xs : List Int, Paired (Enc.R K M H) (xs.map V.int) xs
  | [] => .nil
  | x :: xs => .cons rfl (paired_ints xs)
theorem cut_to (xs : List V) (n : Nat) : cutV xs none (some (n : Int)) = xs.take n := by
  unfold cutV
  rw [HT.sIx_none, HT.sIx_nat, List.drop_zero, Nat.sub_zero]
  rcases Nat.le_total n xs.length with h | h
  · rw [Nat.min_eq_left h]
  · rw [Nat.min_eq_right h, List.take_of_length_le (Nat.le_refl _), List.take_of_length_le h]
section
variable {X : Cx} {a : Expr} {δ : List Slot} {μ : List Cell} {pos p2 p3 : Pos} {j : _}
theorem de_sliceScr {n : Nat} {P : List Int → List Cell → Prop} (h : DE X a δ μ fun (x : Scr) μ1 => P (x.l.take n) μ1) : DE X (.Subscript a (.Slice none (some (.Constant (.int (n : Int)) j p3)) none p2) pos) δ μ P :=
  of_pe (pe_slice sl_list (cE_pe a) po_none (po_some pe_int)) fun M σ H E Q q => h M σ H E _ fun x μ1 M1 v1 H1 p1 s1 hh1 r1 => by
    obtain ⟨ad, rfl, s⟩ := r1
    refine ⟨(n : Int), rfl, ad, _, rfl, scr_sq s, fun p' hp => ?_⟩
    have s3 := foot_alloc hh1 hp (.lst (cutV (x.l.map V.int) none (some (n : Int))))
    refine q _ μ1 M1 _ _ p1 (s1.trans s3) (hh1.alloc hp _) ⟨p', _, rfl, fun z => hh1.al _ z hp, .inl upd_same, ?_⟩
    rw [cut_to, ← List.map_take]
    exact paired_ints _
end
/-- the law's own promise: a script in, True out -/
def phLaw : Pm Bool := fun as μ P => ∃ s : Scr, as = [sl s] ∧ μ = [] ∧ ∀ μ', P true μ'
theorem law_end {K : PySem.W.Frag} {H : Hp} {a : Addr} {ns : List Int} {E : XK} (hO : Only H) (h : SqL K H a (ns.map V.int)) : spO K phLaw [.ref a] H (fun v _ => v = .bl true) E :=
  ⟨fun _ => False, [], [sl (Scr.mk ns)], fun x _ => x = true, ⟨fun _ h => (nomatch h), fun _ ⟨_, h, _⟩ => (nomatch h), fun _ h => h.elim, .nil⟩, .cons (scr_of hO h) .nil, ⟨_, rfl, rfl, fun _ => rfl⟩, fun x μ' M' v H' e s h r => by
    cases e
    exact r⟩
/-! ### defs by what stands behind the top -/
/-- a def that may be called: its promise, where it stands, how its arguments bind -/
structure Cal (P : Program) (w : World) (K : PySem.W.Frag) (mg : Str → Option Value) (base : Heap) (x : Str) (k : Nat) (ps : List Str) {ρ : Type} [Enc ρ] (Φ : Pm ρ) : Prop where
  ex : ∃ (f : Addr) (fd : FuncData), FnOk P w K mg base CX0 k f fd ps (spO K Φ) ∧ mg x = some (.ref f) ∧ PySem.W.keepIn K (.ref f) = true ∧ Binds K fd ps []
/-- a def of the text: not yet proved -/
structure Dfn (K : PySem.W.Frag) (mg : Str → Option Value) (x : Str) (st : Stmt) (ps : List Str) : Prop where
  ex : ∃ (f : Addr) (fd : FuncData) (dvs : List V), FunD K x x (defArgs st) (defBody st) (defScope st) dvs [] f fd ∧ mg x = some (.ref f) ∧ Binds K fd ps []
section
variable {P : Program} {w : World} {K : PySem.W.Frag} {mg : Str → Option Value} {base : Heap} {ρ : Type} [Enc ρ] {x : Str} {st : Stmt} {ps N : List Str} {Φ : Pm ρ} {k : Nat}
abbrev cxD (P : Program) (w : World) (K : PySem.W.Frag) (mg : Str → Option Value) (base : Heap) (N : List Str) (qual : Str) (st : Stmt) (f : Addr) (cdv : Value) (A : Around) (outer : List Env) (s : Shared) (H : Hp) (E : XK) : Cx := (cxOf CX0 P w K mg base N qual (defScope st) f cdv A outer s H E).nox
theorem fnD_ok {dvs : List V} {f : Addr} {fd : FuncData} (F : FunD K x x (defArgs st) (defBody st) (defScope st) dvs [] f fd) (S : FnScope N ps (defScope st)) (len : ∀ as μ P, Φ as μ P → as.length = ps.length)
    (h : ∀ (f : Addr) (cdv : Value) (A : Around) (outer : List Env) (s : Shared) (H : Hp) (E : XK), Room k (A.deeper (envOfC x (defScope st) s.heap.objs.size f cdv)) → ∀ as μ Pd, Φ as μ Pd →
      DB (cxD P w K mg base N x st f cdv A outer s H E) (defBody st) (as ++ List.replicate (N.length - as.length) .any) μ (fun _ μ' => ∃ x : ρ, (∀ K M H, Enc.R K M H .non x) ∧ Pd x μ') Pd (fun _ _ => False) (fun _ _ => False)) :
    FnOk P w K mg base CX0 (k + 1) f fd ps (spO K Φ) := by
  refine F.ok S (fun vs H Q E h => ?_) (fun cdv A outer s H vs Q E hr hsp => ?_)
  · obtain ⟨M, μ, as, Pd, _, r, hp, _⟩ := h
    rw [r.length]; exact len _ _ _ hp
  · obtain ⟨M, μ, as, Pd, hh, r, hp, q⟩ := hsp
    refine ⟨_, (cSs_pss _).nox, h f cdv A outer s H E hr as μ Pd hp M _ H (start_ok hh r) _ (fun δ' μ' M' σ' H' n s' E' => ?_) q (fun _ _ _ _ _ z => z.elim) (fun _ _ _ _ _ z => z.elim)⟩
    obtain ⟨x, hx, p⟩ := n
    exact q x μ' M' .non H' p s' E'.h (hx _ _ _)
theorem Dfn.cal (D : Dfn K mg x st ps) (S : FnScope N ps (defScope st)) (len : ∀ as μ P, Φ as μ P → as.length = ps.length)
    (h : ∀ (f : Addr) (cdv : Value) (A : Around) (outer : List Env) (s : Shared) (H : Hp) (E : XK), Room k (A.deeper (envOfC x (defScope st) s.heap.objs.size f cdv)) → ∀ as μ Pd, Φ as μ Pd →
      DB (cxD P w K mg base N x st f cdv A outer s H E) (defBody st) (as ++ List.replicate (N.length - as.length) .any) μ (fun _ μ' => ∃ x : ρ, (∀ K M H, Enc.R K M H .non x) ∧ Pd x μ') Pd (fun _ _ => False) (fun _ _ => False)) :
    Cal P w K mg base x (k + 1) ps Φ := by
  obtain ⟨f, fd, dvs, F, hm, hb⟩ := D.ex
  exact ⟨f, fd, fnD_ok F S len h, hm, F.kp, hb⟩
theorem Cal.mono {j : Nat} (c : Cal P w K mg base x k ps Φ) (h : k ≤ j) : Cal P w K mg base x j ps Φ := by
  obtain ⟨f, fd, F, r⟩ := c.ex
  exact ⟨f, fd, F.mono h, r⟩
end
section
variable {X : Cx} {ρ : Type} [Enc ρ] {e : Expr} {es : List Expr} {δ : List Slot} {μ : List Cell} {P : ρ → List Cell → Prop} {k : Nat} {ps : List Str} {Φ : Pm ρ} {x : Str} {p pos : Pos}
theorem de_c1 (c : Cal X.prog X.w X.K X.mg X.base x k ps Φ) {k' : Nat} (hr : Room k' X.A) (hk : k ≤ k')
    (h : DA X (e :: es) δ μ fun as μ1 => ∃ μc μr, Parts μ1 μc μr ∧ Φ as μc fun y μ' => P y (μ' ++ μr)) (hg : Gl X x := by rfl) (hdb : (x == ("__debug__" : Str)) = false := by decide)
    (he : starEach (e :: es) X.env = (false, eval e X.env) :: starEach es X.env := by rfl) (hpl : (backTo pos (starEach es X.env)).any (·.1) = false := by rfl) : DE X (.Call (.Name x p) (e :: es) [] pos) δ μ P := by
  obtain ⟨f, fd, F, hm, hkp, hb⟩ := c.ex
  exact de_call F (hr.mono hk) hm hkp hb h hg hdb he hpl
end
end Dl
namespace Dl
open PySem PySem.Spec PyProof.Rows L2 He
/-! ### the facts of a top: built-in functions by name too -/
def obsZ (bi : List (Str × String)) (fa : List Fa) (fn : List DefD) (K : PySem.W.Frag) : AlD := ((bi.all fun q => eqO (PySem.W.nsIn K mainGlobals q.1) (some (some (.builtin q.2)))) && (obsD fa fn K).1, (obsD fa fn K).2)
def SaysZ (bi : List (Str × String)) (fa : List Fa) (fn : List DefD) (K : PySem.W.Frag) : Prop := obsZ bi fa fn K = valD fn
def obsZG (n : Nat) (bi : List (Str × String)) (fa : List Fa) (fn : List DefD) (g : Addr → Option Obj) : AlD := obsZ bi fa fn (frG g (asD g n))
def hookZ (n : Nat) (bi : List (Str × String)) (fa : List Fa) (fn : List DefD) : PySem.W.Hook where
  α := AlD
  obs := fun s => obsZG n bi fa fn s.heap.get?
  val := fun _ => valD fn
  says := fun _ h => ∃ K : PySem.W.Frag, K.In h ∧ SaysZ bi fa fn K
  of := fun _ _ e => ⟨_, frG_in, e⟩
  keeps := fun _ _ _ ⟨K, hK, c⟩ k => ⟨K, PySem.W.Frag.In.keeps hK k, c⟩
theorem obsZG_eq {n : Nat} {bi : List (Str × String)} {fa : List Fa} {fn : List DefD} {g : Addr → Option Obj} {s : Shared} (h : ∀ a, g a = s.heap.get? a) : obsZG n bi fa fn g = (hookZ n bi fa fn).obs s := by
  have e : g = s.heap.get? := funext h
  rw [e] <;> rfl
section
variable {bi : List (Str × String)} {fa : List Fa} {fn : List DefD} {K : PySem.W.Frag}
theorem SaysZ.saysD (c : SaysZ bi fa fn K) : SaysD fa fn K := by
  have h1 : ((bi.all fun q => eqO (PySem.W.nsIn K mainGlobals q.1) (some (some (.builtin q.2)))) && (obsD fa fn K).1) = true := congrArg (fun z : AlD => z.1) c
  have h2 : (obsD fa fn K).2 = fn.map DefD.val := congrArg (fun z : AlD => z.2) c
  exact Prod.ext (ba h1).2 h2
theorem SaysZ.blt (c : SaysZ bi fa fn K) (i : Nat) {q : Str × String} (h : bi[i]? = some q := by rfl) : PySem.W.nsIn K mainGlobals q.1 = some (some (.builtin q.2)) := by
  have h1 : ((bi.all fun q => eqO (PySem.W.nsIn K mainGlobals q.1) (some (some (.builtin q.2)))) && (obsD fa fn K).1) = true := congrArg (fun z : AlD => z.1) c
  exact eqO_ok (List.all_eq_true.mp (ba h1).1 q (List.mem_of_getElem? h))
end
end Dl
namespace Dl
open PySem PySem.Spec PyProof.Rows L2
/-! ### keys: tuples of texts, whole numbers and pairs of these -/
inductive Elt where
  | s (x : Str)
  | i (n : Int)
  | p (a b : Int)
  deriving DecidableEq
section
variable (P : Program) (w : World)
def eltIs (h : Heap) : Elt → Value → Prop
  | .s x, v => PyData.strOk x = true ∧ ∃ t, v = .str x t
  | .i n, v => ∃ t, v = .int n t
  | .p a b, v => ∃ c, v = .ref c ∧ IsTupleKey (mixKind P w) h [.inl a, .inl b] c
def nkIs (h : Heap) (ks : List Elt) (a : Addr) : Prop := ∃ o items n, h.get? a = some o ∧ o.cls = .type "tuple" ∧ o.data = .seq items n ∧ Paired (eltIs P w h) ks items.toList
def eltD : Elt → PyData
  | .s x => .str x
  | .i n => .int n
  | .p a b => .tuple [.int a, .int b]
def nkD (ks : List Elt) : PyData := .tuple (ks.map eltD)
def eltHash : Elt → Int
  | .s x => (mixKind P w).hash (.inr x)
  | .i n => (mixKind P w).hash (.inl n)
  | .p a b => tupleKeyHash (mixKind P w) [.inl a, .inl b]
def eltDr : Elt → Nat
  | .s _ => 1
  | .i _ => 1
  | .p _ _ => 3
def nkDr (ks : List Elt) : Nat := (ks.map eltDr).sum + 1
def nkHash (ks : List Elt) : Int := reduceHash (Builtin.Tuple.tupleHashOf (ks.map (eltHash P w)))
end
theorem eltD_inj {a b : Elt} (h : eltD a = eltD b) : a = b := by
  cases a <;> cases b <;> simp_all [eltD]
theorem eltDs_inj : ∀ {a b : List Elt}, a.map eltD = b.map eltD → a = b
  | [], [], _ => rfl
  | [], _ :: _, e => by simp at e
  | _ :: _, [], e => by simp at e
  | x :: xs, y :: ys, e => by
    rw [List.map_cons, List.map_cons] at e
    injection e with e1 e2
    rw [eltD_inj e1, eltDs_inj e2]
section
variable {P : Program} {w : World} {h : Heap}
theorem pairIs {a b : Int} {c : Addr} (x : IsTupleKey (mixKind P w) h [.inl a, .inl b] c) : ∃ o items n t u, h.get? c = some o ∧ o.cls = .type "tuple" ∧ o.data = .seq items n ∧ items.toList = [.int a t, .int b u] := by
  obtain ⟨o, items, n, h1, h2, h3, h4⟩ := x
  obtain ⟨its, e⟩ : ∃ its, its = items.toList := ⟨_, rfl⟩
  rw [← e] at h4
  cases h4 with
  | cons k1 h4 =>
    cases h4 with
    | cons k2 h4 =>
      cases h4
      rw [mixKind_is] at k1 k2
      rcases keyIs_shape k1 with ⟨i, t, e1, rfl⟩ | ⟨_, _, e1, _⟩
      · rcases keyIs_shape k2 with ⟨j, u, e2, rfl⟩ | ⟨_, _, e2, _⟩
        · cases e1; cases e2
          exact ⟨o, items, n, t, u, h1, h2, h3, e.symm⟩
        · exact nomatch e2
      · exact nomatch e1
theorem elt_reads : ∀ {e : Elt} {v : Value}, eltIs P w h e v → ∃ as, Reads h v (eltD e) as
  | .s x, v, q => by obtain ⟨_, t, rfl⟩ := q; exact ⟨[], .str x t⟩
  | .i n, v, q => by obtain ⟨t, rfl⟩ := q; exact ⟨[], .int n t⟩
  | .p a b, v, q => by
    obtain ⟨c, rfl, q⟩ := q
    obtain ⟨o, items, n, t, u, h1, h2, h3, h4⟩ := pairIs q
    have r : ReadsAll h items.toList [.int a, .int b] ([] ++ ([] ++ [])) := by
      rw [h4]
      exact .cons (.int a t) (.cons (.int b u) .nil)
    exact ⟨_, .tuple h1 h2 h3 r⟩
theorem elts_reads : ∀ {ks : List Elt} {vs : List Value}, Paired (eltIs P w h) ks vs → ∃ as, ReadsAll h vs (ks.map eltD) as
  | _, _, .nil => ⟨[], .nil⟩
  | _, _, .cons q t => by
    obtain ⟨as, r⟩ := elt_reads q
    obtain ⟨bs, rs⟩ := elts_reads t
    exact ⟨_, .cons r rs⟩
theorem nk_reads {ks : List Elt} {a : Addr} (x : nkIs P w h ks a) : ∃ as, Reads h (.ref a) (nkD ks) as := by
  obtain ⟨o, items, n, h1, h2, h3, h4⟩ := x
  obtain ⟨as, r⟩ := elts_reads h4
  exact ⟨_, .tuple h1 h2 h3 r⟩
theorem elt_lay {e : Elt} {v : Value} (q : eltIs P w h e v) : (eltD e).canLay0 = true := by
  cases e with
  | s x => simpa [eltD, PyData.canLay0] using q.1
  | i n => rfl
  | p a b => rfl
theorem elts_lay : ∀ {ks : List Elt} {vs : List Value}, Paired (eltIs P w h) ks vs → PyData.canLayAll0 (ks.map eltD) = true
  | _, _, .nil => rfl
  | _, _, .cons q t => by rw [List.map_cons, PyData.canLayAll0, elt_lay q, elts_lay t]; rfl
theorem nk_lay {ks : List Elt} {a : Addr} (x : nkIs P w h ks a) : (nkD ks).canLay0 = true := by
  obtain ⟨o, items, n, h1, h2, h3, h4⟩ := x
  rw [nkD, PyData.canLay0]
  exact elts_lay h4
theorem elt_depth (e : Elt) : (eltD e).depth ≤ 1 := by
  cases e <;> simp [eltD, PyData.depth, PyData.depthAll]
theorem elts_depth : ∀ ks : List Elt, PyData.depthAll (ks.map eltD) ≤ 1
  | [] => by simp [PyData.depthAll]
  | k :: ks => by
    have h1 := elt_depth k
    have h2 := elts_depth ks
    rw [List.map_cons, PyData.depthAll]
    omega
theorem nk_depth (ks : List Elt) : (nkD ks).depth ≤ 2 := by
  have h1 := elts_depth ks
  rw [nkD, PyData.depth]
  omega
theorem nk_inj {a : Addr} {x y : List Elt} (hx : nkIs P w h x a) (hy : nkIs P w h y a) : x = y := by
  obtain ⟨as, r⟩ := nk_reads hx
  obtain ⟨bs, r'⟩ := nk_reads hy
  have e := SeqAt.Reads.unique _ _ _ _ _ (nk_lay hx) r r'
  unfold nkD at e
  injection e with e
  exact eltDs_inj e
theorem elt_eqv (a b : Elt) : PyData.eqv (eltD a) (eltD b) = decide (a = b) := by
  cases a <;> cases b <;> simp [eltD, PyData.eqv, PyData.eqvAll, Bool.decide_and] <;> rfl
theorem elts_eqv : ∀ a b : List Elt, PyData.eqvAll (a.map eltD) (b.map eltD) = decide (a = b)
  | [], [] => rfl
  | [], _ :: _ => by simp [PyData.eqvAll]
  | _ :: _, [] => by simp [PyData.eqvAll]
  | x :: xs, y :: ys => by
    rw [List.map_cons, List.map_cons, PyData.eqvAll, elt_eqv, elts_eqv xs ys]
    simp [Bool.decide_and]
theorem nk_eqv (a b : List Elt) : PyData.eqv (nkD a) (nkD b) = decide (a = b) := by
  rw [nkD, nkD, PyData.eqv]
  exact elts_eqv a b
theorem elt_keeps {h' : Heap} {d : Addr} {o : Obj} {es ep} {e : Elt} {v : Value} (x : eltIs P w h e v) (ho : h.get? d = some o) (hd : o.data = .dict es ep) (hs : Heap.SameBut d h h') : eltIs P w h' e v := by
  cases e with
  | s x' => exact x
  | i n => exact x
  | p a b => obtain ⟨c, rfl, q⟩ := x; exact ⟨c, rfl, q.keeps ho hd hs⟩
theorem nk_keeps {h' : Heap} {ks : List Elt} {a d : Addr} {o : Obj} {es ep} (x : nkIs P w h ks a) (ho : h.get? d = some o) (hd : o.data = .dict es ep) (hs : Heap.SameBut d h h') : nkIs P w h' ks a := by
  obtain ⟨o', items, n, h1, h2, h3, h4⟩ := x
  have hne : a ≠ d := by
    rintro rfl
    obtain rfl : o' = o := Option.some.inj (h1.symm.trans ho)
    rw [hd] at h3; exact nomatch h3
  exact ⟨o', items, n, (hs.2 a hne).trans h1, h2, h3, Paired.mapP h4 fun _ _ q => elt_keeps q ho hd hs⟩
variable {A : Around} {E : Value → Shared → Prop} {s : Shared}
theorem elt_hash {e : Elt} {v : Value} {Q : Int → Shared → Prop} (hu : A.units < cLine) (q : eltIs P w s.heap e v) (k : Q (eltHash P w e) { s with toks := s.toks + eltDr e }) : wpAny (model P w) A (pyHash v) Q E s := by
  cases e with
  | s x => obtain ⟨_, t, rfl⟩ := q; exact (mixKind P w).pyHash (mixKind_str P w x t) k
  | i n => obtain ⟨t, rfl⟩ := q; exact (mixKind P w).pyHash (mixKind_int P w n t) k
  | p a b => obtain ⟨c, rfl, q⟩ := q; exact wpAny_pyHash_tuple hu q k
theorem elt_quiet {n : Nat} {e : Elt} {v : Value} {Q : Bool → Shared → Prop} (q : eltIs P w s.heap e v) (k : Q true s) : wpAny (model P w) A (eqIsQuiet (n + 1) v) Q E s := by
  cases e with
  | s x => obtain ⟨_, t, rfl⟩ := q; rw [eqIsQuiet_byValue _ rfl]; exact wpAny_pure k
  | i n => obtain ⟨t, rfl⟩ := q; rw [eqIsQuiet_byValue _ rfl]; exact wpAny_pure k
  | p a b =>
    obtain ⟨c, rfl, q⟩ := q
    have hT := q.typeIs
    obtain ⟨o, items, m, t, u, ho, hc, hd, hi⟩ := pairIs q
    unfold eqIsQuiet
    refine wpAny_bind (wpAny_specialOf hT F.slot_tuple_eq.lookup ?_)
    show wpAny _ _ (isInstance (.ref c) (.type "tuple") >>= _) _ _ s
    refine wpAny_bind (wpAny_isInstance hT isSubtype_tuple_tuple ?_)
    simp only [Bool.not_true, Bool.false_eq_true, if_false]
    refine wpAny_bind (wpAny_seqItems ho hd ?_)
    refine wpAny_bind ?_
    show wpAny _ _ (forIn items _ _) _ _ s
    rw [← Array.forIn_toList]
    refine wpAny_forIn_list _ (fun rest r s' => r.1 = none ∧ s' = s ∧ ∀ v ∈ rest, carriedByValue v = true) _ ?_ ?_ _ _ ⟨rfl, rfl, fun v hv => ?_⟩
    · rintro v rest r s' ⟨hr, rfl, hall⟩
      rw [eqIsQuiet_byValue _ (hall v List.mem_cons_self)]
      refine wpAny_bind (wpAny_pure ?_)
      simp only [Bool.not_true, Bool.false_eq_true, if_false]
      exact wpAny_pure ⟨rfl, rfl, fun u hu' => hall u (List.mem_cons_of_mem _ hu')⟩
    · rintro ⟨r1, r2⟩ s' ⟨hr, rfl, _⟩
      simp only at hr
      subst hr
      exact wpAny_pure k
    · rw [hi] at hv
      rcases List.mem_cons.mp hv with rfl | hv
      · rfl
      · rw [List.mem_singleton.mp hv]; rfl
theorem nkIs.typeIs {ks : List Elt} {a : Addr} (x : nkIs P w s.heap ks a) : s.TypeIs (.ref a) "tuple" := let ⟨o, _, _, ho, hc, _⟩ := x; ⟨o, ho, hc⟩
theorem nk_quiet {ks : List Elt} {a : Addr} {Q : Bool → Shared → Prop} (hk : nkIs P w s.heap ks a) (k : Q true s) : wpAny (model P w) A (eqIsQuiet 8 (.ref a)) Q E s := by
  have hT := hk.typeIs
  obtain ⟨o, items, n, ho, _, hd, hi⟩ := hk
  unfold eqIsQuiet
  refine wpAny_bind (wpAny_specialOf hT F.slot_tuple_eq.lookup ?_)
  show wpAny _ _ (isInstance (.ref a) (.type "tuple") >>= _) _ _ s
  refine wpAny_bind (wpAny_isInstance hT isSubtype_tuple_tuple ?_)
  simp only [Bool.not_true, Bool.false_eq_true, if_false]
  refine wpAny_bind (wpAny_seqItems ho hd ?_)
  refine wpAny_bind ?_
  show wpAny _ _ (forIn items _ _) _ _ s
  rw [← Array.forIn_toList]
  refine wpAny_forIn_list _ (fun rest r s' => r.1 = none ∧ s' = s ∧ ∃ ks', Paired (eltIs P w s.heap) ks' rest) _ ?_ ?_ _ _ ⟨rfl, rfl, ks, hi⟩
  · rintro v rest r s' ⟨hr, rfl, ks', hall⟩
    cases hall with
    | cons q t =>
      refine wpAny_bind (elt_quiet q ?_)
      simp only [Bool.not_true, Bool.false_eq_true, if_false]
      exact wpAny_pure ⟨rfl, rfl, _, t⟩
  · rintro ⟨r1, r2⟩ s' ⟨hr, rfl, _⟩
    simp only at hr
    subst hr
    exact wpAny_pure k
theorem nk_hash {ks : List Elt} {a : Addr} {Q : Int → Shared → Prop} (hu : A.units + 2 < cLine) (hk : nkIs P w s.heap ks a) (h : Q (nkHash P w ks) { s with toks := s.toks + nkDr ks }) :
    wpAny (model P w) A (pyHash (.ref a)) Q E s := by
  have hT := hk.typeIs
  obtain ⟨o, items, n, ho, _, hd, hi⟩ := hk
  unfold pyHash
  first | unfold pyHashByItsType | skip
  first | refine wpAny_bind (wpAny_cRoomFor_or (.inr (by omega)) ?_) | skip
  refine wpAny_bind (wpAny_specialOf hT F.slot_tuple_hash.lookup ?_)
  show wpAny _ _ (if (some (Value.builtin "tuple.__hash__") == some Value.none) = true then _ else _) Q E s
  rw [if_neg (by rw [beq_builtin_none]; exact Bool.false_ne_true)]
  refine wpAny_bind (wpAny_specialOf hT F.slot_tuple_hash.lookup ?_)
  show wpAny _ _ (callSpecialIfBoundUnlessNone? (.ref a) "__hash__" _ >>= _) Q E s
  refine wpAny_bind (wpAny_callSpecialIfBoundUnlessNone?_slot hT F.slot_tuple_hash (wpAny_call_entry F.slot_tuple_hash hT F.entry_tuple_hash ?_ (F.args_tuple_hash_1 _)))
  show wpAny _ _ (Builtin.Tuple.tupleItemsOf (.ref a) >>= _) _ _ s
  refine wpAny_bind (wpAny_tupleItemsOf ho hd ?_)
  refine wpAny_bind ?_
  rw [← Array.forIn_toList]
  refine wpAny_forIn_list _
    (fun rest (b : Array Int) s' => ∃ done left, ks = done ++ left ∧ Paired (eltIs P w s.heap) left rest ∧ b.toList = done.map (eltHash P w) ∧ s' = { s with toks := s.toks + (done.map eltDr).sum })
    _ ?_ ?_ _ _ ⟨[], ks, rfl, hi, rfl, rfl⟩
  · rintro x rest b s' ⟨done, left, rfl, hl, hb, rfl⟩
    cases hl with
    | @cons k _ ks' _ h1 hl' =>
      refine wpAny_bind (elt_hash (show A.in1.units < cLine from (show A.units + 1 < cLine by omega)) h1 ?_)
      first
        | exact wpAny_pure ⟨done ++ [k], ks', by simp, hl', by simp [hb], by simp [Nat.add_assoc]⟩
        | exact wpAny_bind (wpAny_pure (wpAny_pure ⟨done ++ [k], ks', by simp, hl', by simp [hb], by simp [Nat.add_assoc]⟩))
  · rintro b s' ⟨done, left, rfl, hl, hb, rfl⟩
    cases hl
    rw [List.append_nil] at h
    show wpAny _ _ (retInt (Builtin.Tuple.tupleHashOf b.toList)) _ _ _
    rw [hb]
    refine wpAny_ret_mkInt ?_
    show wpAny _ _ (if (decide (-(2 : Int) ^ 63 ≤ Builtin.Tuple.tupleHashOf (done.map (eltHash P w))) && decide (Builtin.Tuple.tupleHashOf (done.map (eltHash P w)) < 2 ^ 63)) = true then _ else _) Q E _
    unfold nkHash reduceHash at h
    by_cases hr : (decide (-(2 : Int) ^ 63 ≤ Builtin.Tuple.tupleHashOf (done.map (eltHash P w))) && decide (Builtin.Tuple.tupleHashOf (done.map (eltHash P w)) < 2 ^ 63)) = true
    · rw [if_pos hr]
      rw [if_pos hr] at h
      exact wpAny_pure (by simpa [nkDr, Nat.add_assoc] using h)
    · rw [if_neg hr]
      rw [if_neg hr] at h
      exact wpAny_bind (wpAny_rule (wpAny_pure (by simpa [nkDr, Nat.add_assoc] using h)))
end
def nKind (P : Program) (w : World) : HeapKind P w (List Elt) where
  is := nkIs P w
  hash := nkHash P w
  draws := nkDr
  room := fun A => A.units + 2 < cLine
  inj := fun hx hy => nk_inj hx hy
  keeps := fun x ho hd hs => nk_keeps x ho hd hs
  pyHash := fun hu hk h => nk_hash hu hk h
  eqBool := fun hu hx hy h => by
    obtain ⟨as, r⟩ := nk_reads hx
    obtain ⟨bs, r'⟩ := nk_reads hy
    have q := SeqAt.eqAt_reads _ _ _ _ _ _ _ _ r r' (nk_lay hx) (nk_lay hy) (by have := nk_depth ‹_›; exact Nat.lt_of_le_of_lt (Nat.add_le_add_left (Nat.le_trans (Nat.min_le_left _ _) (nk_depth _)) _) hu)
    rw [nk_eqv] at q
    exact q _ _ _ _ h
  quiet := fun hk h => nk_quiet hk h
end Dl
namespace Dl
open PySem PySem.Spec PyProof.Rows L2
/-! ### generators: if and for -/
section
variable {M : Model} {A : Around} {R : GenEnd} {Y : Protocol} {n : Nat} {s₀ : Shared} {c : Code} {fs : List Frame} {s : Shared} {env : Env}
  {K : Flow → Sem PySem.Fin} {J : Value → Sem PySem.Fin} {gd : Bool → Bool} {lv : List Value → List Value}
theorem seg_If {test : Expr} {body orelse : List Stmt} {pos : Pos}
    (h : wpAny M (A.over c fs) (isTrue test env (eval test env)) (fun b s' => if b = true then Seg M A R Y n s₀ c ((execs body env).wrap K J gd lv) fs s' else Seg M A R Y n s₀ c ((execs orelse env).wrap K J gd lv) fs s')
      (fun x s' => Seg M A R Y n s₀ c (J x) fs s') s) :
    Seg M A R Y n s₀ c ((exec (.If test body orelse pos) env).wrap K J gd lv) fs s := by
  rw [exec_If]
  refine seg_at ?_
  show Seg M A R Y n s₀ c ((isTrue test env (eval test env) >>= fun b => if b = true then execs body env else execs orelse env).wrap K J gd lv) fs s
  rw [Sem.bind_eq_wrap', Sem.wrap_wrap]
  refine seg_wrap (wpAny_mono h (fun b s' h' => ?_) fun _ _ x => x)
  cases b with
  | true => exact (if_pos rfl ▸ h' : _)
  | false => exact (if_neg Bool.false_ne_true ▸ h' : _)
theorem seg_For {tg iter : Expr} {body orelse : List Stmt} {pos : Pos}
    (h : wpAny M (A.over c fs) (eval iter env) (fun x s1 => wpAny M (A.over c fs) (pyIter x) (fun it s2 => ∀ p, Seg M A R Y n s₀ (.forLoop tg it body orelse env) (M.den (.forLoop tg it body orelse env))
      (.ret (fun r => ((match r with | .ok f => (.pure f : Sem Flow) | .error e => .raise e).onRaise (cameBack env)).wrap K J gd lv) none (gd false) (lv []) c p [] :: fs) s2)
      (fun x s' => Seg M A R Y n s₀ c (J x) fs s') s1) (fun x s' => Seg M A R Y n s₀ c (J x) fs s') s)
    (hs : ∀ x, foldedSetIterable iter env x = pure x) :
    Seg M A R Y n s₀ c ((exec (.For tg iter body orelse pos) env).wrap K J gd lv) fs s := by
  rw [exec_For]
  refine seg_at ?_
  show Seg M A R Y n s₀ c ((eval iter env >>= fun x0 => (foldedSetIterable iter env x0 >>= fun x => (standAt iter.pos >>= fun _ => (holding [x] (pyIter x) >>= fun it => runOwn (.forLoop tg it body orelse env) env)))).wrap K J gd lv) fs s
  rw [Sem.bind_eq_wrap', Sem.wrap_wrap]
  refine seg_wrap (wpAny_mono h (fun x s1 h1 => ?_) fun _ _ x => x)
  show Seg M A R Y n s₀ c ((foldedSetIterable iter env x >>= fun x => (standAt iter.pos >>= fun _ => (holding [x] (pyIter x) >>= fun it => runOwn (.forLoop tg it body orelse env) env))).wrap K J gd lv) fs s1
  rw [hs x]
  show Seg M A R Y n s₀ c ((standAt iter.pos >>= fun _ => (holding [x] (pyIter x) >>= fun it => runOwn (.forLoop tg it body orelse env) env)).wrap K J gd lv) fs s1
  refine seg_at ?_
  show Seg M A R Y n s₀ c ((holding [x] (pyIter x) >>= fun it => runOwn (.forLoop tg it body orelse env) env).wrap K J gd lv) fs s1
  rw [Sem.bind_eq_wrap', Sem.wrap_wrap]
  refine seg_wrap (wpAny_holding (wpAny_mono h1 (fun it s2 h2 => ?_) fun _ _ x => x))
  exact seg_call h2
end
section
variable {prog : Program} {w : World} {A : Around} {R : GenEnd} {Y : Protocol} {n : Nat} {s₀ : Shared} {fs : List Frame} {s : Shared} {env : Env}
abbrev notedSeg (prog : Program) (w : World) (A : Around) (R : GenEnd) (Y : Protocol) (n : Nat) (s₀ : Shared) (c : Code) (fs : List Frame) (env : Env) (x : Value) (s' : Shared) : Prop :=
  Seg (model prog w) A R Y n s₀ c ((do noteFrame x env; theTreesLotGoes x : Sem Unit).wrap (fun _ => .raise x) .raise id id) fs s'
theorem seg_forLoop {tg : Expr} {it : Value} {body : List Stmt}
    (h : wpAny (model prog w) (A.over (.forLoop tg it body [] env) fs) (pyNext it) (fun r s1 => match r with
      | none => Seg (model prog w) A R Y n s₀ (.block [] env) ((model prog w).den (.block [] env)) fs s1
      | some v => wpAny (model prog w) (A.over (.forLoop tg it body [] env) fs) (letOwnedTupleGo tg it v) (fun _ s2 => wpAny (model prog w) (A.over (.forLoop tg it body [] env) fs) (assign tg env v) (fun _ s3 =>
          Seg (model prog w) A R Y n s₀ (.forLoop tg it body [] env) ((execs body env).wrap (fun f => match f with
            | .next | .cont => .pure (.again (.forLoop tg it body [] env))
            | .brk => .pure (.done .next)
            | .ret v => .pure (.done (.ret v))) (fun e => (do noteFrame e env; theTreesLotGoes e : Sem Unit).wrap (fun _ => .raise e) .raise id id) id id) fs s3)
          (notedSeg prog w A R Y n s₀ (.forLoop tg it body [] env) fs env) s2) (notedSeg prog w A R Y n s₀ (.forLoop tg it body [] env) fs env) s1)
      (notedSeg prog w A R Y n s₀ (.forLoop tg it body [] env) fs env) s) :
    Seg (model prog w) A R Y n s₀ (.forLoop tg it body [] env) ((model prog w).den (.forLoop tg it body [] env)) fs s := by
  show Seg _ A R Y n s₀ _ ((forTurn tg it body [] env).onRaise (fun x => do noteFrame x env; theTreesLotGoes x)) fs s
  have ex : ∀ x s', notedSeg prog w A R Y n s₀ (.forLoop tg it body [] env) fs env x s' → Seg (model prog w) A R Y n s₀ (.forLoop tg it body [] env) ((do noteFrame x env; theTreesLotGoes x : Sem Unit).bind fun _ => .raise x) fs s' := fun x s' hx => by
    rw [Sem.bind_eq_wrap]; exact hx
  unfold forTurn
  rw [Sem.onRaise_eq_wrap]
  refine seg_at ?_
  show Seg _ A R Y n s₀ _ (Sem.wrap _ _ _ _ ((pyNext it).onRaise _ >>= _)) fs s
  rw [Sem.bind_eq_wrap', Sem.wrap_wrap]
  refine seg_wrap (wpAny_onRaise (wpAny_mono h (fun r s1 h1 => ?_) fun x s' hx => wpAny_standAt (ex x s' hx)))
  cases r with
  | none => exact seg_again rfl h1
  | some v =>
    show Seg _ A R Y n s₀ _ (Sem.wrap _ _ _ _ (letOwnedTupleGo tg it v >>= _)) fs s1
    rw [Sem.bind_eq_wrap', Sem.wrap_wrap]
    refine seg_wrap (wpAny_mono h1 (fun _ s2 h2 => ?_) fun x s' hx => ex x s' hx)
    show Seg _ A R Y n s₀ _ (Sem.wrap _ _ _ _ (assign tg env v >>= _)) fs s2
    rw [Sem.bind_eq_wrap', Sem.wrap_wrap]
    refine seg_wrap (wpAny_mono h2 (fun _ s3 h3 => ?_) fun x s' hx => ex x s' hx)
    show Seg _ A R Y n s₀ _ (Sem.wrap _ _ _ _ (execs body env >>= _)) fs s3
    rw [Sem.bind_eq_wrap', Sem.wrap_wrap]
    rw [Sem.wrap_congr (execs body env) _ _ (K' := fun f => match f with
            | .next | .cont => .pure (.again (.forLoop tg it body [] env))
            | .brk => .pure (.done .next)
            | .ret v => .pure (.done (.ret v))) (H' := (fun e => (do noteFrame e env; theTreesLotGoes e : Sem Unit).wrap (fun _ => .raise e) .raise id id))
        (fun f => by cases f <;> rfl)
        (fun e => by first | exact Sem.bind_eq_wrap _ _ | (show (do noteFrame e env; theTreesLotGoes e : Sem Unit).bind (fun _ => .raise e) = _; rw [Sem.bind_eq_wrap]))]
    exact h3
theorem seg_block0 {c : Code} {env' : Env} (h : Seg (model prog w) A R Y n s₀ c (.pure (.done .next)) fs s) (hc : c = .block [] env') : Seg (model prog w) A R Y n s₀ (.block [] env') ((model prog w).den (.block [] env')) fs s := by
  subst hc
  exact h
end
section
variable {X : Cx} {st : Stmt} {rest : List Stmt} {pos : Pos}
def tGIf (c : TT) (t u : TGn) : TGn := fun D ys σ H => c σ H fun b H1 => if b = true then t D ys σ H1 else u D ys σ H1
theorem gs_if {c : Expr} {a b : List Stmt} {tc : TT} {t u : TGn} (hc : PT X c tc) (ha : GSs X a t) (hb : GSs X b u) : GS X (.If c a b pos) (tGIf tc t u) := by
  refine ⟨fun A S ip R n ys s₀ c fs K J gd lv s σ H D g hn k hI ht => ?_⟩
  obtain ⟨acc, cc, r, I⟩ := hI
  refine seg_If ?_
  rw [g.over]
  refine wpAny_mono (hc.run _ s σ H _ I ht) (fun b s' hb' => ?_) fun x s' hx => k.exc n s₀ x s' hx
  obtain ⟨H2, I2, q2⟩ := hb'
  cases b with
  | true => rw [if_pos rfl]; exact ha.run A S ip R n ys s₀ c fs K J gd lv s' σ H2 D g hn k ⟨acc, cc, r, I2⟩ q2
  | false => rw [if_neg Bool.false_ne_true]; exact hb.run A S ip R n ys s₀ c fs K J gd lv s' σ H2 D g hn k ⟨acc, cc, r, I2⟩ q2
def tGFor (wi : TI) (g : TG) (tb : TGn) : TGn := fun D ys σ H => wi σ H fun It H1 => ∃ W : Nat → Nat → List V → L2.St → Hp → Prop, (∃ m, W 0 m ys σ H1) ∧ ∀ i m ys σ H, W i m ys σ H →
  (It.stop i H ∧ D.nx ys σ H) ∨ (It.go i H ∧ ∃ N : List V → L2.St → Hp → Prop, (∀ ys' σ' H', N ys' σ' H' → ∃ m', m' < m ∧ W (i + 1) m' ys' σ' H') ∧ ∀ x H', It.yld i H x H' → g x σ H' fun σ2 H2 => tb { D with nx := N, ct := N, bk := D.nx } ys σ2 H2)
theorem gs_for {tg iter : Expr} {body : List Stmt} {wi : TI} {g : TG} {tb : TGn} (hp : PassesOwn (model X.prog X.w) X.A X.env X.xe) (hc : X.calm = true) (hi : PI X tg iter wi) (hg : PG X tg g) (hb : GSs X body tb)
    (hs : ∀ x, foldedSetIterable iter X.env x = pure x := by intro _; rfl) : GS X (.For tg iter body [] pos) (tGFor wi g tb) := by
  refine ⟨fun A S ip R n ys s₀ c fs K J gd lv s σ H D gc hn k hI ht => ?_⟩
  obtain ⟨acc, cc, r, I⟩ := hI
  refine seg_For ?_ hs
  rw [gc.over]
  refine wpAny_mono (hi.run _ s σ H _ I ht) (fun v s1 h1 => wpAny_mono h1 (fun itv s2 h2 => fun p => ?_) fun x s' hx => k.exc n s₀ x s' hx) fun x s' hx => k.exc n s₀ x s' hx
  obtain ⟨it, fp, tn, It, H2, e, I2, T, st2, f2, W, ⟨m0, w0⟩, turn⟩ := h2
  subst e
  have fS : ∀ b ∈ fp, b ≠ S := fun b hb z => (f2 b hb).2.2.2.2.2 (S, lstObj acc cc) (List.mem_append_right _ List.mem_cons_self) z.symm
  have stat : ∀ {H' : Hp} {acc' : Array Value} {c' : Nat}, (∀ b ∈ fp, H' b = none) → ∀ b ∈ fp, FpOk X ((S, lstObj acc' c') :: ip) H' b := fun {H' acc' c'} hn' b hb => by
    obtain ⟨_, q1, q2, q3, q4, q5⟩ := f2 b hb
    refine ⟨hn' b hb, q1, q2, q3, q4, fun p hp' => ?_⟩
    rcases List.mem_append.mp hp' with z | z
    · exact q5 p (List.mem_append_left _ z)
    · rcases List.mem_cons.mp z with z | z
      · rw [z]; exact fun e => fS b hb e.symm
      · exact q5 p (List.mem_append_right _ (List.mem_cons_of_mem _ z))
  have gl := fun (c' : Code) (hw : c'.weight = 0) (hu : c'.cUnits = 0) (kk : Result → Sem PySem.Fin) => gc_loop (k := kk) (c' := c') (l := lv []) (kp := []) (p := p) gc hw hu
  have loop : ∀ (m i n : Nat) (ys : List V) (s₀ s : Shared) (σ : L2.St) (H : Hp), n + ys.length = sizeLine → W i m ys σ H → GI X S ip ys σ H s → tn i s.heap → (∀ b ∈ fp, H b = none) →
      Seg (model X.prog X.w) A R (GY X S) n s₀ (.forLoop tg (.ref it) body [] X.env) ((model X.prog X.w).den (.forLoop tg (.ref it) body [] X.env))
        (.ret (fun r => ((match r with | .ok f => (.pure f : Sem Flow) | .error e => .raise e).onRaise (cameBack X.env)).wrap K J gd lv) none (gd false) (lv []) c p [] :: fs) s := by
    intro m
    induction m using Nat.strongRecOn with
    | ind m ih =>
      intro i n ys s₀ s σ H hn w hI st3 fr3
      have ee : ∀ (n : Nat) (s₀ : Shared) (x : Value) (s' : Shared), X.xe x s' → notedSeg X.prog X.w A R (GY X S) n s₀ (.forLoop tg (.ref it) body [] X.env)
          (.ret (fun r => ((match r with | .ok f => (.pure f : Sem Flow) | .error e => .raise e).onRaise (cameBack X.env)).wrap K J gd lv) none (gd false) (lv []) c p [] :: fs) X.env x s' := fun n s₀ x s' hx => by
        refine seg_wrap ?_
        rw [(gl (.forLoop tg (.ref it) body [] X.env) rfl rfl _).over]
        refine wpAny_bind (wpAny_mono (hp x s' hx) (fun _ s'' hcb => wpAny_theTreesLotGoes ?_) fun y s'' hcb => ?_)
        · exact seg_leaf (.error x) (seg_cameBack gc k hcb)
        · exact seg_leaf (.error y) (seg_cameBack gc k hcb)
      refine seg_forLoop ?_
      rw [(gl (.forLoop tg (.ref it) body [] X.env) rfl rfl _).over]
      obtain ⟨acc1, cc1, r1, I3⟩ := hI
      rcases turn i m ys σ H w with ⟨stop, qn⟩ | ⟨go, N, hN, step⟩
      · refine wpAny_mono (T.done X rfl rfl rfl hc i _ s σ H X.xe I3 (stat fr3) st3 stop) (fun rr s4 ⟨hr, I4⟩ => ?_) fun x s' hx => ee n s₀ x s' hx
        subst hr
        refine seg_block0 (c := .block [] X.env) ?_ rfl
        exact seg_leaf (.ok .next) (k.ok n ys s₀ s4 .next hn ⟨σ, H, ⟨acc1, cc1, r1, I4⟩, qn⟩)
      · refine wpAny_mono (T.item X rfl rfl rfl hc i _ s σ H X.xe I3 (stat fr3) st3 go) (fun rr s4 ⟨u, hr, h4⟩ => ?_) fun x s' hx => ee n s₀ x s' hx
        subst hr
        refine wpAny_mono h4 (fun _ s5 ⟨x, H5, I5, r5, y5, st5, fr5⟩ => ?_) fun x s' hx => ee n s₀ x s' hx
        have I5' := I5.pinned (stat fr5) (T.obj _ _ st5)
        refine wpAny_mono (hg.run _ s5 σ H5 x u _ I5' r5 (step x H5 y5)) (fun _ s6 ⟨σ6, H6, I6, q6⟩ => ?_) fun x s' hx => ee n s₀ x s' hx
        have again : ∀ {ys' : List V} {σ7 : L2.St} {H7 : Hp} {s7 : Shared} {n' : Nat} {s₀' : Shared}, n' + ys'.length = sizeLine → GI X S (ip ++ pinsAt fp s5.heap) ys' σ7 H7 s7 → N ys' σ7 H7 → Seg (model X.prog X.w) A R (GY X S) n' s₀' (.forLoop tg (.ref it) body [] X.env) ((model X.prog X.w).den (.forLoop tg (.ref it) body [] X.env))
            (.ret (fun r => ((match r with | .ok f => (.pure f : Sem Flow) | .error e => .raise e).onRaise (cameBack X.env)).wrap K J gd lv) none (gd false) (lv []) c p [] :: fs) s7 := fun {ys' σ7 H7 s7 n' s₀'} hn' hI7 n7 => by
          obtain ⟨m', hm, w7⟩ := hN _ σ7 H7 n7
          obtain ⟨acc7, cc7, r7, I7⟩ := hI7
          have I7' : Inv X (((S, lstObj acc7 cc7) :: ip) ++ pinsAt fp s5.heap) σ7 H7 s7 := I7
          refine ih m' hm (i + 1) n' ys' s₀' s7 σ7 H7 hn' w7 ⟨acc7, cc7, r7, I7'.unpinned⟩ (T.keep _ _ _ st5 fun b hb o e => (I7'.pin (b, o) (List.mem_append_right _ (List.mem_append_right _ (mem_pinsAt hb e)))).1) fun b hb => ?_
          obtain ⟨o, e, d⟩ := T.obj _ _ st5 b hb
          exact (I7'.pin (b, o) (List.mem_append_right _ (List.mem_append_right _ (mem_pinsAt hb e)))).2.1
        have I6' : GI X S (ip ++ pinsAt fp s5.heap) ys σ6 H6 s6 := ⟨acc1, cc1, r1, I6⟩
        have unp : ∀ {ys' : List V} {σ7 : L2.St} {H7 : Hp} {s7 : Shared}, GI X S (ip ++ pinsAt fp s5.heap) ys' σ7 H7 s7 → GI X S ip ys' σ7 H7 s7 := fun {ys' σ7 H7 s7} hI7 => by
          obtain ⟨acc7, cc7, r7, I7⟩ := hI7
          have I7' : Inv X (((S, lstObj acc7 cc7) :: ip) ++ pinsAt fp s5.heap) σ7 H7 s7 := I7
          exact ⟨acc7, cc7, r7, I7'.unpinned⟩
        have gl1 := gl (.forLoop tg (.ref it) body [] X.env) rfl rfl (fun r => ((match r with | .ok f => (.pure f : Sem Flow) | .error e => .raise e).onRaise (cameBack X.env)).wrap K J gd lv)
        refine hb.run A S (ip ++ pinsAt fp s5.heap) R n ys s₀ _ _ _ _ id id s6 σ6 H6 { D with nx := N, ct := N, bk := D.nx } ⟨gl1.pn, fun q hq => ?_, gl1.apart, gl1.over, gl1.split, gl1.guard, gl1.gd⟩ hn ⟨fun n' ys' s₀' s7 f hn' hs => ?_, fun n' s₀' x s7 hx => ee n' s₀' x s7 hx⟩ I6' q6
        · rcases List.mem_append.mp hq with z | z
          · exact gc.ip q z
          · exact fS q.1 (of_pinsAt z).1
        · cases f with
          | next =>
            obtain ⟨σ7, H7, I7, n7⟩ := hs
            exact seg_again rfl (again hn' I7 n7)
          | cont =>
            obtain ⟨σ7, H7, I7, n7⟩ := hs
            exact seg_again rfl (again hn' I7 n7)
          | brk =>
            obtain ⟨σ7, H7, I7, n7⟩ := hs
            exact seg_leaf (.ok .next) (k.ok n' ys' s₀' s7 .next hn' ⟨σ7, H7, unp I7, n7⟩)
          | ret v =>
            obtain ⟨x7, σ7, H7, I7, r7, n7⟩ := hs
            exact seg_leaf (.ok (.ret v)) (k.ok n' ys' s₀' s7 (.ret v) hn' ⟨x7, σ7, H7, unp I7, r7, n7⟩)
  exact loop m0 0 n ys s₀ s2 σ H2 hn w0 ⟨acc, cc, r, I2⟩ st2 fun b hb => (f2 b hb).1
end
end Dl
namespace Dl
open PySem PySem.Spec PyProof.Rows L2
/-! ### generator defs in Dl: os is what is out so far -/
abbrev PY := List Slot → PN
def WY (K : PySem.W.Frag) (t : TGn) (os δ : List Slot) (μ : List Cell) (N : PY) (Rt : List Slot → List Cell → Prop) (B C : PY) : Prop :=
  ∀ (M : AS) (σ : L2.St) (H : Hp) (ys : List V), EnvOk K M μ δ σ H → SlVs K M H ys os → ∀ D : GEnds,
    (∀ os' δ' μ' M' σ' H' ys', N os' δ' μ' → Ste M μ H M' μ' H' → EnvOk K M' μ' δ' σ' H' → SlVs K M' H' ys' os' → D.nx ys' σ' H') →
    (∀ os' μ' M' H' ys', Rt os' μ' → Ste M μ H M' μ' H' → Holds K M' μ' H' → SlVs K M' H' ys' os' → D.rt ys' .non H') →
    (∀ os' δ' μ' M' σ' H' ys', B os' δ' μ' → Ste M μ H M' μ' H' → EnvOk K M' μ' δ' σ' H' → SlVs K M' H' ys' os' → D.bk ys' σ' H') →
    (∀ os' δ' μ' M' σ' H' ys', C os' δ' μ' → Ste M μ H M' μ' H' → EnvOk K M' μ' δ' σ' H' → SlVs K M' H' ys' os' → D.ct ys' σ' H') → t D ys σ H
section
variable (X : Cx)
def cG (st : Stmt) : TGn := fun D ys σ H => ∀ (A : Around) (S : Addr) (ip : List (Addr × Obj)) (R : GenEnd) (n : Nat) (s₀ : Shared) (c : Code) (fs : List Frame) (K : Flow → Sem PySem.Fin) (J : Value → Sem PySem.Fin) (gd : Bool → Bool) (lv : List Value → List Value) (s : Shared),
  GC X S ip A c fs gd → n + ys.length = sizeLine → GK X S ip A R c fs K J D → GI X S ip ys σ H s → Seg (model X.prog X.w) A R (GY X S) n s₀ c ((exec st X.env).wrap K J gd lv) fs s
def cGs (st : List Stmt) : TGn := fun D ys σ H => ∀ (A : Around) (S : Addr) (ip : List (Addr × Obj)) (R : GenEnd) (n : Nat) (s₀ : Shared) (c : Code) (fs : List Frame) (K : Flow → Sem PySem.Fin) (J : Value → Sem PySem.Fin) (gd : Bool → Bool) (lv : List Value → List Value) (s : Shared),
  GC X S ip A c fs gd → n + ys.length = sizeLine → GK X S ip A R c fs K J D → GI X S ip ys σ H s → Seg (model X.prog X.w) A R (GY X S) n s₀ c ((execs st X.env).wrap K J gd lv) fs s
theorem cG_gs (st : Stmt) : GS X st (cG X st) := ⟨fun A S ip R n ys s₀ c fs K J gd lv s σ H D g hn k hI ht => ht A S ip R n s₀ c fs K J gd lv s g hn k hI⟩
theorem cGs_gss (st : List Stmt) : GSs X st (cGs X st) := ⟨fun A S ip R n ys s₀ c fs K J gd lv s σ H D g hn k hI ht => ht A S ip R n s₀ c fs K J gd lv s g hn k hI⟩
def DY (st : Stmt) (os δ : List Slot) (μ : List Cell) (N : PY) (Rt : List Slot → List Cell → Prop) (B C : PY) : Prop := WY X.K (cG X st) os δ μ N Rt B C
def DYs (st : List Stmt) (os δ : List Slot) (μ : List Cell) (N : PY) (Rt : List Slot → List Cell → Prop) (B C : PY) : Prop := WY X.K (cGs X st) os δ μ N Rt B C
end
theorem SlVs.snoc {K : PySem.W.Frag} {M : AS} {H : Hp} : ∀ {vs : List V} {ss : List Slot} {v : V} {s : Slot}, SlVs K M H vs ss → SlotV K M H v s → SlVs K M H (vs ++ [v]) (ss ++ [s])
  | _, _, _, _, .nil, r => .cons r .nil
  | _, _, _, _, .cons r t, r' => .cons r (SlVs.snoc t r')
section
variable {X : Cx} {st : Stmt} {rest sts body s1 s2 : List Stmt} {t : TGn} {os δ : List Slot} {μ : List Cell} {N B C : PY} {Rt : List Slot → List Cell → Prop} {pos p : Pos} {a b e : Expr} {α : Type} [Enc α]
theorem of_gs (h : GS X st t) (w : WY X.K t os δ μ N Rt B C) : DY X st os δ μ N Rt B C := fun M σ H ys E r D n rt b c A S ip R nn s₀ cc fs K J gd lv s g hn k hI =>
  h.run A S ip R nn ys s₀ cc fs K J gd lv s σ H D g hn k hI (w M σ H ys E r D n rt b c)
theorem of_gss (h : GSs X sts t) (w : WY X.K t os δ μ N Rt B C) : DYs X sts os δ μ N Rt B C := fun M σ H ys E r D n rt b c A S ip R nn s₀ cc fs K J gd lv s g hn k hI =>
  h.run A S ip R nn ys s₀ cc fs K J gd lv s σ H D g hn k hI (w M σ H ys E r D n rt b c)
theorem dy_plain (h : DS (ρ := Unit) X st δ μ (fun δ' μ' => N os δ' μ') (fun _ μ' => Rt os μ') (fun δ' μ' => B os δ' μ') (fun δ' μ' => C os δ' μ')) : DY X st os δ μ N Rt B C :=
  of_gs (gs_ps (cS_ps st)) fun M σ H ys E r D n rt b c => h M σ H E (D.at ys) (fun δ' μ' M' σ' H' q s E' => n os δ' μ' M' σ' H' ys q s E' (r.tr s E.h))
    (fun x μ' M' v H' q s h' rv => by cases rv; exact rt os μ' M' H' ys q s h' (r.tr s E.h))
    (fun δ' μ' M' σ' H' q s E' => b os δ' μ' M' σ' H' ys q s E' (r.tr s E.h)) (fun δ' μ' M' σ' H' q s E' => c os δ' μ' M' σ' H' ys q s E' (r.tr s E.h))
theorem dy_nil (q : N os δ μ) : DYs X [] os δ μ N Rt B C := of_gss gss_nil fun M σ H ys E r D n rt b c => n os δ μ M σ H ys q Ste.refl E r
theorem wy_go {M0 M : AS} {H0 H : Hp} {μ0 : List Cell} {σ : L2.St} {ys : List V} {D : GEnds} (h : DYs X sts os δ μ N Rt B C) (s : Ste M0 μ0 H0 M μ H) (E : EnvOk X.K M μ δ σ H) (r : SlVs X.K M H ys os)
    (n : ∀ os' δ' μ' M' σ' H' ys', N os' δ' μ' → Ste M0 μ0 H0 M' μ' H' → EnvOk X.K M' μ' δ' σ' H' → SlVs X.K M' H' ys' os' → D.nx ys' σ' H')
    (rt : ∀ os' μ' M' H' ys', Rt os' μ' → Ste M0 μ0 H0 M' μ' H' → Holds X.K M' μ' H' → SlVs X.K M' H' ys' os' → D.rt ys' .non H')
    (b : ∀ os' δ' μ' M' σ' H' ys', B os' δ' μ' → Ste M0 μ0 H0 M' μ' H' → EnvOk X.K M' μ' δ' σ' H' → SlVs X.K M' H' ys' os' → D.bk ys' σ' H')
    (c : ∀ os' δ' μ' M' σ' H' ys', C os' δ' μ' → Ste M0 μ0 H0 M' μ' H' → EnvOk X.K M' μ' δ' σ' H' → SlVs X.K M' H' ys' os' → D.ct ys' σ' H') : cGs X sts D ys σ H :=
  h M σ H ys E r D (fun _ _ _ _ _ _ _ p2 s2 => n _ _ _ _ _ _ _ p2 (s.trans s2)) (fun _ _ _ _ _ p2 s2 => rt _ _ _ _ _ p2 (s.trans s2)) (fun _ _ _ _ _ _ _ p2 s2 => b _ _ _ _ _ _ _ p2 (s.trans s2)) (fun _ _ _ _ _ _ _ p2 s2 => c _ _ _ _ _ _ _ p2 (s.trans s2))
theorem dy_cons (h : DY X st os δ μ (fun os' δ' μ' => DYs X rest os' δ' μ' N Rt B C) Rt B C) : DYs X (st :: rest) os δ μ N Rt B C :=
  of_gss (gss_cons (cG_gs X st) (cGs_gss X rest)) fun M σ H ys E r D n rt b c =>
    h M σ H ys E r { D with nx := fun ys' σ' H' => cGs X rest D ys' σ' H' } (fun os' δ' μ' M' σ' H' ys' q s E' r' => wy_go q s E' r' n rt b c) rt b c
theorem dy_one (h : DY X st os δ μ N Rt B C) : DYs X [st] os δ μ N Rt B C :=
  dy_cons (fun M σ H ys E r D n rt b c => h M σ H ys E r D (fun os' δ' μ' M' σ' H' ys' q => n os' δ' μ' M' σ' H' ys' (dy_nil q)) rt b c)
theorem dy_if {cnd : Expr} (h : DT X cnd δ μ fun x μ1 => (x = true → DYs X s1 os δ μ1 N Rt B C) ∧ (x = false → DYs X s2 os δ μ1 N Rt B C)) : DY X (.If cnd s1 s2 pos) os δ μ N Rt B C :=
  of_gs (gs_if (cV_pt cnd) (cGs_gss X s1) (cGs_gss X s2)) fun M σ H ys E r D n rt b c => h M σ H E _ fun x μ1 M1 H1 q s hh => by
    cases x with
    | true => exact iteT (wy_go (q.1 rfl) s (E.step s hh) (r.tr s E.h) n rt b c)
    | false => exact iteF (wy_go (q.2 rfl) s (E.step s hh) (r.tr s E.h) n rt b c)
theorem dy_yield {yp : Pos} (hl : os.length < 2 ^ 20) (h : DE X e δ μ fun (x : α) μ1 => N (os ++ [sl x]) δ μ1) (hco : X.env.scope.isCoroutine = false := by rfl) (hi : interactive X.env = false := by rfl) :
    DY X (.Expr (.Yield (some e) yp) pos) os δ μ N Rt B C :=
  of_gs (gs_yield (cE_pe e) hco hi) fun M σ H ys E r D n rt b c =>
    ⟨by rw [r.length, sizeLine_eq]; omega, h M σ H E _ fun x μ1 M1 v H1 q s hh rv => n (os ++ [sl x]) δ μ1 M1 σ H1 (ys ++ [v]) q s (E.step s hh) ((r.tr s E.h).snoc rv)⟩
/-- the body of a generator's loop -/
theorem run_bodyG {D : GEnds} {N' : List V → L2.St → Hp → Prop} {M0 M : AS} {μ0 : List Cell} {H0 H : Hp} {σ : L2.St} {ys : List V} {I : PY} (h : DYs X body os δ μ I Rt N I) (s : Ste M0 μ0 H0 M μ H) (E : EnvOk X.K M μ δ σ H) (r : SlVs X.K M H ys os)
    (n : ∀ os' δ' μ' M' σ' H' ys', N os' δ' μ' → Ste M0 μ0 H0 M' μ' H' → EnvOk X.K M' μ' δ' σ' H' → SlVs X.K M' H' ys' os' → D.nx ys' σ' H')
    (rt : ∀ os' μ' M' H' ys', Rt os' μ' → Ste M0 μ0 H0 M' μ' H' → Holds X.K M' μ' H' → SlVs X.K M' H' ys' os' → D.rt ys' .non H')
    (nn : ∀ os' δ' μ' M' σ' H' ys', I os' δ' μ' → Ste M0 μ0 H0 M' μ' H' → EnvOk X.K M' μ' δ' σ' H' → SlVs X.K M' H' ys' os' → N' ys' σ' H') : cGs X body { D with nx := N', ct := N', bk := D.nx } ys σ H :=
  h M σ H ys E r { D with nx := N', ct := N', bk := D.nx } (fun _ _ _ _ _ _ _ p2 s2 => nn _ _ _ _ _ _ _ p2 (s.trans s2)) (fun _ _ _ _ _ p2 s2 => rt _ _ _ _ _ p2 (s.trans s2))
    (fun _ _ _ _ _ _ _ p2 s2 => n _ _ _ _ _ _ _ p2 (s.trans s2)) (fun _ _ _ _ _ _ _ p2 s2 => nn _ _ _ _ _ _ _ p2 (s.trans s2))
theorem dy_range1 {i : Nat} {x : Str} {px pos' : Pos} (hp : PassesOwn (model X.prog X.w) X.A X.env X.xe) (hc : X.calm = true) (hN : X.N.Nodup) (hm : X.mg "range" = none)
    (h : DE X a δ μ fun (n : Int) μ1 => n < 2 ^ 62 ∧ -(2 ^ 62) ≤ n ∧ ∃ Inv : Nat → PY, Inv 0 os δ μ1 ∧ (∀ (k : Nat) os' δ' μ', (k : Int) < n → Inv k os' δ' μ' → DYs X body os' (δ'.set i (sl (k : Int))) μ' (Inv (k + 1)) Rt N (Inv (k + 1))) ∧ (∀ os' δ' μ', Inv n.toNat os' δ' μ' → N os' δ' μ'))
    (hi : X.N[i]? = some x := by rfl) (hx : Loc X.env.scope x := by first | exact Or.inl rfl | exact Or.inr rfl) (hf : X.fn x = true ∨ X.env.scope.names.lookup x = some .local := by first | exact .inl rfl | exact .inr rfl)
    (hg : Gl X "range" := by rfl) (hs : starEach [a] X.env = [(false, eval a X.env)] := by rfl) (hs2 : starEach [a] X.env = (false, eval a X.env) :: starEach [] X.env := by rfl)
    (hs3 : ∀ x, foldedSetIterable (.Call (.Name "range" p) [a] [] pos') X.env x = pure x := by intro _; rfl) :
    DY X (.For (.Name x px) (.Call (.Name "range" p) [a] [] pos') body [] pos) os δ μ N Rt B C :=
  of_gs (gs_for hp hc (pi_range1 hg hm (pa_cons (cE_pe a) pa_nil hs2) hs) (pg_name (i := i) hN hi hx hf) (cGs_gss X body) hs3) fun M σ H0 ys E r D nk rk bk ck => h M σ H0 E _ fun n μ1 M1 v H1 p1 s1 h1 r1 => by
    obtain ⟨n1, n2, Inv, i0, ih, ie⟩ := p1
    cases r1
    refine ⟨n, rfl, n2, n1, ?_⟩
    refine ⟨fun i m ys σ H => m = n.toNat - i ∧ i ≤ n.toNat ∧ ∃ M' μ' δ' os', Inv i os' δ' μ' ∧ Ste M μ H0 M' μ' H ∧ EnvOk X.K M' μ' δ' σ H ∧ SlVs X.K M' H ys os', ⟨n.toNat, by simp, Nat.zero_le _, M1, μ1, δ, os, i0, s1, E.step s1 h1, r.tr s1 E.h⟩, ?_⟩
    rintro k m ys' σ' H' ⟨rfl, hk, M', μ', δ', os', hI, s', E', r'⟩
    by_cases hlt : k < n.toNat
    · refine .inr ⟨hlt, fun ys σ H => ∃ M' μ' δ' os', Inv (k + 1) os' δ' μ' ∧ Ste M μ H0 M' μ' H ∧ EnvOk X.K M' μ' δ' σ H ∧ SlVs X.K M' H ys os', fun ys2 σ2 H2 q => ⟨n.toNat - (k + 1), by omega, rfl, hlt, q⟩, fun x H2 y => ?_⟩
      obtain ⟨e, y⟩ := y
      subst e y
      rw [show (0 : Int) + (k : Int) = (k : Int) by omega]
      refine (wg_name (s := sl (k : Int))).run M' μ' σ' _ _ E' rfl _ fun σ2 E2 => ?_
      exact run_bodyG (ih k os' δ' μ' (by omega) hI) s' E2 r' nk rk fun os2 δ2 μ2 M2 σ3 H3 ys3 p s2 E3 r3 => ⟨M2, μ2, δ2, os2, p, s2, E3, r3⟩
    · have e : k = n.toNat := by omega
      subst e
      exact .inl ⟨Nat.le_refl _, nk _ _ _ _ _ _ _ (ie _ _ _ hI) s' E' r'⟩
end
abbrev PmG := List Slot → List Cell → (List Slot → List Cell → Prop) → Prop
def spG (K : PySem.W.Frag) (Φ : PmG) : SpG := fun vs H Q _ => ∃ (M : AS) (μ : List Cell) (as : List Slot) (P : List Slot → List Cell → Prop), Holds K M μ H ∧ SlVs K M H vs as ∧ Φ as μ P ∧
  ∀ os μ' M' ys H', P os μ' → Ste M μ H M' μ' H' → Holds K M' μ' H' → SlVs K M' H' ys os → Q ys H'
/-- a generator def that may be called -/
structure CalG (P : Program) (w : World) (K : PySem.W.Frag) (mg : Str → Option Value) (base : Heap) (x : Str) (k : Nat) (ps : List Str) (Φ : PmG) : Prop where
  ex : ∃ (f : Addr) (fd : FuncData), GFn P w K mg base k f fd ps (spG K Φ) ∧ mg x = some (.ref f) ∧ PySem.W.keepIn K (.ref f) = true ∧ Binds K fd ps []
section
variable {P : Program} {w : World} {K : PySem.W.Frag} {mg : Str → Option Value} {base : Heap} {x : Str} {st : Stmt} {ps N : List Str} {Φ : PmG} {k : Nat}
abbrev cxG (P : Program) (w : World) (K : PySem.W.Frag) (mg : Str → Option Value) (base : Heap) (N : List Str) (qual : Str) (st : Stmt) (f : Addr) (cdv : Value) (A : Around) (outer : List Env) (s : Shared) (H : Hp) (E : XK) (pn : List (Addr × Obj)) : Cx := gcxOf P w K mg base N qual (defScope st) f cdv A outer s H E pn
theorem Dfn.calG (D : Dfn K mg x st ps) (S : GScope N ps (defScope st)) (len : ∀ as μ P, Φ as μ P → as.length = ps.length)
    (h : ∀ (f : Addr) (cdv : Value) (A : Around) (outer : List Env) (s : Shared) (H : Hp) (E : XK) (pn : List (Addr × Obj)), Room k (A.deeper (envOfC x (defScope st) s.heap.objs.size f cdv)) → ∀ as μ Pd, Φ as μ Pd →
      DYs (cxG P w K mg base N x st f cdv A outer s H E pn) (defBody st) [] (as ++ List.replicate (N.length - as.length) .any) μ (fun os _ μ' => Pd os μ') Pd (fun _ _ _ => False) (fun _ _ _ => False)) :
    CalG P w K mg base x (k + 1) ps Φ := by
  obtain ⟨f, fd, dvs, F, hm, hb⟩ := D.ex
  obtain ⟨oc, od, dV, kV, doc, pm, an, cdv, ct, osl, rfl, lk, hcd, _, _⟩ := F.ex
  refine ⟨f, _, gfn_of lk hcd S (fun vs H Q E h => ?_) (fun A outer s H vs Q E pn hr hsp => ?_), hm, F.kp, hb⟩
  · obtain ⟨M, μ, as, Pd, _, r, hp, _⟩ := h
    rw [r.length]; exact len _ _ _ hp
  · obtain ⟨M, μ, as, Pd, hh, r, hp, q⟩ := hsp
    refine ⟨_, cGs_gss _ _, h f cdv A outer s H E pn hr as μ Pd hp M _ H [] (start_ok hh r) .nil _ (fun os' δ' μ' M' σ' H' ys' n s' E' r' => q os' μ' M' ys' H' n s' E'.h r') (fun os' μ' M' H' ys' n s' h' r' => ⟨rfl, q os' μ' M' ys' H' n s' h' r'⟩) (fun _ _ _ _ _ _ _ z => z.elim) (fun _ _ _ _ _ _ _ z => z.elim)⟩
end
section
variable {X : Cx} {e : Expr} {es : List Expr} {δ : List Slot} {μ : List Cell} {k : Nat} {ps : List Str} {Φ : PmG} {x : Str} {p p' pos pos' : Pos} {α : Type} [Enc α] {P : Ref → List Cell → Prop}
/-- list(g(..)) of a generator def -/
theorem de_listG (c : CalG X.prog X.w X.K X.mg X.base x k ps Φ) {k' : Nat} (hr : Room k' X.A) (hk : k + 3 ≤ k') (hl : X.mg "list" = none)
    (h : DA X (e :: es) δ μ fun as μ1 => ∃ μc μr, Parts μ1 μc μr ∧ Φ as μc fun os μ' => ∃ xs : List α, os = xs.map (fun x => sl x) ∧ ∀ l, P ⟨l⟩ (μ' ++ μr ++ [lst l xs])) (hg : Gl X x := by rfl) (hgl : Gl X "list" := by rfl) (hdb : (x == ("__debug__" : Str)) = false := by decide)
    (he : starEach (e :: es) X.env = (false, eval e X.env) :: starEach es X.env := by rfl) (hpl : (backTo pos' (starEach es X.env)).any (·.1) = false := by rfl)
    (he2 : starEach [.Call (.Name x p') (e :: es) [] pos'] X.env = (false, eval (.Call (.Name x p') (e :: es) [] pos') X.env) :: starEach [] X.env := by rfl) :
    DE X (.Call (.Name "list" p) [.Call (.Name x p') (e :: es) [] pos'] [] pos) δ μ P := by
  obtain ⟨f, fd, F, hm, hkp, hb⟩ := c.ex
  refine of_pe (pe_listG (E := fun _ _ _ => False) (pgen_call F (hr.mono (by omega)) hg hm hkp hb .nil (cA_pa _) hdb he hpl) (fun _ _ _ _ _ _ _ h => ?_) (fun _ _ _ h => h.elim) (hr.mono hk) hgl hl (by decide +kernel) (by decide) (by decide) he2) fun M σ H E Q q => h M σ H E _ fun as μ1 M1 vs H1 p1 s1 h1 r1 => ?_
  · obtain ⟨_, _, _, _, _, _, _, _, _, _, _, _, z⟩ := h
    exact z.elim
  · obtain ⟨μc, μr, sp, ph⟩ := p1
    refine ⟨M1, μc, as, _, h1.part sp, by rw [List.append_nil]; exact r1, ph, fun os μ' M' ys H' py s2 h2 r2 l hl' => ?_⟩
    obtain ⟨xs, rfl, py⟩ := py
    obtain ⟨s3, h3⟩ := frame h1 sp s2 h2
    obtain ⟨s4, h4⟩ := new_cell h3 hl' (SlVs.ex r2)
    exact q ⟨l⟩ _ _ _ _ (py l) ((s1.trans s3).trans s4) h4 rfl
end
end Dl
namespace Dl
open PySem PySem.Spec PyProof.Rows L2
/-! ### the mathematics -/
/-- the lowest form of t / b, b above zero -/
def lo (t b : Int) : Int × Int := (t / (Nat.gcd t.natAbs b.natAbs : Nat), b / (Nat.gcd t.natAbs b.natAbs : Nat))
theorem gcd_pos {t b : Int} (hb : 0 < b) : 0 < ((Nat.gcd t.natAbs b.natAbs : Nat) : Int) := by
  have : 0 < Nat.gcd t.natAbs b.natAbs := Nat.gcd_pos_of_pos_right _ (by omega)
  omega
theorem gcd_dl (t b : Int) : ((Nat.gcd t.natAbs b.natAbs : Nat) : Int) ∣ t := Int.natAbs_dvd_natAbs.mp (Nat.gcd_dvd_left _ _)
theorem gcd_dr (t b : Int) : ((Nat.gcd t.natAbs b.natAbs : Nat) : Int) ∣ b := Int.natAbs_dvd_natAbs.mp (Nat.gcd_dvd_right _ _)
theorem gcd_le {t b : Int} (hb : 0 < b) : ((Nat.gcd t.natAbs b.natAbs : Nat) : Int) ≤ b := Int.le_of_dvd hb (gcd_dr t b)
theorem lo_mul1 {t b : Int} : (lo t b).1 * ((Nat.gcd t.natAbs b.natAbs : Nat) : Int) = t := Int.ediv_mul_cancel (gcd_dl t b)
theorem lo_mul2 {t b : Int} : (lo t b).2 * ((Nat.gcd t.natAbs b.natAbs : Nat) : Int) = b := Int.ediv_mul_cancel (gcd_dr t b)
theorem lo_pos {t b : Int} (hb : 0 < b) : 0 < (lo t b).2 := by
  have h1 := lo_mul2 (t := t) (b := b)
  have h2 := gcd_pos (t := t) hb
  by_cases h : 0 < (lo t b).2
  · exact h
  · have : (lo t b).2 * ((Nat.gcd t.natAbs b.natAbs : Nat) : Int) ≤ 0 := Int.mul_nonpos_of_nonpos_of_nonneg (by omega) (Int.le_of_lt h2)
    omega
theorem lo_le2 {t b : Int} (hb : 0 < b) : (lo t b).2 ≤ b := Int.ediv_le_self _ (Int.le_of_lt hb)
theorem lo_abs1 (t b : Int) : (lo t b).1.natAbs ≤ t.natAbs := by
  show (t / _).natAbs ≤ _
  rw [Int.natAbs_ediv_of_dvd (gcd_dl t b)]
  exact Nat.div_le_self _ _
theorem lo_cop {t b : Int} (hb : 0 < b) : Nat.gcd (lo t b).1.natAbs (lo t b).2.natAbs = 1 := by
  show Nat.gcd (t / _).natAbs (b / _).natAbs = 1
  rw [Int.natAbs_ediv_of_dvd (gcd_dl t b), Int.natAbs_ediv_of_dvd (gcd_dr t b), Int.natAbs_natCast]
  rw [Nat.gcd_div (Nat.gcd_dvd_left _ _) (Nat.gcd_dvd_right _ _)]
  exact Nat.div_self (Nat.gcd_pos_of_pos_right _ (by omega))
theorem lo_self {x : Int × Int} (h : Nat.gcd x.1.natAbs x.2.natAbs = 1) : lo x.1 x.2 = x := by
  unfold lo
  rw [h]
  show (x.1 / 1, x.2 / 1) = x
  rw [Int.ediv_one, Int.ediv_one]
theorem lo_lo {t b : Int} (hb : 0 < b) : lo (lo t b).1 (lo t b).2 = lo t b := lo_self (lo_cop hb)
theorem bits_of {x : Int} {n : Nat} (h : x.natAbs < 2 ^ n) (hn : 0 < n) : x.natAbs.log2 < n := PySem.Flt.log2_lt_of hn h
theorem divW_of {x y : Int} {n : Nat} (h0 : 0 < y) (h : y.natAbs < 2 ^ n) (hn : 0 < n) (h9 : n ≤ 9000) : CDivW x y := ⟨h0, Nat.lt_of_lt_of_le (bits_of h hn) h9⟩
theorem mulx_of {x y : Int} {a b : Nat} (ha : x.natAbs < 2 ^ a) (hb : y.natAbs < 2 ^ b) (h : a + b ≤ 134217728) : CMulX x y := mulx_ok ha hb h
theorem pow_lt {x : Int} {a : Nat} (ha : x.natAbs < 2 ^ a) : ∀ k : Nat, 0 < k → (x ^ k).natAbs < 2 ^ (a * k)
  | 0, h => absurd h (by omega)
  | 1, _ => by rw [Nat.mul_one]; rw [show x ^ 1 = x from Int.pow_one x]; exact ha
  | k + 2, _ => by
    rw [Int.pow_succ, Int.natAbs_mul, show a * (k + 2) = a * (k + 1) + a by rw [Nat.mul_succ], Nat.pow_add]
    exact Nat.mul_lt_mul'' (pow_lt ha (k + 1) (by omega)) ha
theorem pow_le' {x : Int} {a : Nat} (ha : x.natAbs < 2 ^ a) (h0 : 0 < a) (k : Nat) : (x ^ k).natAbs < 2 ^ (a * k + 1) := by
  cases k with
  | zero =>
    rw [Int.pow_zero, Nat.mul_zero]
    decide
  | succ k => exact Nat.lt_of_lt_of_le (pow_lt ha (k + 1) (by omega)) (Nat.pow_le_pow_right (by decide) (Nat.le_succ _))
theorem natAbs_lt_mul {x y : Int} {a b : Nat} (ha : x.natAbs < 2 ^ a) (hb : y.natAbs < 2 ^ b) : (x * y).natAbs < 2 ^ (a + b) := by
  rw [Int.natAbs_mul, Nat.pow_add]
  exact Nat.mul_lt_mul'' ha hb
theorem pow2_mono {x : Nat} {a b : Nat} (h : x < 2 ^ a) (hab : a ≤ b) : x < 2 ^ b := Nat.lt_of_lt_of_le h (Nat.pow_le_pow_right (by decide) hab)
theorem de_unsome {X : Cx} {α : Type} [Enc α] [NN α] {e : Expr} {δ : List Slot} {μ : List Cell} {P : α → List Cell → Prop} (h : DE X e δ μ fun (x : Option α) μ' => ∃ y, x = some y ∧ P y μ') : DE X e δ μ P :=
  fun M σ H E Q q => h M σ H E Q fun x μ' M' v H' p s hh r => by
    obtain ⟨y, rfl, p⟩ := p
    exact q y μ' M' v H' p s hh r
theorem atI_mem {α : Type} {xs : List α} {i : Int} (h0 : 0 ≤ i) (h1 : i < xs.length) : ∃ y, atI xs i = some y ∧ y ∈ xs := by
  obtain ⟨k, rfl⟩ := Int.eq_ofNat_of_zero_le h0
  have hk : k < xs.length := by omega
  exact ⟨xs[k], atI_nat (List.getElem?_eq_getElem hk), List.getElem_mem hk⟩
theorem de_tupOf2 {X : Cx} {α : Type} [Enc α] {e : Expr} {δ : List Slot} {μ : List Cell} {P : Tup α → List Cell → Prop} (h : DE X e δ μ fun (x : α × α) μ' => P ⟨[x.1, x.2]⟩ μ') : DE X e δ μ P :=
  fun M σ H E Q q => h M σ H E Q fun x μ' M' v H' p s hh r => by
    obtain ⟨a, v1, v2, rfl, sq, r1, r2⟩ := r
    exact q _ μ' M' _ H' p s hh ⟨a, _, rfl, sq, .cons r1 (.cons r2 .nil)⟩
/-! ### numbers: top and bottom -/
abbrev Q2 := Int × Int
structure Nm (A : Nat) (x : Q2) : Prop where
  pos : 0 < x.2
  t : x.1.natAbs < 2 ^ A
  b : x.2.natAbs < 2 ^ A
theorem Nm.mono {A B : Nat} {x : Q2} (h : Nm A x) (k : A ≤ B) : Nm B x := ⟨h.pos, pow2_mono h.t k, pow2_mono h.b k⟩
theorem lo_one (t : Int) : lo t 1 = (t, 1) := by
  have : Nat.gcd t.natAbs (1 : Int).natAbs = 1 := Nat.gcd_one_right _
  unfold lo
  rw [this]
  show (t / 1, (1 : Int) / 1) = _
  rw [Int.ediv_one, Int.ediv_one]
theorem Nm.lo {A : Nat} {t b : Int} (hb : 0 < b) (h1 : t.natAbs < 2 ^ A) (h2 : b.natAbs < 2 ^ A) : Nm A (Dl.lo t b) :=
  ⟨lo_pos hb, Nat.lt_of_le_of_lt (lo_abs1 t b) h1, by
    have a := lo_le2 (t := t) hb
    have c := lo_pos (t := t) hb
    omega⟩
def fadd (x y : Q2) : Q2 := lo (x.1 * y.2 + y.1 * x.2) (x.2 * y.2)
def fsub (x y : Q2) : Q2 := lo (x.1 * y.2 - y.1 * x.2) (x.2 * y.2)
def fmul (x y : Q2) : Q2 := lo (x.1 * y.1) (x.2 * y.2)
theorem add_bits {x y : Int} {A : Nat} (h1 : x.natAbs < 2 ^ A) (h2 : y.natAbs < 2 ^ A) : (x + y).natAbs < 2 ^ (A + 1) := by
  rw [Nat.pow_succ]; omega
theorem sub_bits {x y : Int} {A : Nat} (h1 : x.natAbs < 2 ^ A) (h2 : y.natAbs < 2 ^ A) : (x - y).natAbs < 2 ^ (A + 1) := by
  rw [Nat.pow_succ]; omega
section
variable {A B : Nat} {x y : Q2}
theorem Nm.raw (h1 : Nm A x) (h2 : Nm B y) : 0 < x.2 * y.2 ∧ (x.1 * y.2).natAbs < 2 ^ (A + B) ∧ (y.1 * x.2).natAbs < 2 ^ (A + B) ∧ (x.2 * y.2).natAbs < 2 ^ (A + B) ∧ (x.1 * y.1).natAbs < 2 ^ (A + B) :=
  ⟨Int.mul_pos h1.pos h2.pos, natAbs_lt_mul h1.t h2.b, by rw [Nat.add_comm]; exact natAbs_lt_mul h2.t h1.b, natAbs_lt_mul h1.b h2.b, natAbs_lt_mul h1.t h2.t⟩
theorem Nm.add (h1 : Nm A x) (h2 : Nm B y) : Nm (A + B + 1) (fadd x y) := by
  obtain ⟨p, a, b, c, _⟩ := h1.raw h2
  exact Nm.lo p (add_bits a b) (pow2_mono c (by omega))
theorem Nm.sub (h1 : Nm A x) (h2 : Nm B y) : Nm (A + B + 1) (fsub x y) := by
  obtain ⟨p, a, b, c, _⟩ := h1.raw h2
  exact Nm.lo p (sub_bits a b) (pow2_mono c (by omega))
theorem Nm.mul (h1 : Nm A x) (h2 : Nm B y) : Nm (A + B) (fmul x y) := by
  obtain ⟨p, _, _, c, d⟩ := h1.raw h2
  exact Nm.lo p d c
theorem fadd_b (h1 : 0 < x.2) (h2 : 0 < y.2) : 0 < (fadd x y).2 ∧ (fadd x y).2 ≤ x.2 * y.2 := ⟨lo_pos (Int.mul_pos h1 h2), lo_le2 (Int.mul_pos h1 h2)⟩
theorem fsub_b (h1 : 0 < x.2) (h2 : 0 < y.2) : 0 < (fsub x y).2 ∧ (fsub x y).2 ≤ x.2 * y.2 := ⟨lo_pos (Int.mul_pos h1 h2), lo_le2 (Int.mul_pos h1 h2)⟩
theorem fmul_b (h1 : 0 < x.2) (h2 : 0 < y.2) : 0 < (fmul x y).2 ∧ (fmul x y).2 ≤ x.2 * y.2 := ⟨lo_pos (Int.mul_pos h1 h2), lo_le2 (Int.mul_pos h1 h2)⟩
end
/-! ### worths -/
def qv (x : Q2) : Rat := (x.1 : Rat) / (x.2 : Rat)
theorem cast_pos {b : Int} (h : 0 < b) : (0 : Rat) < (b : Rat) := by exact_mod_cast h
theorem cast_ne {b : Int} (h : 0 < b) : (b : Rat) ≠ 0 := by have := cast_pos h; grind
theorem qv_lo {t b : Int} (hb : 0 < b) : qv (lo t b) = (t : Rat) / (b : Rat) := by
  have h1 := lo_mul1 (t := t) (b := b)
  have h2 := lo_mul2 (t := t) (b := b)
  have g := gcd_pos (t := t) hb
  have p := lo_pos (t := t) hb
  generalize ((Nat.gcd t.natAbs b.natAbs : Nat) : Int) = d at h1 h2 g
  have e1 : (t : Rat) = ((lo t b).1 : Rat) * (d : Rat) := by rw [← Rat.intCast_mul, h1]
  have e2 : (b : Rat) = ((lo t b).2 : Rat) * (d : Rat) := by rw [← Rat.intCast_mul, h2]
  have n1 := cast_ne g
  have n2 := cast_ne p
  unfold qv
  rw [e1, e2]
  grind
section
variable {x y : Q2}
theorem qv_add (h1 : 0 < x.2) (h2 : 0 < y.2) : qv (fadd x y) = qv x + qv y := by
  unfold fadd
  rw [qv_lo (Int.mul_pos h1 h2)]
  have n1 := cast_ne h1
  have n2 := cast_ne h2
  unfold qv
  simp only [Rat.intCast_mul, Rat.intCast_add]
  grind
theorem qv_sub (h1 : 0 < x.2) (h2 : 0 < y.2) : qv (fsub x y) = qv x - qv y := by
  unfold fsub
  rw [qv_lo (Int.mul_pos h1 h2)]
  have n1 := cast_ne h1
  have n2 := cast_ne h2
  unfold qv
  simp only [Rat.intCast_mul, Rat.intCast_sub]
  grind
theorem qv_mul (h1 : 0 < x.2) (h2 : 0 < y.2) : qv (fmul x y) = qv x * qv y := by
  unfold fmul
  rw [qv_lo (Int.mul_pos h1 h2)]
  have n1 := cast_ne h1
  have n2 := cast_ne h2
  unfold qv
  simp only [Rat.intCast_mul]
  grind
theorem qv_top (h1 : 0 < x.2) : qv x * (x.2 : Rat) = (x.1 : Rat) := by
  have n1 := cast_ne h1
  unfold qv
  grind
theorem rat_mul_lt {a b c : Rat} (hc : 0 < c) : a < b ↔ a * c < b * c := (Rat.mul_lt_mul_right hc).symm
theorem qv_lt (h1 : 0 < x.2) (h2 : 0 < y.2) : x.1 * y.2 < y.1 * x.2 ↔ qv x < qv y := by
  have p1 := cast_pos h1
  have p2 := cast_pos h2
  rw [rat_mul_lt p1, rat_mul_lt p2, qv_top h1]
  rw [show qv y * (x.2 : Rat) * (y.2 : Rat) = qv y * (y.2 : Rat) * (x.2 : Rat) by grind, qv_top h2, ← Rat.intCast_mul, ← Rat.intCast_mul]
  exact (Rat.intCast_lt_intCast).symm
theorem qv_le (h1 : 0 < x.2) (h2 : 0 < y.2) : x.1 * y.2 ≤ y.1 * x.2 ↔ qv x ≤ qv y := by
  have h := qv_lt h2 h1
  rw [← Int.not_lt, ← Rat.not_lt, h]
end
/-! ### sums -/
def Sm (n : Nat) (f : Nat → Rat) : Rat := match n with
  | 0 => 0
  | n + 1 => Sm n f + f n
theorem Sm_le {n : Nat} {f g : Nat → Rat} (h : ∀ k, k < n → f k ≤ g k) : Sm n f ≤ Sm n g := by
  induction n with
  | zero => exact Rat.le_refl
  | succ n ih =>
    have h1 := ih fun k hk => h k (by omega)
    have h2 := h n (by omega)
    show Sm n f + f n ≤ Sm n g + g n
    grind
theorem Sm_eq {n : Nat} {f g : Nat → Rat} (h : ∀ k, k < n → f k = g k) : Sm n f = Sm n g := by
  induction n with
  | zero => rfl
  | succ n ih =>
    show Sm n f + f n = Sm n g + g n
    rw [ih fun k hk => h k (by omega), h n (by omega)]
theorem Sm_add {n : Nat} {f g : Nat → Rat} : Sm n (fun k => f k + g k) = Sm n f + Sm n g := by
  induction n with
  | zero => show (0 : Rat) = 0 + 0; grind
  | succ n ih =>
    show Sm n (fun k => f k + g k) + (f n + g n) = (Sm n f + f n) + (Sm n g + g n)
    rw [ih]; grind
theorem Sm_mulr {n : Nat} {f : Nat → Rat} {c : Rat} : Sm n (fun k => f k * c) = Sm n f * c := by
  induction n with
  | zero => show (0 : Rat) = 0 * c; grind
  | succ n ih =>
    show Sm n (fun k => f k * c) + f n * c = (Sm n f + f n) * c
    rw [ih]; grind
theorem Sm_mull {n : Nat} {f : Nat → Rat} {c : Rat} : Sm n (fun k => c * f k) = c * Sm n f := by
  induction n with
  | zero => show (0 : Rat) = c * 0; grind
  | succ n ih =>
    show Sm n (fun k => c * f k) + c * f n = c * (Sm n f + f n)
    rw [ih]; grind
theorem Sm_zero {n : Nat} : Sm n (fun _ => 0) = 0 := by
  induction n with
  | zero => rfl
  | succ n ih => show Sm n (fun _ => 0) + 0 = 0; rw [ih]; grind
theorem Sm_swap {n m : Nat} {f : Nat → Nat → Rat} : Sm n (fun j => Sm m (fun r => f r j)) = Sm m (fun r => Sm n (fun j => f r j)) := by
  induction n with
  | zero => exact (Sm_zero (n := m)).symm
  | succ n ih =>
    show Sm n (fun j => Sm m (fun r => f r j)) + Sm m (fun r => f r n) = Sm m (fun r => Sm n (fun j => f r j) + f r n)
    rw [ih, Sm_add]
/-- rows that are kept, duals of zero or more: what they show is no more than the goal -/
theorem weak_dual {n m : Nat} {A : Nat → Nat → Rat} {b y g p mn : Nat → Rat} (h1 : ∀ r, r < m → b r ≤ Sm n (fun j => A r j * p j)) (h2 : ∀ r, r < m → 0 ≤ y r)
    (h3 : ∀ j, j < n → mn j ≤ (g j - Sm m (fun r => y r * A r j)) * p j) : Sm m (fun r => y r * b r) + Sm n mn ≤ Sm n (fun j => g j * p j) := by
  have e1 : Sm m (fun r => y r * b r) ≤ Sm m (fun r => y r * Sm n (fun j => A r j * p j)) := Sm_le fun r hr => Rat.mul_le_mul_of_nonneg_left (h1 r hr) (h2 r hr)
  have e2 : Sm m (fun r => y r * Sm n (fun j => A r j * p j)) = Sm n (fun j => Sm m (fun r => y r * A r j) * p j) := by
    rw [show (fun j => Sm m (fun r => y r * A r j) * p j) = (fun j => Sm m (fun r => y r * A r j * p j)) from funext fun j => Sm_mulr.symm, Sm_swap]
    refine Sm_eq fun r _ => ?_
    rw [← Sm_mull]
    exact Sm_eq fun j _ => by grind
  have e3 : Sm n mn ≤ Sm n (fun j => (g j - Sm m (fun r => y r * A r j)) * p j) := Sm_le h3
  have e4 : Sm n (fun j => g j * p j) = Sm n (fun j => (g j - Sm m (fun r => y r * A r j)) * p j) + Sm n (fun j => Sm m (fun r => y r * A r j) * p j) := by
    rw [← Sm_add]
    exact Sm_eq fun j _ => by grind
  rw [e4, ← e2]
  grind
/-! ### the sum of products -/
def dstep (s a b : Q2) : Q2 := if a.1 ≠ 0 ∧ b.1 ≠ 0 then (s.1 * (a.2 * b.2) + a.1 * b.1 * s.2, s.2 * (a.2 * b.2)) else s
def dtb (X Y : Nat → Q2) : Nat → Q2
  | 0 => (0, 1)
  | k + 1 => dstep (dtb X Y k) (X k) (Y k)
def fdot (X Y : Nat → Q2) (n : Nat) : Q2 := lo (dtb X Y n).1 (dtb X Y n).2
def Pn (f : Nat → Int) : Nat → Int
  | 0 => 1
  | k + 1 => Pn f k * f k
theorem Pn_pos {f : Nat → Int} {n : Nat} (h : ∀ k, k < n → 0 < f k) : 0 < Pn f n := by
  induction n with
  | zero => exact (by decide : (0 : Int) < 1)
  | succ n ih => exact Int.mul_pos (ih fun k hk => h k (by omega)) (h n (by omega))
theorem Pn_mul {f g : Nat → Int} {n : Nat} : Pn (fun k => f k * g k) n = Pn f n * Pn g n := by
  induction n with
  | zero => rfl
  | succ n ih =>
    show Pn (fun k => f k * g k) n * (f n * g n) = (Pn f n * f n) * (Pn g n * g n)
    rw [ih]; grind
theorem Pn_le {f g : Nat → Int} {n : Nat} (h : ∀ k, k < n → 0 < f k ∧ f k ≤ g k) : Pn f n ≤ Pn g n := by
  induction n with
  | zero => exact Int.le_refl _
  | succ n ih =>
    have p := Pn_pos (f := f) (n := n) fun k hk => (h k (by omega)).1
    have q := ih fun k hk => h k (by omega)
    have r := h n (by omega)
    exact Int.mul_le_mul q r.2 (Int.le_of_lt r.1) (by omega)
/-- a bound by powers of two -/
theorem Pn_two {f : Nat → Int} {e : Nat → Nat} {n : Nat} (h : ∀ k, k < n → 0 < f k ∧ f k ≤ 2 ^ e k) : Pn f n ≤ 2 ^ ((List.range n).map e).sum := by
  induction n with
  | zero => exact (by decide : (1 : Int) ≤ 2 ^ 0)
  | succ n ih =>
    have p := Pn_pos (f := f) (n := n) fun k hk => (h k (by omega)).1
    have q := ih fun k hk => h k (by omega)
    have r := h n (by omega)
    rw [List.range_succ, List.map_append, List.sum_append]
    simp only [List.map_cons, List.map_nil, List.sum_cons, List.sum_nil, Nat.add_zero]
    rw [Int.pow_add]
    exact Int.mul_le_mul q r.2 (Int.le_of_lt r.1) (Int.le_trans (Int.le_of_lt p) q)
section
variable {X Y : Nat → Q2} {n : Nat}
theorem dstep_pos {s a b : Q2} (hs : 0 < s.2) (ha : 0 < a.2) (hb : 0 < b.2) : 0 < (dstep s a b).2 ∧ (dstep s a b).2 ≤ s.2 * (a.2 * b.2) := by
  have ab := Int.mul_pos ha hb
  unfold dstep
  split
  · exact ⟨Int.mul_pos hs ab, Int.le_refl _⟩
  · refine ⟨hs, ?_⟩
    have : s.2 * 1 ≤ s.2 * (a.2 * b.2) := Int.mul_le_mul_of_nonneg_left (by omega) (Int.le_of_lt hs)
    omega
theorem dtb_pos (h1 : ∀ k, k < n → 0 < (X k).2) (h2 : ∀ k, k < n → 0 < (Y k).2) : 0 < (dtb X Y n).2 ∧ (dtb X Y n).2 ≤ Pn (fun k => (X k).2 * (Y k).2) n := by
  induction n with
  | zero => exact ⟨(by decide : (0 : Int) < 1), Int.le_refl _⟩
  | succ n ih =>
    obtain ⟨p, q⟩ := ih (fun k hk => h1 k (by omega)) fun k hk => h2 k (by omega)
    have a := h1 n (by omega)
    have b := h2 n (by omega)
    obtain ⟨p1, p2⟩ := dstep_pos p a b
    exact ⟨p1, Int.le_trans p2 (Int.mul_le_mul_of_nonneg_right q (Int.le_of_lt (Int.mul_pos a b)))⟩
theorem qv_dstep {s a b : Q2} (hs : 0 < s.2) (ha : 0 < a.2) (hb : 0 < b.2) : qv (dstep s a b) = qv s + qv a * qv b := by
  have n1 := cast_ne hs
  have n2 := cast_ne ha
  have n3 := cast_ne hb
  unfold dstep
  split
  · unfold qv
    simp only [Rat.intCast_mul, Rat.intCast_add]
    grind
  · rename_i h
    have : a.1 = 0 ∨ b.1 = 0 := by
      by_cases h1 : a.1 = 0
      · exact .inl h1
      · by_cases h2 : b.1 = 0
        · exact .inr h2
        · exact absurd ⟨h1, h2⟩ h
    have z : qv a * qv b = 0 := by
      unfold qv
      rcases this with e | e
      · rw [e]; show (0 : Rat) / _ * _ = 0; grind
      · rw [e]; show _ * ((0 : Rat) / _) = 0; grind
    rw [z]; grind
theorem qv_dtb (h1 : ∀ k, k < n → 0 < (X k).2) (h2 : ∀ k, k < n → 0 < (Y k).2) : qv (dtb X Y n) = Sm n fun k => qv (X k) * qv (Y k) := by
  induction n with
  | zero => show (0 : Rat) / 1 = 0; grind
  | succ n ih =>
    have i1 : ∀ k, k < n → 0 < (X k).2 := fun k hk => h1 k (by omega)
    have i2 : ∀ k, k < n → 0 < (Y k).2 := fun k hk => h2 k (by omega)
    show qv (dstep _ _ _) = _ + _
    rw [qv_dstep (dtb_pos i1 i2).1 (h1 n (by omega)) (h2 n (by omega)), ih i1 i2]
theorem qv_dot (h1 : ∀ k, k < n → 0 < (X k).2) (h2 : ∀ k, k < n → 0 < (Y k).2) : qv (fdot X Y n) = Sm n fun k => qv (X k) * qv (Y k) := by
  rw [← qv_dtb h1 h2]
  exact qv_lo (dtb_pos h1 h2).1
theorem dtb_Nm {A B : Nat} (h1 : ∀ k, k < n → Nm A (X k)) (h2 : ∀ k, k < n → Nm B (Y k)) : Nm (n * (A + B + 1) + 1) (dtb X Y n) := by
  induction n with
  | zero => exact ⟨(by decide : (0 : Int) < 1), by show 0 < _; exact Nat.pow_pos (by decide), by show 1 < 2 ^ _; rw [Nat.zero_mul]; decide⟩
  | succ n ih =>
    have p := ih (fun k hk => h1 k (by omega)) fun k hk => h2 k (by omega)
    have a := h1 n (by omega)
    have b := h2 n (by omega)
    obtain ⟨c1, _, _, c4, c5⟩ := a.raw b
    have e : (n + 1) * (A + B + 1) + 1 = (n * (A + B + 1) + 1 + (A + B)) + 1 := by rw [Nat.succ_mul]; omega
    show Nm _ (dstep _ _ _)
    rw [e]
    unfold dstep
    split
    · refine ⟨Int.mul_pos p.pos c1, add_bits (natAbs_lt_mul p.t c4) ?_, pow2_mono (natAbs_lt_mul p.b c4) (by omega)⟩
      rw [Nat.add_comm]; exact natAbs_lt_mul c5 p.b
    · exact p.mono (by omega)
theorem fdot_Nm {A B : Nat} (h1 : ∀ k, k < n → Nm A (X k)) (h2 : ∀ k, k < n → Nm B (Y k)) : Nm (n * (A + B + 1) + 1) (fdot X Y n) := by
  have := dtb_Nm h1 h2
  exact Nm.lo this.pos this.t this.b
theorem fdot_b (h1 : ∀ k, k < n → 0 < (X k).2) (h2 : ∀ k, k < n → 0 < (Y k).2) : 0 < (fdot X Y n).2 ∧ (fdot X Y n).2 ≤ Pn (fun k => (X k).2 * (Y k).2) n := by
  obtain ⟨p, q⟩ := dtb_pos h1 h2
  exact ⟨lo_pos p, Int.le_trans (lo_le2 p) q⟩
theorem Pn_mono {f : Nat → Int} {k n : Nat} (h : ∀ i, i < n → 0 < f i) (hk : k ≤ n) : Pn f k ≤ Pn f n := by
  induction n with
  | zero => rw [Nat.le_zero.mp hk]; exact Int.le_refl _
  | succ n ih =>
    by_cases e : k = n + 1
    · rw [e]; exact Int.le_refl _
    · have h1 := ih (fun i hi => h i (by omega)) (by omega)
      have p := Pn_pos (f := f) (n := n) fun i hi => h i (by omega)
      have q := h n (by omega)
      have : Pn f n * 1 ≤ Pn f n * f n := Int.mul_le_mul_of_nonneg_left (by omega) (Int.le_of_lt p)
      show Pn f k ≤ Pn f n * f n
      omega
end
end Dl
namespace Dl
open PySem PySem.Spec PyProof.Rows L2
instance : Deep Bool where
  d x := .bool x
  dp h := by cases h; exact .bl _
  n := 0
  sh x := ⟨rfl, Nat.le_refl _⟩
  eq x y := by show (x == y) = true ↔ _; simp
section
variable {α : Type} [Enc α] [A : Deep α]
theorem deep_dp {K : PySem.W.Frag} {M : AS} {H : Hp} : ∀ {vs : List V} {xs : List α}, Paired (Enc.R K M H) vs xs → DpAll K H vs (xs.map A.d)
  | _, _, .nil => .nil
  | _, _, .cons r t => .cons (A.dp r) (deep_dp t)
theorem deep_lay : ∀ xs : List α, PyData.canLayAll0 (xs.map A.d) = true
  | [] => rfl
  | x :: xs => by show (PyData.canLay0 (A.d x) && PyData.canLayAll0 (xs.map A.d)) = true; rw [(A.sh x).1, deep_lay xs]; rfl
theorem deep_dep : ∀ xs : List α, PyData.depthAll (xs.map A.d) ≤ A.n
  | [] => Nat.zero_le _
  | x :: xs => by
    have h1 := (A.sh x).2
    have h2 := deep_dep xs
    show max (PyData.depth (A.d x)) (PyData.depthAll (xs.map A.d)) ≤ A.n
    omega
theorem deep_eq : ∀ xs ys : List α, PyData.eqvAll (xs.map A.d) (ys.map A.d) = true ↔ xs = ys
  | [], [] => by simp [PyData.eqvAll]
  | [], _ :: _ => by simp [PyData.eqvAll]
  | _ :: _, [] => by simp [PyData.eqvAll]
  | x :: xs, y :: ys => by
    show (PyData.eqv (A.d x) (A.d y) && PyData.eqvAll (xs.map A.d) (ys.map A.d)) = true ↔ _
    rw [Bool.and_eq_true, A.eq, deep_eq xs ys]
    simp
instance : Deep (List α) where
  d x := .list (x.map A.d)
  dp h := by
    obtain ⟨a, vs, rfl, _, s, r⟩ := h
    exact .lst (.inl s) (deep_dp r)
  n := A.n + 1
  sh x := ⟨deep_lay x, Nat.succ_le_succ (deep_dep x)⟩
  eq x y := deep_eq x y
instance : Deep (Tup α) where
  d x := .tuple (x.l.map A.d)
  dp h := by
    obtain ⟨a, vs, rfl, s, r⟩ := h
    exact .tup s (deep_dp r)
  n := A.n + 1
  sh x := ⟨deep_lay x.l, Nat.succ_le_succ (deep_dep x.l)⟩
  eq x y := (deep_eq x.l y.l).trans ⟨fun h => by cases x; cases y; cases h; rfl, fun h => by rw [h]⟩
end
section
variable {X : Cx} {α β ρ : Type} [Enc α] [Enc β] [Enc ρ] {e a b elt : Expr} {es ifs : List Expr} {δ : List Slot} {μ : List Cell} {N B C : PN} {R : ρ → List Cell → Prop} {sts : List Stmt} {pos p : Pos} {scope : Scope} {own : List (Str × Nat)}
/-- the list of the cell at i, named by the local at j, is left as it is for good -/
theorem db_frz (i j : Nat) {l : Addr} {xs : List α} (hi : μ[i]? = some (lst l xs)) (hj : δ[j]? = some (sl (Ref.mk l))) (h : DB X sts (δ.set j (sl xs)) (μ.eraseIdx i) N R B C) : DB X sts δ μ N R B C := fun M σ H E D n r b c => by
  obtain ⟨e1, e2, e3⟩ := split_at hi
  have hh := E.h
  rw [e1] at hh
  obtain ⟨s2, h2, r2⟩ := freeze hh
  rw [← e1, ← e3] at s2
  rw [← e3] at h2
  obtain ⟨w, hw, rw'⟩ := E.get (x := Ref.mk l) hj
  cases rw'
  have E2 := (E.step s2 h2).put (i := j) (s := sl xs) r2
  have es : σ.set j (some (V.ref l)) = σ := by
    obtain ⟨hlt, e⟩ := List.getElem?_eq_some_iff.mp hw
    rw [← e]; exact List.set_getElem_self hlt
  rw [es] at E2
  exact h _ σ H E2 D (fun _ _ _ _ _ p s => n _ _ _ _ _ p (s2.trans s)) (fun _ _ _ _ _ p s => r _ _ _ _ _ p (s2.trans s)) (fun _ _ _ _ _ p s => b _ _ _ _ _ p (s2.trans s)) (fun _ _ _ _ _ p s => c _ _ _ _ _ p (s2.trans s))
theorem de_min {P : Int → List Cell → Prop} (hc : X.calm = true) (hm : X.mg "min" = none) (h : DE X a δ μ fun (i : Int) μ1 => DE X b δ μ1 fun (j : Int) μ2 => P (min i j) μ2) (hg : Gl X "min" := by rfl)
    (he : starEach [a, b] X.env = (false, eval a X.env) :: starEach [b] X.env := by rfl) (he2 : starEach [b] X.env = (false, eval b X.env) :: starEach [] X.env := by rfl) (hpl : (backTo pos (starEach [b] X.env)).any (·.1) = false := by rfl) : DE X (.Call (.Name "min" p) [a, b] [] pos) δ μ P :=
  de_cb (call_min2 hc) hm (by decide +kernel) (da_cons (h.mono fun i μ1 h => da_cons (h.mono fun j μ2 q => da_nil ⟨_, q, fun M H vs r Q k => by
    cases r with
    | cons r1 r =>
      cases r with
      | cons r2 r =>
        cases r
        cases r1; cases r2
        refine ⟨i, j, rfl, k _ ?_⟩
        show V.int _ = V.int _
        congr 1
        split <;> omega⟩) he2) he) hg (by decide) (by decide) he hpl
/-- x = [.. for i in range(n)]: the list is to change -/
theorem ds_lcRN {i0 i : Nat} {x0 y : Str} {px pos' py spos : Pos} (hc : X.calm = true) (hN : X.N.Nodup) (ok : BlkOk X.N X.env.scope scope own) (hi0 : i0 ∈ own.map (·.2)) (hg : ∀ (s : Shared) (H : Hp) (C : Addr) (cl : List (Str × Addr)) (fp : List Addr), PG (blk X scope s H C cl fp) (.Name x0 px) (gName i0)) (hl : ifs.length ≤ 1) (hm : X.mg "range" = none)
    (h : DE X a δ μ fun (n : Int) μ1 => (n < 2 ^ 62 ∧ -(2 ^ 62) ≤ n) ∧ ∃ J : Nat → List β → List Cell → Prop, J 0 [] μ1 ∧
      (∀ (k : Nat) ys μ', (k : Int) < n → J k ys μ' → Turns X scope elt ifs ((wipeD δ (own.map (·.2))).set i0 (sl (k : Int))) μ' (fun (y : β) μ3 => ys.length < 10000 ∧ J (k + 1) (ys ++ [y]) μ3) (fun μ3 => J (k + 1) ys μ3)) ∧ (∀ ys μ', J n.toNat ys μ' → ∀ D, N (δ.set i (sl (Ref.mk D))) (μ' ++ [lst D ys])))
    (hsw : swapsWith (.ListComp elt [⟨.Name x0 px, .Call (.Name "range" p) [a] [] pos', ifs, 0⟩] scope pos) (some (.Name y py)) spos.line X.env = pure true) (hy : X.N[i]? = some y := by rfl) (hyl : X.env.scope.names.lookup y = some .local := by rfl)
    (hgl : Gl X "range" := by rfl) (hs1 : starEach [a] X.env = [(false, eval a X.env)] := by rfl) (hs2 : starEach [a] X.env = (false, eval a X.env) :: starEach [] X.env := by rfl)
    (hs : ∀ x, foldedSetIterable (.Call (.Name "range" p) [a] [] pos') X.env x = pure x := by intro _; rfl) : DS X (.Assign [.Name y py] (.ListComp elt [⟨.Name x0 px, .Call (.Name "range" p) [a] [] pos', ifs, 0⟩] scope pos) spos) δ μ N R B C :=
  of_ps (ps_setLc hc hN hy hyl hsw (pi_range1 hgl hm (pa_cons (cE_pe a) pa_nil hs2) hs1) ok hg (pts_of hl) cB_pe hs) fun M σ H E D n r b c => we_lcRN (P := fun x μ' => N (δ.set i (sl x)) μ') hi0 h M σ H E _ fun x μ' M' v H' p s hh rr => n _ μ' M' _ H' p s ((E.step s hh).put rr)
end
end Dl
namespace Dl
open PySem PySem.Spec PyProof.Rows L2
/-! ### cells, any -/
section
variable {K : PySem.W.Frag} {M M' : AS} {μ μ' : List Cell} {H H' : Hp} {a : Addr}
/-- a cell's thing is changed at a -/
theorem put_any {c c' : Cell} {u o : HO} (h : Holds K M (μ ++ c :: μ') H) (hf : c'.foot = c.foot) (ha : a ∈ c.foot) (ea : H a = some u) (nf : ¬ Fix u) (hc : c'.holds K M (upd H a o)) :
    Ste M (μ ++ c :: μ') H M (μ ++ c' :: μ') (upd H a o) ∧ Holds K M (μ ++ c' :: μ') (upd H a o) := by
  have fa : foots (μ ++ c :: μ') a := foots_mid.mpr (.inr (.inl ha))
  have hM : M a := h.inM a fa
  have k : ∀ b o', H b = some o' → (b ≠ a ∨ Fix o') → upd H a o b = some o' := fun b o' e c => by
    by_cases hb : b = a
    · rcases c with c | c
      · exact absurd hb c
      · rw [hb] at e; rw [ea] at e; cases e; exact absurd c nf
    · rw [upd_ne hb]; exact e
  have al : ∀ b, H b ≠ none → upd H a o b ≠ none := fun b n => by
    by_cases hb : b = a
    · rw [hb, upd_same]; exact fun z => nomatch z
    · rw [upd_ne hb]; exact n
  have ff : ∀ b, foots (μ ++ c' :: μ') b ↔ foots (μ ++ c :: μ') b := fun b => by rw [foots_mid, foots_mid, hf]
  have dj := List.pairwise_append.mp h.dj
  have dj2 := List.pairwise_cons.mp dj.2.1
  refine ⟨⟨fun b o' e cc => k b o' e (cc.imp (fun n z => n (by rw [z]; exact fa)) id), al, fun b z => .inl z, fun b z => .inl ((ff b).mp z), fun b z _ _ => z⟩, ⟨fun d hd => ?_, fun b z => h.inM b ((ff b).mp z), fun b z => al b (h.al b z), ?_⟩⟩
  · have other : ∀ d, d ∈ μ ++ c :: μ' → a ∉ d.foot → d.holds K M (upd H a o) := fun d hd na => d.mono (fun b o' e cc => k b o' e (by
      rcases cc with cc | cc | cc
      · exact .inl fun z => na (by rw [← z]; exact cc)
      · exact .inl fun z => cc (by rw [z]; exact hM)
      · exact .inr cc)) (h.cell d hd)
    rcases List.mem_append.mp hd with hd | hd
    · exact other d (List.mem_append_left _ hd) fun z => dj.2.2 d hd c (by simp) a z ha
    · rcases List.mem_cons.mp hd with hd | hd
      · rw [hd]; exact hc
      · exact other d (List.mem_append_right _ (List.mem_cons_of_mem _ hd)) fun z => dj2.1 d hd a ha z
  · refine List.pairwise_append.mpr ⟨dj.1, List.pairwise_cons.mpr ⟨fun d hd => by rw [hf]; exact dj2.1 d hd, dj2.2⟩, fun d hd e he => ?_⟩
    rcases List.mem_cons.mp he with he | he
    · rw [he, hf]; exact dj.2.2 d hd c (by simp)
    · exact dj.2.2 d hd e (List.mem_cons_of_mem _ he)
end
/-! ### instances -/
abbrev Flds := List (Str × Slot)
inductive FldR (K : PySem.W.Frag) (M : AS) (H : Hp) : List (Str × V) → Flds → Prop
  | nil : FldR K M H [] []
  | cons {g : Str} {v : V} {s : Slot} {vs : List (Str × V)} {fs : Flds} : SlotV K M H v s → FldR K M H vs fs → FldR K M H ((g, v) :: vs) ((g, s) :: fs)
theorem SlotV.mono {K : PySem.W.Frag} {M : AS} {H H' : Hp} {v : V} {s : Slot} (k : ∀ a o, H a = some o → (¬ M a ∨ Fix o) → H' a = some o) (r : SlotV K M H v s) : SlotV K M H' v s := by
  cases s with
  | any => trivial
  | val e x => exact e.mono k r
theorem SlotV.set {K : PySem.W.Frag} {M M' : AS} {H : Hp} {v : V} {s : Slot} (k : ∀ a, M' a → M a ∨ H a = none) (r : SlotV K M H v s) : SlotV K M' H v s := by
  cases s with
  | any => trivial
  | val e x => exact e.set k r
theorem FldR.map {K : PySem.W.Frag} {M M' : AS} {H H' : Hp} (f : ∀ v s, SlotV K M H v s → SlotV K M' H' v s) : ∀ {vs : List (Str × V)} {fs : Flds}, FldR K M H vs fs → FldR K M' H' vs fs
  | _, _, .nil => .nil
  | _, _, .cons r t => .cons (f _ _ r) (FldR.map f t)
/-- the instance of the class at C, its dict at dx -/
def ObjC (a dx C : Addr) (fs : Flds) : Cell where
  foot := [a, dx]
  holds := fun K M H => ∃ vs, H a = some (.ins C dx vs) ∧ H dx = some (.own a) ∧ dx ≠ a ∧ FldR K M H vs fs
  mono := fun k h => by
    obtain ⟨vs, e, e2, n, r⟩ := h
    exact ⟨vs, k _ _ e (.inl (by simp)), k _ _ e2 (.inl (by simp)), n, r.map fun _ _ z => z.mono fun a o e c => k a o e (.inr c)⟩
  set := fun k h => by
    obtain ⟨vs, e, e2, n, r⟩ := h
    exact ⟨vs, e, e2, n, r.map fun _ _ z => z.set k⟩
theorem FldR.get {K : PySem.W.Frag} {M : AS} {H : Hp} {f : Str} {s : Slot} : ∀ {vs : List (Str × V)} {fs : Flds}, FldR K M H vs fs → fs.lookup f = some s → ∃ v, vs.lookup f = some v ∧ SlotV K M H v s
  | _, _, .nil, h => by cases h
  | _, _, .cons (g := g) r t, h => by
    rw [List.lookup_cons] at h ⊢
    by_cases c : (f == g) = true
    · rw [c] at h ⊢
      cases h
      exact ⟨_, rfl, r⟩
    · rw [Bool.eq_false_iff.mpr c] at h ⊢
      exact FldR.get t h
theorem FldR.none {K : PySem.W.Frag} {M : AS} {H : Hp} {f : Str} : ∀ {vs : List (Str × V)} {fs : Flds}, FldR K M H vs fs → fs.lookup f = .none → vs.lookup f = .none
  | _, _, .nil, _ => rfl
  | _, _, .cons (g := g) r t, h => by
    rw [List.lookup_cons] at h ⊢
    by_cases c : (f == g) = true
    · rw [c] at h; cases h
    · rw [Bool.eq_false_iff.mpr c] at h ⊢
      exact FldR.none t h
section
variable {X : Cx} {α : Type} [A : Enc α] {e o value : Expr} {f : Str} {δ : List Slot} {μ : List Cell} {P : α → List Cell → Prop} {pos pos' : Pos}
/-- e.f -/
theorem de_fld (c : Nat) (h : DE X e δ μ fun (x : Ref) μ1 => ∃ dx C fs v, μ1[c]? = some (ObjC x.a dx C fs) ∧ fs.lookup f = some (.val A v) ∧ Cls X.K C ∧ NoAttr X.K C f ∧ P v μ1)
    (hb : attributeBase e f X.env (eval e X.env) = eval e X.env := by rfl) : DE X (.Attribute e f pos) δ μ P :=
  of_pe (pe_fld (cE_pe e) hb) fun M σ H E Q q => h M σ H E _ fun x μ1 M1 v H1 p1 s1 hh1 r1 => by
    obtain ⟨dx, C, fs, y, hc, hl, k1, k2, p⟩ := p1
    cases r1
    obtain ⟨vs, e1, e2, n, r⟩ := hh1.cell _ (List.mem_of_getElem? hc)
    obtain ⟨u, lu, ru⟩ := FldR.get r hl
    exact ⟨x.a, C, dx, vs, u, rfl, e1, k1, k2, lu, q y μ1 M1 u H1 p s1 hh1 ru⟩
/-- e.f, a constant of the class: a whole number -/
theorem de_con {i : Int} {P : Int → List Cell → Prop} (c : Nat) (h : DE X e δ μ fun (x : Ref) μ1 => ∃ dx C fs u, μ1[c]? = some (ObjC x.a dx C fs) ∧ fs.lookup f = none ∧ Cls X.K C ∧ Con X.K C f (.int i) u ∧ P i μ1)
    (hb : attributeBase e f X.env (eval e X.env) = eval e X.env := by rfl) : DE X (.Attribute e f pos) δ μ P :=
  of_pe (pe_con (cE_pe e) hb) fun M σ H E Q q => h M σ H E _ fun x μ1 M1 v H1 p1 s1 hh1 r1 => by
    obtain ⟨dx, C, fs, u, hc, hl, k1, k2, p⟩ := p1
    cases r1
    obtain ⟨vs, e1, e2, n, r⟩ := hh1.cell _ (List.mem_of_getElem? hc)
    exact ⟨x.a, C, dx, vs, .int i, u, rfl, e1, k1, k2, FldR.none r hl, q i μ1 M1 (.int i) H1 p s1 hh1 rfl⟩
end
def putS (f : Str) (x : Slot) : Flds → Flds
  | [] => [(f, x)]
  | (g, y) :: r => if g = f then (g, x) :: r else (g, y) :: putS f x r
theorem FldR.put {K : PySem.W.Frag} {M : AS} {H : Hp} {f : Str} {v : V} {x : Slot} (r : SlotV K M H v x) : ∀ {vs : List (Str × V)} {fs : Flds}, FldR K M H vs fs → FldR K M H (putF f v vs) (putS f x fs)
  | _, _, .nil => .cons r .nil
  | _, _, .cons (g := g) (v := u) (s := y) r' t => by
    show FldR K M H (if g = f then (g, v) :: _ else (g, u) :: putF f v _) (if g = f then (g, x) :: _ else (g, y) :: putS f x _)
    by_cases h : g = f
    · rw [if_pos h, if_pos h]; exact .cons r t
    · rw [if_neg h, if_neg h]; exact .cons r' (FldR.put r t)
theorem FldR.length {K : PySem.W.Frag} {M : AS} {H : Hp} : ∀ {vs : List (Str × V)} {fs : Flds}, FldR K M H vs fs → vs.length = fs.length
  | _, _, .nil => rfl
  | _, _, .cons _ t => congrArg Nat.succ (FldR.length t)
section
variable {X : Cx} {α ρ : Type} [A : Enc α] [Enc ρ] {e o value : Expr} {f : Str} {δ : List Slot} {μ : List Cell} {N B C : PN} {R : ρ → List Cell → Prop} {pos pos' : Pos}
/-- o.f = value: c is the place of o's cell -/
theorem ds_fld (c : Nat) (h : DE X value δ μ fun (y : α) μ1 => DE X o δ μ1 fun (x : Ref) μ2 => ∃ dx C fs, μ2[c]? = some (ObjC x.a dx C fs) ∧ Cls X.K C ∧ NoAttr X.K C f ∧ fs.length < 1000 ∧ N δ (μ2.set c (ObjC x.a dx C (putS f (.val A y) fs))))
    (hs : swapsWith value (some (.Attribute o f pos')) pos.line X.env = pure false := by rfl) : DS X (.Assign [.Attribute o f pos'] value pos) δ μ N R B C :=
  of_ps (ps_fld (cE_pe o) (cE_pe value) hs) fun M σ H E D n r b c' => h M σ H E _ fun y μ1 M1 v1 H1 p1 s1 hh1 r1 => p1 M1 σ H1 (E.step s1 hh1) _ fun x μ2 M2 v2 H2 p2 s2 hh2 r2 => by
    obtain ⟨dx, C, fs, hc, k1, k2, k3, p⟩ := p2
    cases r2
    obtain ⟨vs, e1, e2, ne, rf⟩ := hh2.cell _ (List.mem_of_getElem? hc)
    have r1' : SlotV X.K M2 H2 v1 (.val A y) := SlotV.tr s2 hh1 r1
    obtain ⟨q1, q2, q3⟩ := split_at hc
    have hh2' := hh2
    rw [q1] at hh2'
    have km : ∀ b o', H2 b = some o' → (¬ M2 b ∨ Fix o') → upd H2 x.a (.ins C dx (putF f v1 vs)) b = some o' := fun b o' e cc => by
      have hM : M2 x.a := hh2.inM _ ⟨_, List.mem_of_getElem? hc, by show x.a ∈ [x.a, dx]; simp⟩
      by_cases hb : b = x.a
      · rcases cc with cc | cc
        · rw [hb] at cc; exact absurd hM cc
        · rw [hb, e1] at e; cases e; exact cc.elim
      · rw [upd_ne hb]; exact e
    obtain ⟨s3, h3⟩ := put_any (c := ObjC x.a dx C fs) (c' := ObjC x.a dx C (putS f (.val A y) fs)) (a := x.a) (o := .ins C dx (putF f v1 vs)) hh2' rfl (by show x.a ∈ [x.a, dx]; simp) e1 (fun z => z) ⟨putF f v1 vs, upd_same, by rw [upd_ne ne]; exact e2, ne, (FldR.put r1' rf).map fun _ _ z => z.mono km⟩
    rw [← q1, ← q2 (ObjC x.a dx C (putS f (.val A y) fs))] at s3
    rw [← q2 (ObjC x.a dx C (putS f (.val A y) fs))] at h3
    refine ⟨x.a, C, dx, vs, rfl, e1, k1, k2, by rw [FldR.length rf]; exact k3, n _ _ _ _ _ p ((s1.trans s2).trans s3) ?_⟩
    exact (E.step ((s1.trans s2).trans s3) h3)
end
end Dl
namespace Dl
open PySem PySem.Spec PyProof.Rows L2
section
variable {K : PySem.W.Frag} {M M' : AS} {μ μ' : List Cell} {H H' : Hp} {a : Addr}
/-- a new cell over fresh places -/
theorem new_any {c : Cell} (h : Holds K M μ H) (hf : ∀ p, p ∈ c.foot → H p = none) (hk : ∀ b o, H b = some o → H' b = some o) (ha : ∀ p, p ∈ c.foot → H' p ≠ none) (hc : c.holds K (fun b => M b ∨ b ∈ c.foot) H') :
    Ste M μ H (fun b => M b ∨ b ∈ c.foot) (μ ++ [c]) H' ∧ Holds K (fun b => M b ∨ b ∈ c.foot) (μ ++ [c]) H' := by
  have al : ∀ b, H b ≠ none → H' b ≠ none := fun b n => by
    cases e : H b with
    | none => exact absurd e n
    | some o => rw [hk b o e]; exact fun z => nomatch z
  have e1 : ∀ b, (M b ∨ b ∈ c.foot) → M b ∨ H b = none := fun b z => z.imp id fun e => hf b e
  refine ⟨⟨fun b o e _ => hk b o e, al, e1, fun b z => ?_, fun b z _ _ => .inl z⟩, ⟨fun d hd => ?_, fun b z => ?_, fun b z => ?_, ?_⟩⟩
  · rcases foots_snoc.mp z with z | z
    · exact .inl z
    · exact .inr (hf b z)
  · rcases List.mem_append.mp hd with hd | hd
    · exact d.mono (M := fun b => M b ∨ b ∈ c.foot) (fun b o e _ => hk b o e) (d.set e1 (h.cell d hd))
    · rw [List.mem_singleton.mp hd]; exact hc
  · rcases foots_snoc.mp z with z | z
    · exact .inl (h.inM b z)
    · exact .inr z
  · rcases z with z | z
    · exact al b (h.al b z)
    · exact ha b z
  · refine List.pairwise_append.mpr ⟨h.dj, List.pairwise_singleton _ _, fun d hd e he b hb hb2 => ?_⟩
    rw [List.mem_singleton.mp he] at hb2
    exact h.al b (h.inM b ⟨d, hd, hb⟩) (hf b hb2)
end
/-- a method of the class at C: its promise; the object itself is the first argument -/
structure MetD (P : Program) (w : World) (K : PySem.W.Frag) (mg : Str → Option Value) (base : Heap) (C : Addr) (m : Str) (k : Nat) (ps : List Str) {ρ : Type} [Enc ρ] (Φ : Pm ρ) : Prop where
  ex : ∃ (f : Addr) (fd : FuncData), Cls K C ∧ Meth K C m f ∧ FnOk P w K mg base CX0 k f fd ps (spO K Φ) ∧ Binds K fd ps []
/-- a class that may be made by its name; Φ is the promise of its __init__ -/
structure MakD (P : Program) (w : World) (K : PySem.W.Frag) (mg : Str → Option Value) (base : Heap) (x : Str) (C : Addr) (k : Nat) (ps : List Str) (Φ : Pm Unit) : Prop where
  ex : ∃ (f : Addr) (fd : FuncData), Mk K C f ∧ FnOk P w K mg base CX0 k f fd ps (spO K Φ) ∧ mg x = some (.ref C) ∧ Binds K fd ps []
section
variable {X : Cx} {ρ : Type} [Enc ρ] {e o : Expr} {es : List Expr} {δ : List Slot} {μ : List Cell} {P : ρ → List Cell → Prop} {k : Nat} {ps : List Str} {Φ : Pm ρ} {x m : Str} {C : Addr} {p pos apos : Pos}
theorem we_meth {to : TE} {ta : TA} {sp : Sp} (hsp : sp = spO X.K Φ) (h : WE X.K to δ μ fun (x : Ref) μ1 => (∃ (c : Nat) (dx : Addr) (fs : Flds), μ1[c]? = some (ObjC x.a dx C fs) ∧ fs.lookup m = none) ∧
      WA X.K ta δ μ1 fun as μ2 => ∃ μc μr, Parts μ2 μc μr ∧ Φ (sl x :: as) μc fun y μ' => P y (μ' ++ μr)) : WE X.K (tMeth C m sp [] E0 to ta) δ μ P := fun M σ H E Q q => h M σ H E _ fun x μ1 M1 v H1 p1 s1 h1 r1 => by
  obtain ⟨⟨c, dx, fs, hc, hl⟩, p1⟩ := p1
  cases r1
  obtain ⟨vs, e1, e2, ne, rf⟩ := h1.cell _ (List.mem_of_getElem? hc)
  refine ⟨x.a, dx, vs, rfl, e1, FldR.none rf hl, p1 M1 σ H1 (E.step s1 h1) _ fun as μ2 M2 vs2 H2 p2 s2 h2 r2 => ?_⟩
  obtain ⟨μc, μr, sp', ph⟩ := p2
  rw [hsp, List.append_nil]
  refine ⟨M2, μc, sl x :: as, _, h2.part sp', .cons rfl r2, ph, fun y μ' M' v H' py s3 h3 r3 => ?_⟩
  obtain ⟨s4, h4⟩ := frame h2 sp' s3 h3
  exact q y _ M' v H' py ((s1.trans s2).trans s4) h4 r3
/-- o.m(e, ..) -/
theorem de_mt (c : MetD X.prog X.w X.K X.mg X.base C m k ps Φ) {k' : Nat} (hr : Room k' X.A) (hk : k ≤ k') {pl : Sem Bool}
    (h : DE X o δ μ fun (x : Ref) μ1 => (∃ (i : Nat) (dx : Addr) (fs : Flds), μ1[i]? = some (ObjC x.a dx C fs) ∧ fs.lookup m = none) ∧ DA X (e :: es) δ μ1 fun as μ2 => ∃ μc μr, Parts μ2 μc μr ∧ Φ (sl x :: as) μc fun y μ' => P y (μ' ++ μr))
    (hst : starEach (e :: es) X.env = (false, eval e X.env) :: starEach es X.env := by rfl) (hpl : (backTo pos (starEach es X.env)).any (·.1) = false := by rfl)
    (ht : eval (.Call (.Attribute o m apos) (e :: es) [] pos) X.env = (do
      let ov ← eval o X.env
      standAt apos.atName
      let (f, first) ← holding [ov] (getMethod ov m pl)
      callWith pos f first (backTo pos (starEach (e :: es) X.env)) (backToKw pos (keywordEach [] X.env))) := by rfl) : DE X (.Call (.Attribute o m apos) (e :: es) [] pos) δ μ P := by
  obtain ⟨f, fd, hc, hm, F, b⟩ := c.ex
  exact of_pe (pe_meth (pl := pl) (cE_pe o) hc hm F (hr.mono hk) b .nil pass0 (cA_pa _) hst hpl ht) (we_meth rfl h)
/-- o.m() -/
theorem de_mt0 (c : MetD X.prog X.w X.K X.mg X.base C m k ps Φ) {k' : Nat} (hr : Room k' X.A) (hk : k ≤ k') {pl : Sem Bool}
    (h : DE X o δ μ fun (x : Ref) μ1 => (∃ (i : Nat) (dx : Addr) (fs : Flds), μ1[i]? = some (ObjC x.a dx C fs) ∧ fs.lookup m = none) ∧ ∃ μc μr, Parts μ1 μc μr ∧ Φ [sl x] μc fun y μ' => P y (μ' ++ μr))
    (ht : eval (.Call (.Attribute o m apos) [] [] pos) X.env = (do
      let ov ← eval o X.env
      standAt apos.atName
      let (f, first) ← holding [ov] (getMethod ov m pl)
      callWith pos f first (backTo pos (starEach [] X.env)) (backToKw pos (keywordEach [] X.env))) := by rfl) : DE X (.Call (.Attribute o m apos) [] [] pos) δ μ P := by
  obtain ⟨f, fd, hc, hm, F, b⟩ := c.ex
  refine of_pe (pe_meth0 (pl := pl) (cE_pe o) hc hm F (hr.mono hk) b .nil pass0 ht) (we_meth rfl fun M σ H E Q q => h M σ H E Q fun x μ' M' v H' p => q x μ' M' v H' ⟨p.1, fun M σ H E Q q => q [] μ' M [] H p.2 Ste.refl E.h .nil⟩)
theorem we_make {ta : TA} {P : Ref → List Cell → Prop} {Φ : Pm Unit} {sp : Sp} (hsp : sp = spO X.K Φ) (h : WA X.K ta δ μ fun as μ1 => ∀ x dx, ∃ μc μr, Parts (μ1 ++ [ObjC x dx C []]) μc μr ∧ Φ (sl (Ref.mk x) :: as) μc fun _ μ' => P ⟨x⟩ (μ' ++ μr)) :
    WE X.K (tMake C sp [] E0 ta) δ μ P := fun M σ H E Q q => h M σ H E _ fun as μ1 M1 vs H1 p1 s1 h1 r1 => by
  intro x dx hx hdx ne
  obtain ⟨μc, μr, sp', ph⟩ := p1 x dx
  rw [hsp, List.append_nil]
  have hk : ∀ b o', H1 b = some o' → upd (upd H1 dx (.own x)) x (.ins C dx []) b = some o' := fun b o' e => by
    rw [upd_ne (ne_of_none e hx), upd_ne (ne_of_none e hdx)]; exact e
  have e2 : upd (upd H1 dx (.own x)) x (.ins C dx []) dx = some (.own x) := by rw [upd_ne ne, upd_same]
  obtain ⟨s2, h2⟩ := new_any (c := ObjC x dx C []) (H' := upd (upd H1 dx (.own x)) x (.ins C dx [])) h1 (fun p hp => by
      rcases List.mem_cons.mp (show p ∈ [x, dx] from hp) with z | z
      · rw [z]; exact hx
      · rw [List.mem_singleton.mp z]; exact hdx) hk (fun p hp => by
      rcases List.mem_cons.mp (show p ∈ [x, dx] from hp) with z | z
      · rw [z, upd_same]; exact fun z => nomatch z
      · rw [List.mem_singleton.mp z, e2]; exact fun z => nomatch z) ⟨[], upd_same, e2, ne, .nil⟩
  refine ⟨_, μc, sl (Ref.mk x) :: as, _, h2.part sp', .cons rfl (r1.tr s2 h1), ph, fun y μ' M' v H' py s3 h3 r3 => ⟨by cases r3; rfl, ?_⟩⟩
  obtain ⟨s4, h4⟩ := frame h2 sp' s3 h3
  exact q ⟨x⟩ _ M' _ H' py ((s1.trans s2).trans s4) h4 rfl
/-- C(e, ..), C() -/
theorem de_mk {P : Ref → List Cell → Prop} {Φ : Pm Unit} (c : MakD X.prog X.w X.K X.mg X.base x C k ps Φ) {k' : Nat} (hr : Room k' X.A) (hk : k + 1 ≤ k')
    (h : DA X (e :: es) δ μ fun as μ1 => ∀ x dx, ∃ μc μr, Parts (μ1 ++ [ObjC x dx C []]) μc μr ∧ Φ (sl (Ref.mk x) :: as) μc fun _ μ' => P ⟨x⟩ (μ' ++ μr)) (hg : Gl X x := by rfl)
    (hdb : (x == ("__debug__" : Str)) = false := by decide) (he : starEach (e :: es) X.env = (false, eval e X.env) :: starEach es X.env := by rfl) (hpl : (backTo pos (starEach es X.env)).any (·.1) = false := by rfl) : DE X (.Call (.Name x p) (e :: es) [] pos) δ μ P := by
  obtain ⟨f, fd, M, F, hm, b⟩ := c.ex
  exact of_pe (pe_make M F (hr.mono hk) hg hm b .nil pass0 (cA_pa _) hdb he hpl) (we_make rfl h)
theorem de_mk0 {P : Ref → List Cell → Prop} {Φ : Pm Unit} (c : MakD X.prog X.w X.K X.mg X.base x C k ps Φ) {k' : Nat} (hr : Room k' X.A) (hk : k + 1 ≤ k')
    (h : ∀ x dx, ∃ μc μr, Parts (μ ++ [ObjC x dx C []]) μc μr ∧ Φ [sl (Ref.mk x)] μc fun _ μ' => P ⟨x⟩ (μ' ++ μr)) (hg : Gl X x := by rfl) (hdb : (x == ("__debug__" : Str)) = false := by decide) : DE X (.Call (.Name x p) [] [] pos) δ μ P := by
  obtain ⟨f, fd, M, F, hm, b⟩ := c.ex
  exact of_pe (pe_make0 M F (hr.mono hk) hg hm b .nil pass0 hdb) (we_make rfl fun M σ H E Q q => q [] μ M [] H h Ste.refl E.h .nil)
end
end Dl
namespace Dl
open PySem PySem.Spec PyProof.Rows L2
/-! ### a dict whose keys are tuples of texts, whole numbers and pairs -/
def EltR (K : PySem.W.Frag) (H : Hp) : Elt → V → Prop
  | .s x, v => PyData.strOk x = true ∧ v = .str x
  | .i n, v => v = .int n
  | .p a b, v => ∃ c, v = .ref c ∧ SqT K H c [.int a, .int b]
def NkAt (K : PySem.W.Frag) (H : Hp) (ks : List Elt) (a : Addr) : Prop := ∃ vs, SqT K H a vs ∧ Paired (EltR K H) ks vs
theorem NkAt.keep {K : PySem.W.Frag} {M : AS} {H H' : Hp} {ks : List Elt} {a : Addr} (k : Keep M H H') (h : NkAt K H ks a) : NkAt K H' ks a := by
  obtain ⟨vs, s, r⟩ := h
  refine ⟨vs, sqT_keep k s, Paired.mapP r fun e v z => ?_⟩
  cases e with
  | s x => exact z
  | i n => exact z
  | p a b => obtain ⟨c, e, q⟩ := z; exact ⟨c, e, sqT_keep k q⟩
/-- a key, as a value -/
structure Nk where
  ks : List Elt
instance : Enc Nk where
  R K _ H v x := ∃ a, v = .ref a ∧ NkAt K H x.ks a
  mono k h := by obtain ⟨a, e, r⟩ := h; exact ⟨a, e, r.keep k⟩
  set _ h := h
section
variable {X : Cx} {pins : List (Addr × Obj)} {σ : L2.St} {H : Hp} {s : Shared}
theorem elt_heap (I : Inv X pins σ H s) {e : Elt} {v : V} {u : Value} (h : EltR X.K H e v) (r : RelV v u) : eltIs X.prog X.w s.heap e u := by
  cases e with
  | s x =>
    obtain ⟨h1, rfl⟩ := h
    exact ⟨h1, r⟩
  | i n =>
    have h : v = .int n := h
    subst h
    exact r
  | p a b =>
    obtain ⟨c, rfl, sq⟩ := h
    have r : u = .ref c := r
    subst r
    obtain ⟨its, rv, ⟨o, h1, h2, n, h3⟩, _⟩ := I.tuple sq
    exact ⟨c, rfl, o, its.toArray, n, h1, h2, h3, by simpa using items_are (P := X.prog) (w := X.w) (ks := [.inl a, .inl b]) rv⟩
theorem elts_heap (I : Inv X pins σ H s) : ∀ {ks : List Elt} {vs : List V} {us : List Value}, Paired (EltR X.K H) ks vs → Vals vs us → Paired (eltIs X.prog X.w s.heap) ks us
  | _, _, _, .nil, .nil => .nil
  | _, _, _, .cons h t, .cons r t' => .cons (elt_heap I h r) (elts_heap I t t')
theorem nk_heap (I : Inv X pins σ H s) {ks : List Elt} {a : Addr} (h : NkAt X.K H ks a) : nkIs X.prog X.w s.heap ks a := by
  obtain ⟨vs, sq, r⟩ := h
  obtain ⟨its, rv, ⟨o, h1, h2, n, h3⟩, _⟩ := I.tuple sq
  exact ⟨o, its.toArray, n, h1, h2, h3, by simpa using elts_heap I r rv⟩
end
abbrev NEs := List (List Elt × Addr × Value)
def ndPhi (P : Program) (w : World) (a : Addr) (xs : NEs) : Heap → Prop := fun h => xs.length ≤ sizeLine ∧ (a == sysModules) = false ∧
  ∃ o es ep, h.get? a = some o ∧ o.ExactDict ∧ o.data = .dict es ep ∧ es.toList = xs.map (entryOfKey (nKind P w)) ∧ (xs.map (·.1)).Nodup
abbrev ndO (P : Program) (w : World) (a : Addr) (xs : NEs) : HO := .ext (ndPhi P w a xs)
section
variable {X : Cx} {pins : List (Addr × Obj)} {σ : L2.St} {H : Hp} {s : Shared} {a : Addr} {xs : NEs}
theorem nd_of (I : Inv X pins σ H s) (e : H a = some (ndO X.prog X.w a xs)) (hk : ∀ q, q ∈ xs → NkAt X.K H q.1 q.2.1) : xs.length ≤ sizeLine ∧ (a == sysModules) = false ∧ s.heap.DictOfH (nKind X.prog X.w) a xs := by
  obtain ⟨⟨z, y, o, es, ep, h1, h2, h3, h4, h5⟩, _, _⟩ := (show ObjOk X.prog X.w H s.heap a (.ext (ndPhi X.prog X.w a xs)) from I.hok a _ e)
  exact ⟨z, y, o, es, ep, h1, h2, h3, h4, fun q hq => nk_heap I (hk q hq), h5⟩
theorem nd_ok {P : Program} {w : World} {H' : Hp} {h' : Heap} (z : xs.length ≤ sizeLine) (y : (a == sysModules) = false) (d : h'.DictOfH (nKind P w) a xs) : ObjOk P w H' h' a (ndO P w a xs) := by
  obtain ⟨o, es, ep, h1, h2, h3, h4, _, h5⟩ := d
  refine ⟨⟨z, y, o, es, ep, h1, h2, h3, h4, h5⟩, ⟨o, h1⟩, ?_⟩
  rintro g1 g2 ⟨z, y, o, es, ep, h1, h2, h3, h4, h5⟩ k
  exact ⟨z, y, o, es, ep, k o h1, h2, h3, h4, h5⟩
end
/-! readings -/
def tNDict (P : Program) (w : World) : TE := fun _ H Q => ∀ p, H p = none → Q (.ref p) (upd H p (ndO P w p []))
def tNIn (X : Cx) (ty td : TE) : TE := fun σ H Q => ty σ H fun y H1 => td σ H1 fun x H2 => ∃ a b ks xs, x = .ref a ∧ y = .ref b ∧ NkAt X.K H2 ks b ∧ H2 a = some (ndO X.prog X.w a xs) ∧ (∀ q, q ∈ xs → NkAt X.K H2 q.1 q.2.1) ∧ Q (.bl (atKey xs ks).isSome) H2
def tNGet (X : Cx) (td ty : TE) : TE := fun σ H Q => td σ H fun x H1 => ty σ H1 fun y H2 => ∃ a b ks xs p v, x = .ref a ∧ y = .ref b ∧ NkAt X.K H2 ks b ∧ H2 a = some (ndO X.prog X.w a xs) ∧ (∀ q, q ∈ xs → NkAt X.K H2 q.1 q.2.1) ∧ atKey xs ks = some p ∧ RelV v p.2 ∧ Q v H2
def sNPut (X : Cx) (td ty tv : TE) : TS := fun D σ H => tv σ H fun v H1 => td σ H1 fun x H2 => ty σ H2 fun y H3 => ∃ a b ks xs, x = .ref a ∧ y = .ref b ∧ NkAt X.K H3 ks b ∧ H3 a = some (ndO X.prog X.w a xs) ∧ (∀ q, q ∈ xs → NkAt X.K H3 q.1 q.2.1) ∧ atKey xs ks = none ∧ xs.length < sizeLine ∧
  ∀ u, RelV v u → D.nx σ (upd H3 a (ndO X.prog X.w a (xs ++ [(ks, b, u)])))
section
variable {X : Cx} {o i e value : Expr} {pos pos' tpos : Pos} {td ty tv : TE}
theorem room_n {A : Around} (hu : A.units + 64 < cLine) {P : Program} {w : World} : (nKind P w).room A.in1 := by
  show A.units + 1 + 2 < cLine
  omega
theorem pe_ndict : PE X (.Dict [] [] pos) (tNDict X.prog X.w) := ⟨fun pins s σ H Q I h => by
  refine wpAny_Dict_empty ⟨.ref s.heap.objs.size, _, I.laid (a := s.heap.objs.size) (o := ndO X.prog X.w s.heap.objs.size []) (t' := s.toks) (fun _ _ q => Heap.get?_push_of_some _ q) (Nat.le_refl _) ?_, rfl, h _ (I.hok.fresh (Nat.le_refl _))⟩
  exact nd_ok (Nat.zero_le _) (beq_eq_false_iff_ne.mpr (Ne.symm (Nat.ne_of_lt I.big))) (Heap.DictOfH.new s.heap)⟩
theorem pc_nin (hu : X.A.units + 64 < cLine) (hi : PE X i ty) (ho : PE X o td) : PC X .In i o (tNIn X ty td) := by
  refine ⟨fun pins s σ H Q I h => ?_⟩
  refine thn (hi.run pins s σ H _ I h) fun iv s1 ⟨y, H1, I1, ry, q1⟩ => thn (ho.run pins s1 σ H1 _ I1 q1) fun u s2 ⟨x, H2, I2, rx, a, b, ks, xs, ex, ey, hk, ea, hx, q2⟩ => ?_
  subst ex ey
  obtain rfl : u = Value.ref a := rx
  obtain rfl : iv = Value.ref b := ry
  obtain ⟨z, hd, dd⟩ := nd_of I2 ea hx
  exact wpAny_in_heap (room_n hu) (nk_heap I2 hk) hd dd ⟨.bl (atKey xs ks).isSome, H2, I2.tok _, rfl, q2⟩
theorem pe_nget (hu : X.A.units + 64 < cLine) (ho : PE X o td) (hi : PE X i ty) (hs : NoSl i) : PE X (.Subscript o i pos) (tNGet X td ty) := by
  refine ⟨fun pins s σ H Q I h => ?_⟩
  refine subD_of PySem.F.slot_dict_getitem.lookup hs (thn (ho.run pins s σ H _ I h) fun u s1 ⟨x, H1, I1, rx, q1⟩ => thn (hi.run pins s1 σ H1 _ I1 q1) fun iv s2 ⟨y, H2, I2, ry, a, b, ks, xs, p, v, ex, ey, hk, ea, hx, hp, rv, q2⟩ => ?_)
  subst ex ey
  obtain rfl : u = Value.ref a := rx
  obtain rfl : iv = Value.ref b := ry
  obtain ⟨z, hd, dd⟩ := nd_of I2 ea hx
  exact ⟨dd.typeIs, wpAny_getItem_heap (room_n hu) (nk_heap I2 hk) dd hp ⟨v, H2, I2.tok _, rv, q2⟩⟩
theorem ps_nput (hu : X.A.units + 64 < cLine) (ho : PE X o td) (hi : PE X i ty) (hv : PE X value tv) (hs : swapsWith value (some (.Subscript o i pos')) pos.line X.env = pure false) :
    PS X (.Assign [.Subscript o i pos'] value pos) (sNPut X td ty tv) := by
  refine ⟨fun pins s σ H D I h => ?_⟩
  refine wpAny_Assign_Subscript (thn (hv.run pins s σ H _ I h) fun r s1 ⟨v, H1, I1, rv, q1⟩ => thn (ho.run pins s1 σ H1 _ I1 q1) fun u s2 ⟨x, H2, I2, rx, q2⟩ => thn (hi.run pins s2 σ H2 _ I2 q2) fun iv s3 ⟨y, H3, I3, ry, a, b, ks, xs, ex, ey, hk, ea, hx, hn, hl, q3⟩ => ?_) hs
  subst ex ey
  obtain rfl : u = Value.ref a := rx
  obtain rfl : iv = Value.ref b := ry
  obtain ⟨z, hd, dd⟩ := nd_of I3 ea hx
  refine wpAny_setItem_heap (hsz := z) (room_n hu) (nk_heap I3 hk) dd fun h' dd' hs' => ?_
  rw [storedH_new hn] at dd'
  obtain ⟨q, es, ep, hq, h2, h3, h4, h5, h6⟩ := id dd'
  exact ⟨σ, _, d_write I3 (by rw [ea]; exact True.intro) hs' ⟨q, hq⟩ (nd_ok (by rw [List.length_append]; exact hl) hd dd'), q3 r rv⟩
end
end Dl
namespace Dl
open PySem PySem.Spec PyProof.Rows L2
/-! ### the nested-key dict as a cell -/
abbrev NKv (α : Type) := List (List Elt × α)
def valN {α : Type} (kvs : NKv α) (k : List Elt) : Option α := (kvs.find? fun p => decide (p.1 = k)).map (·.2)
theorem valN_pos {α : Type} {p : List Elt × α} {r : NKv α} {k : List Elt} (e : p.1 = k) : valN (p :: r) k = some p.2 := by simp [valN, List.find?_cons, e]
theorem valN_neg {α : Type} {p : List Elt × α} {r : NKv α} {k : List Elt} (e : ¬ p.1 = k) : valN (p :: r) k = valN r k := by simp [valN, List.find?_cons, e]
theorem atKey_pos {q : List Elt × Addr × Value} {r : NEs} {k : List Elt} (e : q.1 = k) : atKey (q :: r) k = some q.2 := by simp [atKey, List.find?_cons, e]
theorem atKey_neg {q : List Elt × Addr × Value} {r : NEs} {k : List Elt} (e : ¬ q.1 = k) : atKey (q :: r) k = atKey r k := by simp [atKey, List.find?_cons, e]
abbrev KN (K : PySem.W.Frag) (M : AS) (H : Hp) {α : Type} (A : Enc α) (kvs : NKv α) (xs : NEs) : Prop :=
  Paired (fun (p : List Elt × α) (q : List Elt × Addr × Value) => p.1 = q.1 ∧ NkAt K H q.1 q.2.1 ∧ ∃ v, RelV v q.2.2 ∧ A.R K M H v p.2) kvs xs
def NdC (P : Program) (w : World) (a : Addr) {α : Type} (A : Enc α) (kvs : NKv α) : Cell where
  foot := [a]
  holds := fun K M H => ∃ xs, H a = some (ndO P w a xs) ∧ KN K M H A kvs xs
  mono := fun k h => by
    obtain ⟨xs, e, r⟩ := h
    refine ⟨xs, k _ _ e (.inl (by simp)), Paired.mapP r fun _ _ z => ?_⟩
    obtain ⟨z1, z2, v, z3, z4⟩ := z
    exact ⟨z1, z2.keep (M := _) fun a o e c => k a o e (.inr c), v, z3, A.mono (fun a o e c => k a o e (.inr c)) z4⟩
  set := fun k h => by
    obtain ⟨xs, e, r⟩ := h
    refine ⟨xs, e, Paired.mapP r fun _ _ z => ?_⟩
    obtain ⟨z1, z2, v, z3, z4⟩ := z
    exact ⟨z1, z2, v, z3, A.set k z4⟩
section
variable {K : PySem.W.Frag} {M : AS} {H : Hp} {α : Type} {A : Enc α} {k : List Elt}
theorem KN.some : ∀ {kvs : NKv α} {xs : NEs} {y : α}, KN K M H A kvs xs → valN kvs k = Option.some y → ∃ p v, atKey xs k = Option.some p ∧ RelV v p.2 ∧ A.R K M H v y
  | _, _, _, .nil, h => by cases h
  | _, _, y, .cons (a := p) (b := q) z t, h => by
    obtain ⟨z1, z2, v, z3, z4⟩ := z
    by_cases e : p.1 = k
    · rw [valN_pos e] at h
      cases h
      exact ⟨q.2, v, atKey_pos (z1.symm.trans e), z3, z4⟩
    · rw [valN_neg e] at h
      obtain ⟨p', v', h1, h2, h3⟩ := KN.some t h
      exact ⟨p', v', by rw [atKey_neg fun z => e (z1.trans z)]; exact h1, h2, h3⟩
theorem KN.none : ∀ {kvs : NKv α} {xs : NEs}, KN K M H A kvs xs → valN kvs k = Option.none → atKey xs k = Option.none
  | _, _, .nil, _ => rfl
  | _, _, .cons (a := p) (b := q) z t, h => by
    obtain ⟨z1, z2, v, z3, z4⟩ := z
    by_cases e : p.1 = k
    · rw [valN_pos e] at h
      cases h
    · rw [valN_neg e] at h
      rw [atKey_neg fun z => e (z1.trans z)]
      exact KN.none t h
theorem KN.keys : ∀ {kvs : NKv α} {xs : NEs}, KN K M H A kvs xs → ∀ q, q ∈ xs → NkAt K H q.1 q.2.1
  | _, _, .nil, q, h => absurd h List.not_mem_nil
  | _, _, .cons z t, q, h => by
    rcases List.mem_cons.mp h with h | h
    · rw [h]; exact z.2.1
    · exact KN.keys t q h
theorem KN.isSome {kvs : NKv α} {xs : NEs} (r : KN K M H A kvs xs) : (atKey xs k).isSome = (valN kvs k).isSome := by
  cases e : valN kvs k with
  | none => rw [r.none e]; rfl
  | some y =>
    obtain ⟨p, v, h, _⟩ := r.some e
    rw [h]; rfl
end
section
variable {X : Cx} {α ρ : Type} [A : Enc α] [Enc ρ] {a b e o i value : Expr} {δ : List Slot} {μ : List Cell} {PB : Bool → List Cell → Prop} {N B C : PN} {R : ρ → List Cell → Prop} {pos pos' : Pos}
/-- {} -/
theorem de_ndict {P : Ref → List Cell → Prop} (h : ∀ l, P ⟨l⟩ (μ ++ [NdC X.prog X.w l A []])) : DE X (.Dict [] [] pos) δ μ P :=
  of_pe pe_ndict fun M σ H E Q q => fun p hp => by
    have hk : ∀ b o', H b = some o' → upd H p (ndO X.prog X.w p []) b = some o' := fun b o' e => by rw [upd_ne (ne_of_none e hp)]; exact e
    obtain ⟨s, hh⟩ := new_any (c := NdC X.prog X.w p A []) (H' := upd H p (ndO X.prog X.w p [])) E.h (fun r hr => by rw [List.mem_singleton.mp (show r ∈ [p] from hr)]; exact hp) hk
      (fun r hr => by rw [List.mem_singleton.mp (show r ∈ [p] from hr), upd_same]; exact fun z => nomatch z) ⟨[], upd_same, .nil⟩
    exact q ⟨p⟩ _ _ _ _ (h p) s hh rfl
/-- k in d -/
theorem we_nin (c : Nat) (h : DE X a δ μ fun (x : Nk) μ1 => DE X b δ μ1 fun (y : Ref) μ2 => ∃ kvs : NKv α, μ2[c]? = some (NdC X.prog X.w y.a A kvs) ∧ PB (valN kvs x.ks).isSome μ2) : WE X.K (tNIn X (cE X a) (cE X b)) δ μ PB :=
  fun M σ H E Q q => h M σ H E _ fun x μ1 M1 v1 H1 p1 s1 h1 r1 => p1 M1 σ H1 (E.step s1 h1) _ fun y μ2 M2 v2 H2 p2 s2 h2 r2 => by
    obtain ⟨kvs, hc, p⟩ := p2
    have r1' := Dl.tr s2 h1 r1
    obtain ⟨b, rfl, hk⟩ := r1'
    cases r2
    obtain ⟨xs, e, r⟩ := h2.cell _ (List.mem_of_getElem? hc)
    exact ⟨y.a, b, x.ks, xs, rfl, rfl, hk, e, r.keys, q _ μ2 M2 _ H2 p (s1.trans s2) h2 (by show V.bl _ = V.bl _; rw [KN.isSome r])⟩
theorem de_nin (hu : X.A.units + 64 < cLine) (c : Nat) (h : DE X a δ μ fun (x : Nk) μ1 => DE X b δ μ1 fun (y : Ref) μ2 => ∃ kvs : NKv α, μ2[c]? = some (NdC X.prog X.w y.a A kvs) ∧ PB (valN kvs x.ks).isSome μ2)
    (h1 : behindInMarks .In b = false := by rfl) : DE X (.Compare a [.In] [b] pos) δ μ PB :=
  of_pe (pe_cmp (pc_nin hu (cE_pe a) (cE_pe b)) h1) (we_nin c h)
theorem dt_nin (hu : X.A.units + 64 < cLine) (c : Nat) (h : DE X a δ μ fun (x : Nk) μ1 => DE X b δ μ1 fun (y : Ref) μ2 => ∃ kvs : NKv α, μ2[c]? = some (NdC X.prog X.w y.a A kvs) ∧ PB (valN kvs x.ks).isSome μ2)
    (h1 : behindInMarks .In b = false := by rfl) : DT X (.Compare a [.In] [b] pos) δ μ PB :=
  of_pt (pt_cmp (pc_nin hu (cE_pe a) (cE_pe b)) h1) fun M σ H E Q q => we_nin c h M σ H E _ fun x μ' M' v H' p s hh r => by
    cases r
    exact ⟨x, rfl, q x μ' M' H' p s hh⟩
/-- d[k] -/
theorem de_nget {P : α → List Cell → Prop} (hu : X.A.units + 64 < cLine) (c : Nat) (h : DE X o δ μ fun (y : Ref) μ1 => DE X i δ μ1 fun (x : Nk) μ2 => ∃ (kvs : NKv α) (z : α), μ2[c]? = some (NdC X.prog X.w y.a A kvs) ∧ valN kvs x.ks = some z ∧ P z μ2)
    (hs : NoSl i := by exact fun _ _ => rfl) : DE X (.Subscript o i pos) δ μ P :=
  of_pe (pe_nget hu (cE_pe o) (cE_pe i) hs) fun M σ H E Q q => h M σ H E _ fun y μ1 M1 v1 H1 p1 s1 h1 r1 => p1 M1 σ H1 (E.step s1 h1) _ fun x μ2 M2 v2 H2 p2 s2 h2 r2 => by
    obtain ⟨kvs, z, hc, hz, p⟩ := p2
    cases r1
    obtain ⟨b, rfl, hk⟩ := r2
    obtain ⟨xs, e, r⟩ := h2.cell _ (List.mem_of_getElem? hc)
    obtain ⟨pp, v, k1, k2, k3⟩ := r.some hz
    exact ⟨y.a, b, x.ks, xs, pp, v, rfl, rfl, hk, e, r.keys, k1, k2, q z μ2 M2 v H2 p (s1.trans s2) h2 k3⟩
/-- d[k] = v, k new -/
theorem ds_nput (hu : X.A.units + 64 < cLine) (c : Nat) (h : DE X value δ μ fun (z : α) μ0 => DE X o δ μ0 fun (y : Ref) μ1 => DE X i δ μ1 fun (x : Nk) μ2 => ∃ kvs : NKv α, μ2[c]? = some (NdC X.prog X.w y.a A kvs) ∧ valN kvs x.ks = none ∧ kvs.length < 10000 ∧
      N δ (μ2.set c (NdC X.prog X.w y.a A (kvs ++ [(x.ks, z)]))))
    (hs : swapsWith value (some (.Subscript o i pos')) pos.line X.env = pure false := by rfl) : DS X (.Assign [.Subscript o i pos'] value pos) δ μ N R B C :=
  of_ps (ps_nput hu (cE_pe o) (cE_pe i) (cE_pe value) hs) fun M σ H E D n r b c' => h M σ H E _ fun z μ0 M0 v0 H0 p0 s0 h0 r0 => p0 M0 σ H0 (E.step s0 h0) _ fun y μ1 M1 v1 H1 p1 s1 h1 r1 => p1 M1 σ H1 (E.step (s0.trans s1) h1) _ fun x μ2 M2 v2 H2 p2 s2 h2 r2 => by
    obtain ⟨kvs, hc, hn, hl, p⟩ := p2
    cases r1
    obtain ⟨b, rfl, hk⟩ := r2
    obtain ⟨xs, e, rk⟩ := h2.cell _ (List.mem_of_getElem? hc)
    have r0' : A.R X.K M2 H2 v0 z := Dl.tr s2 h1 (Dl.tr s1 h0 r0)
    refine ⟨y.a, b, x.ks, xs, rfl, rfl, hk, e, rk.keys, rk.none hn, by rw [← Paired.length rk, sizeLine_eq]; omega, fun u ru => ?_⟩
    obtain ⟨q1, q2, q3⟩ := split_at hc
    have h2' := h2
    rw [q1] at h2'
    have km : Keep M2 H2 (upd H2 y.a (ndO X.prog X.w y.a (xs ++ [(x.ks, b, u)]))) := fun b' o' e' cc => by
      have hM : M2 y.a := h2.inM _ ⟨_, List.mem_of_getElem? hc, by show y.a ∈ [y.a]; simp⟩
      by_cases hb : b' = y.a
      · rcases cc with cc | cc
        · rw [hb] at cc; exact absurd hM cc
        · rw [hb, e] at e'; cases e'; exact cc.elim
      · rw [upd_ne hb]; exact e'
    have rk' : KN X.K M2 (upd H2 y.a (ndO X.prog X.w y.a (xs ++ [(x.ks, b, u)]))) A (kvs ++ [(x.ks, z)]) (xs ++ [(x.ks, b, u)]) := by
      refine Paired.snoc (Paired.mapP rk fun _ _ q => ?_) ⟨rfl, hk.keep km, v0, ru, A.mono km r0'⟩
      obtain ⟨z1, z2, v, z3, z4⟩ := q
      exact ⟨z1, z2.keep km, v, z3, A.mono km z4⟩
    obtain ⟨s3, h3⟩ := put_any (c := NdC X.prog X.w y.a A kvs) (c' := NdC X.prog X.w y.a A (kvs ++ [(x.ks, z)])) (a := y.a) (o := ndO X.prog X.w y.a (xs ++ [(x.ks, b, u)])) h2' rfl (by show y.a ∈ [y.a]; simp) e (fun z => z) ⟨_, upd_same, rk'⟩
    rw [← q1, ← q2 (NdC X.prog X.w y.a A (kvs ++ [(x.ks, z)]))] at s3
    rw [← q2 (NdC X.prog X.w y.a A (kvs ++ [(x.ks, z)]))] at h3
    exact n _ _ _ _ _ p (((s0.trans s1).trans s2).trans s3) (E.step (((s0.trans s1).trans s2).trans s3) h3)
end
end Dl
namespace Dl
open PySem PySem.Spec PyProof.Rows L2
/-! ### texts -/
theorem strSh {x : Str} (h : PyData.strOk x = true) : SeqAt.shaped (.str x) = true := by
  unfold SeqAt.shaped
  have : PyData.canLay0 (.str x) = true := by simpa [PyData.canLay0] using h
  rw [this]; rfl
theorem strEqv {x y : Str} : PyData.eqv (.str x) (.str y) = decide (x = y) := by
  show (x == y) = _
  rfl
section
variable {X : Cx} {a b e : Expr} {δ : List Slot} {μ : List Cell} {PB : Bool → List Cell → Prop} {pos p : Pos}
theorem dt_eqS (hu : X.A.units + 64 < cLine) (h : DE X a δ μ fun (x : Str) μ1 => DE X b δ μ1 fun (y : Str) μ2 => (PyData.strOk x = true ∧ PyData.strOk y = true) ∧ PB (decide (x = y)) μ2) : DT X (.Compare a [.Eq] [b] pos) δ μ PB :=
  of_pt (pt_cmpR (op_eqD hu) (cE_pe a) (cE_pe b) (nomark b)) (wt2 h (fun x μ1 p => p) fun x μ1 y μ2 _ p2 M H v w hh r1 r2 Q k => by
    cases r1; cases r2
    exact ⟨_, _, .str x, .str y, strSh p2.1.1, strSh p2.1.2, k _ μ2 M H (by rw [strEqv]; exact p2.2) Ste.refl hh⟩)
theorem dt_neS (hu : X.A.units + 64 < cLine) (h : DE X a δ μ fun (x : Str) μ1 => DE X b δ μ1 fun (y : Str) μ2 => (PyData.strOk x = true ∧ PyData.strOk y = true) ∧ PB (!decide (x = y)) μ2) : DT X (.Compare a [.NotEq] [b] pos) δ μ PB :=
  of_pt (pt_cmpR (op_neD hu) (cE_pe a) (cE_pe b) (nomark b)) (wt2 h (fun x μ1 p => p) fun x μ1 y μ2 _ p2 M H v w hh r1 r2 Q k => by
    cases r1; cases r2
    exact ⟨_, _, .str x, .str y, strSh p2.1.1, strSh p2.1.2, k _ μ2 M H (by rw [strEqv]; exact p2.2) Ste.refl hh⟩)
theorem de_eqS (hu : X.A.units + 64 < cLine) (h : DE X a δ μ fun (x : Str) μ1 => DE X b δ μ1 fun (y : Str) μ2 => (PyData.strOk x = true ∧ PyData.strOk y = true) ∧ PB (decide (x = y)) μ2) : DE X (.Compare a [.Eq] [b] pos) δ μ PB :=
  of_pe (pe_cmpR (op_eqD hu) (cE_pe a) (cE_pe b) (nomark b)) (we2 h (fun x μ1 p => p) fun x μ1 y μ2 _ p2 M H v w hh r1 r2 Q k => by
    cases r1; cases r2
    exact ⟨_, _, .str x, .str y, strSh p2.1.1, strSh p2.1.2, k _ μ2 M _ H (by rw [strEqv]; exact p2.2) Ste.refl hh rfl⟩)
/-- x in a text, x not in a text -/
def occ (i j : Str) : Bool := !(Builtin.Str.occurrences j i 0 j.length 1).isEmpty
theorem dt_inS (h : DE X a δ μ fun (x : Str) μ1 => DE X b δ μ1 fun (y : Str) μ2 => PB (occ x y) μ2) (h1 : behindInMarks .In b = false := by rfl) : DT X (.Compare a [.In] [b] pos) δ μ PB :=
  of_pt (pt_cmpR op_in_str (cE_pe a) (cE_pe b) h1) (wt2 h (fun x μ1 p => p) fun x μ1 y μ2 _ p2 M H v w hh r1 r2 Q k => by
    cases r1; cases r2
    exact ⟨x, y, rfl, rfl, k _ μ2 M H p2 Ste.refl hh⟩)
theorem dt_notInS (h : DE X a δ μ fun (x : Str) μ1 => DE X b δ μ1 fun (y : Str) μ2 => PB (!occ x y) μ2) (h1 : behindInMarks .NotIn b = false := by rfl) : DT X (.Compare a [.NotIn] [b] pos) δ μ PB :=
  of_pt (pt_cmpR op_notin_str (cE_pe a) (cE_pe b) h1) (wt2 h (fun x μ1 p => p) fun x μ1 y μ2 _ p2 M H v w hh r1 r2 Q k => by
    cases r1; cases r2
    exact ⟨x, y, rfl, rfl, k _ μ2 M H p2 Ste.refl hh⟩)
/-- x[i] of a text -/
theorem de_ixS {P : Str → List Cell → Prop} (h : DE X a δ μ fun (x : Str) μ1 => DE X b δ μ1 fun (i : Int) μ2 => ∃ c, 0 ≤ i ∧ i < 2 ^ 63 ∧ i < x.length ∧ x.cps[i.toNat]? = some c ∧ P ⟨#[c]⟩ μ2) (hs : PlainIxT b := by exact fun _ _ => rfl) : DE X (.Subscript a b pos) δ μ P :=
  of_pe (pe_item_str (cE_pe a) (cE_pe b) hs) (we2 h (fun x μ1 p => p) fun x μ1 y μ2 _ p2 M H v w hh r1 r2 Q k => by
    cases r1; cases r2
    obtain ⟨c, k1, k2, k3, k4, k5⟩ := p2
    exact ⟨x, y, c, rfl, rfl, k1, k2, k3, k4, k _ μ2 M _ H k5 Ste.refl hh rfl⟩)
theorem de_lenS {P : Int → List Cell → Prop} (hm : X.mg "len" = none) (h : DE X a δ μ fun (x : Str) μ1 => x.length ≤ 10000 ∧ P x.length μ1) (hg : Gl X "len" := by rfl)
    (he : starEach [a] X.env = (false, eval a X.env) :: starEach [] X.env := by rfl) (hpl : (backTo pos (starEach [] X.env)).any (·.1) = false := by rfl) : DE X (.Call (.Name "len" p) [a] [] pos) δ μ P :=
  de_cb call_len_str hm (by decide +kernel) (da_cons (h.mono fun x μ1 q => da_nil ⟨_, q.2, fun M H vs r Q k => by
    cases r with
    | cons r1 r =>
      cases r
      cases r1
      exact ⟨x, rfl, by rw [sizeLine_eq]; have := q.1; omega, k _ rfl⟩⟩) he) hg (by decide) (by decide) he hpl
end
end Dl
namespace Dl
open PySem PySem.Spec PyProof.Rows L2
/-! ### tuples of three and four -/
structure T3 (α β γ : Type) where
  x0 : α
  x1 : β
  x2 : γ
instance {α β γ : Type} [A : Enc α] [B : Enc β] [G : Enc γ] : Enc (T3 α β γ) where
  R K M H v x := ∃ a v0 v1 v2, v = .ref a ∧ SqT K H a [v0, v1, v2] ∧ A.R K M H v0 x.x0 ∧ B.R K M H v1 x.x1 ∧ G.R K M H v2 x.x2
  mono k h := by
    obtain ⟨a, v0, v1, v2, e, s, r0, r1, r2⟩ := h
    exact ⟨a, v0, v1, v2, e, sqT_keep k s, A.mono k r0, B.mono k r1, G.mono k r2⟩
  set k h := by
    obtain ⟨a, v0, v1, v2, e, s, r0, r1, r2⟩ := h
    exact ⟨a, v0, v1, v2, e, s, A.set k r0, B.set k r1, G.set k r2⟩
instance {α β γ : Type} [Enc α] [Enc β] [Enc γ] : NN (T3 α β γ) := ⟨fun h e => by obtain ⟨a, v0, v1, v2, rfl, _⟩ := h; cases e⟩
instance {α β γ : Type} [Enc α] [Enc β] [Enc γ] : Ty (T3 α β γ) "tuple" := ⟨fun h => by obtain ⟨a, v0, v1, v2, rfl, s, _⟩ := h; exact ty_sqT s⟩
section
variable {X : Cx} {α β γ : Type} [A : Enc α] [B : Enc β] [G : Enc γ] {a e0 e1 e2 : Expr} {δ : List Slot} {μ : List Cell} {pos : Pos}
theorem de_tup3 {k : Nat} {P : T3 α β γ → List Cell → Prop} (h : DE X e0 δ μ fun (y0 : α) μ1 => DE X e1 δ μ1 fun (y1 : β) μ2 => DE X e2 δ μ2 fun (y2 : γ) μ3 => P ⟨y0, y1, y2⟩ μ3)
    (h0 : starEach [e0, e1, e2] X.env = (false, eval e0 X.env) :: starEach [e1, e2] X.env := by rfl) (h1 : starEach [e1, e2] X.env = (false, eval e1 X.env) :: starEach [e2] X.env := by rfl) (h2 : starEach [e2] X.env = (false, eval e2 X.env) :: starEach [] X.env := by rfl) : DE X (.Tuple [e0, e1, e2] k pos) δ μ P :=
  of_pe (pe_tup (pa_cons (cE_pe e0) (pa_cons (cE_pe e1) (pa_cons (cE_pe e2) pa_nil h2) h1) h0)) fun M σ H E Q q => h M σ H E _ fun y0 μ1 M1 v0 H1 p0 s0 hh0 r0 => p0 M1 σ H1 (E.step s0 hh0) _ fun y1 μ2 M2 v1 H2 p1 s1 hh1 r1 => p1 M2 σ H2 (E.step (s0.trans s1) hh1) _ fun y2 μ3 M3 v2 H3 p2 s2 hh2 r2 => ⟨by show 3 ≤ sizeLine; decide, fun p hp => by
      have sL := foot_alloc hh2 hp (.tup [v0, v1, v2])
      refine q ⟨y0, y1, y2⟩ μ3 M3 _ _ p2 (((s0.trans s1).trans s2).trans sL) (hh2.alloc hp _) ⟨p, v0, v1, v2, rfl, SqT.of upd_same, ?_, ?_, ?_⟩
      · exact tr ((s1.trans s2).trans sL) hh0 r0
      · exact tr (s2.trans sL) hh1 r1
      · exact tr sL hh2 r2⟩
theorem de_t30 {j : _} {pos' : Pos} {P : α → List Cell → Prop} (h : DE X a δ μ fun (x : T3 α β γ) μ1 => P x.x0 μ1) : DE X (.Subscript a (.Constant (.int 0) j pos') pos) δ μ P :=
  of_pe (pe_ix ix_tup (cE_pe a) pe_int plainIx_int) fun M σ H E Q q => h M σ H E _ fun x μ1 M1 w H1 p1 s1 hh1 r => by
    obtain ⟨p, v0, v1, v2, rfl, hs, r0, r1, r2⟩ := r
    exact ⟨p, _, 0, v0, rfl, rfl, hs, rfl, q x.x0 μ1 M1 _ H1 p1 s1 hh1 r0⟩
theorem de_t31 {j : _} {pos' : Pos} {P : β → List Cell → Prop} (h : DE X a δ μ fun (x : T3 α β γ) μ1 => P x.x1 μ1) : DE X (.Subscript a (.Constant (.int 1) j pos') pos) δ μ P :=
  of_pe (pe_ix ix_tup (cE_pe a) pe_int plainIx_int) fun M σ H E Q q => h M σ H E _ fun x μ1 M1 w H1 p1 s1 hh1 r => by
    obtain ⟨p, v0, v1, v2, rfl, hs, r0, r1, r2⟩ := r
    exact ⟨p, _, 1, v1, rfl, rfl, hs, rfl, q x.x1 μ1 M1 _ H1 p1 s1 hh1 r1⟩
theorem de_t32 {j : _} {pos' : Pos} {P : γ → List Cell → Prop} (h : DE X a δ μ fun (x : T3 α β γ) μ1 => P x.x2 μ1) : DE X (.Subscript a (.Constant (.int 2) j pos') pos) δ μ P :=
  of_pe (pe_ix ix_tup (cE_pe a) pe_int plainIx_int) fun M σ H E Q q => h M σ H E _ fun x μ1 M1 w H1 p1 s1 hh1 r => by
    obtain ⟨p, v0, v1, v2, rfl, hs, r0, r1, r2⟩ := r
    exact ⟨p, _, 2, v2, rfl, rfl, hs, rfl, q x.x2 μ1 M1 _ H1 p1 s1 hh1 r2⟩
end
structure T4 (α β γ ε : Type) where
  x0 : α
  x1 : β
  x2 : γ
  x3 : ε
instance {α β γ ε : Type} [A : Enc α] [B : Enc β] [G : Enc γ] [E' : Enc ε] : Enc (T4 α β γ ε) where
  R K M H v x := ∃ a v0 v1 v2 v3, v = .ref a ∧ SqT K H a [v0, v1, v2, v3] ∧ A.R K M H v0 x.x0 ∧ B.R K M H v1 x.x1 ∧ G.R K M H v2 x.x2 ∧ E'.R K M H v3 x.x3
  mono k h := by
    obtain ⟨a, v0, v1, v2, v3, e, s, r0, r1, r2, r3⟩ := h
    exact ⟨a, v0, v1, v2, v3, e, sqT_keep k s, A.mono k r0, B.mono k r1, G.mono k r2, E'.mono k r3⟩
  set k h := by
    obtain ⟨a, v0, v1, v2, v3, e, s, r0, r1, r2, r3⟩ := h
    exact ⟨a, v0, v1, v2, v3, e, s, A.set k r0, B.set k r1, G.set k r2, E'.set k r3⟩
instance {α β γ ε : Type} [Enc α] [Enc β] [Enc γ] [Enc ε] : NN (T4 α β γ ε) := ⟨fun h e => by obtain ⟨a, v0, v1, v2, v3, rfl, _⟩ := h; cases e⟩
instance {α β γ ε : Type} [Enc α] [Enc β] [Enc γ] [Enc ε] : Ty (T4 α β γ ε) "tuple" := ⟨fun h => by obtain ⟨a, v0, v1, v2, v3, rfl, s, _⟩ := h; exact ty_sqT s⟩
section
variable {X : Cx} {α β γ ε : Type} [A : Enc α] [B : Enc β] [G : Enc γ] [E' : Enc ε] {a e0 e1 e2 e3 : Expr} {δ : List Slot} {μ : List Cell} {pos : Pos}
theorem de_tup4 {k : Nat} {P : T4 α β γ ε → List Cell → Prop} (h : DE X e0 δ μ fun (y0 : α) μ1 => DE X e1 δ μ1 fun (y1 : β) μ2 => DE X e2 δ μ2 fun (y2 : γ) μ3 => DE X e3 δ μ3 fun (y3 : ε) μ4 => P ⟨y0, y1, y2, y3⟩ μ4)
    (h0 : starEach [e0, e1, e2, e3] X.env = (false, eval e0 X.env) :: starEach [e1, e2, e3] X.env := by rfl) (h1 : starEach [e1, e2, e3] X.env = (false, eval e1 X.env) :: starEach [e2, e3] X.env := by rfl) (h2 : starEach [e2, e3] X.env = (false, eval e2 X.env) :: starEach [e3] X.env := by rfl) (h3 : starEach [e3] X.env = (false, eval e3 X.env) :: starEach [] X.env := by rfl) : DE X (.Tuple [e0, e1, e2, e3] k pos) δ μ P :=
  of_pe (pe_tup (pa_cons (cE_pe e0) (pa_cons (cE_pe e1) (pa_cons (cE_pe e2) (pa_cons (cE_pe e3) pa_nil h3) h2) h1) h0)) fun M σ H E Q q => h M σ H E _ fun y0 μ1 M1 v0 H1 p0 s0 hh0 r0 => p0 M1 σ H1 (E.step s0 hh0) _ fun y1 μ2 M2 v1 H2 p1 s1 hh1 r1 => p1 M2 σ H2 (E.step (s0.trans s1) hh1) _ fun y2 μ3 M3 v2 H3 p2 s2 hh2 r2 => p2 M3 σ H3 (E.step ((s0.trans s1).trans s2) hh2) _ fun y3 μ4 M4 v3 H4 p3 s3 hh3 r3 => ⟨by show 4 ≤ sizeLine; decide, fun p hp => by
      have sL := foot_alloc hh3 hp (.tup [v0, v1, v2, v3])
      refine q ⟨y0, y1, y2, y3⟩ μ4 M4 _ _ p3 ((((s0.trans s1).trans s2).trans s3).trans sL) (hh3.alloc hp _) ⟨p, v0, v1, v2, v3, rfl, SqT.of upd_same, ?_, ?_, ?_, ?_⟩
      · exact tr (((s1.trans s2).trans s3).trans sL) hh0 r0
      · exact tr ((s2.trans s3).trans sL) hh1 r1
      · exact tr (s3.trans sL) hh2 r2
      · exact tr sL hh3 r3⟩
theorem de_t40 {j : _} {pos' : Pos} {P : α → List Cell → Prop} (h : DE X a δ μ fun (x : T4 α β γ ε) μ1 => P x.x0 μ1) : DE X (.Subscript a (.Constant (.int 0) j pos') pos) δ μ P :=
  of_pe (pe_ix ix_tup (cE_pe a) pe_int plainIx_int) fun M σ H E Q q => h M σ H E _ fun x μ1 M1 w H1 p1 s1 hh1 r => by
    obtain ⟨p, v0, v1, v2, v3, rfl, hs, r0, r1, r2, r3⟩ := r
    exact ⟨p, _, 0, v0, rfl, rfl, hs, rfl, q x.x0 μ1 M1 _ H1 p1 s1 hh1 r0⟩
theorem de_t41 {j : _} {pos' : Pos} {P : β → List Cell → Prop} (h : DE X a δ μ fun (x : T4 α β γ ε) μ1 => P x.x1 μ1) : DE X (.Subscript a (.Constant (.int 1) j pos') pos) δ μ P :=
  of_pe (pe_ix ix_tup (cE_pe a) pe_int plainIx_int) fun M σ H E Q q => h M σ H E _ fun x μ1 M1 w H1 p1 s1 hh1 r => by
    obtain ⟨p, v0, v1, v2, v3, rfl, hs, r0, r1, r2, r3⟩ := r
    exact ⟨p, _, 1, v1, rfl, rfl, hs, rfl, q x.x1 μ1 M1 _ H1 p1 s1 hh1 r1⟩
theorem de_t42 {j : _} {pos' : Pos} {P : γ → List Cell → Prop} (h : DE X a δ μ fun (x : T4 α β γ ε) μ1 => P x.x2 μ1) : DE X (.Subscript a (.Constant (.int 2) j pos') pos) δ μ P :=
  of_pe (pe_ix ix_tup (cE_pe a) pe_int plainIx_int) fun M σ H E Q q => h M σ H E _ fun x μ1 M1 w H1 p1 s1 hh1 r => by
    obtain ⟨p, v0, v1, v2, v3, rfl, hs, r0, r1, r2, r3⟩ := r
    exact ⟨p, _, 2, v2, rfl, rfl, hs, rfl, q x.x2 μ1 M1 _ H1 p1 s1 hh1 r2⟩
theorem de_t43 {j : _} {pos' : Pos} {P : ε → List Cell → Prop} (h : DE X a δ μ fun (x : T4 α β γ ε) μ1 => P x.x3 μ1) : DE X (.Subscript a (.Constant (.int 3) j pos') pos) δ μ P :=
  of_pe (pe_ix ix_tup (cE_pe a) pe_int plainIx_int) fun M σ H E Q q => h M σ H E _ fun x μ1 M1 w H1 p1 s1 hh1 r => by
    obtain ⟨p, v0, v1, v2, v3, rfl, hs, r0, r1, r2, r3⟩ := r
    exact ⟨p, _, 3, v3, rfl, rfl, hs, rfl, q x.x3 μ1 M1 _ H1 p1 s1 hh1 r3⟩
end
end Dl
namespace Dl
open PySem PySem.Spec PyProof.Rows L2
/-! ### nodes of terms -/
inductive Op2 where
  | add | sub | mul | div | max | min
  deriving DecidableEq
def Op2.s : Op2 → Str
  | .add => "add"
  | .sub => "sub"
  | .mul => "mul"
  | .div => "div"
  | .max => "max"
  | .min => "min"
inductive Nd where
  | letter (k : Nat)
  | num (v : Q2)
  | abs (i : Nat)
  | pow (i n : Nat)
  | op (o : Op2) (i j : Nat)
  deriving DecidableEq
def Nd.kind : Nd → Str
  | .letter _ => "letter"
  | .num _ => "num"
  | .abs _ => "abs"
  | .pow _ _ => "pow"
  | .op o _ _ => o.s
def Nd.key : Nd → List Elt
  | .letter k => [.s "letter", .i k]
  | .num v => [.s "num", .p v.1 v.2]
  | .abs i => [.s "abs", .i i]
  | .pow i n => [.s "pow", .i i, .i n]
  | .op o i j => [.s o.s, .i i, .i j]
def Nd.arg1 : Nd → Int
  | .letter k => k
  | .num _ => 0
  | .abs i => i
  | .pow i _ => i
  | .op _ i _ => i
def Nd.arg2 : Nd → Int
  | .pow _ n => n
  | .op _ _ j => j
  | _ => 0
def Nd.val : Nd → Q2
  | .num v => v
  | _ => (0, 1)
def Nd.isNum : Nd → Bool
  | .num _ => true
  | _ => false
def Nd.three : Nd → Bool
  | .pow _ _ => true
  | .op _ _ _ => true
  | _ => false
theorem Op2.s_inj {a b : Op2} (h : a.s = b.s) : a = b := by
  cases a <;> cases b <;> first | rfl | exact absurd h (by decide)
theorem Op2.s_pow {a : Op2} : a.s ≠ "pow" := by cases a <;> decide
theorem Nd.key_inj {a b : Nd} (h : a.key = b.key) : a = b := by
  cases a <;> cases b <;> simp only [Nd.key, List.cons.injEq, Elt.s.injEq, Elt.i.injEq, Elt.p.injEq, and_true, reduceCtorEq, and_false, false_and] at h <;> try exact h.elim
  · rw [Int.ofNat_inj.mp h.2]
  · exact absurd h.1 (by decide)
  · exact congrArg Nd.num (Prod.ext h.2.1 h.2.2)
  · exact absurd h.1 (by decide)
  · rw [Int.ofNat_inj.mp h.2]
  · rw [Int.ofNat_inj.mp h.2.1, Int.ofNat_inj.mp h.2.2]
  · exact absurd h.1.symm Op2.s_pow
  · exact absurd h.1 Op2.s_pow
  · rw [Op2.s_inj h.1, Int.ofNat_inj.mp h.2.1, Int.ofNat_inj.mp h.2.2]
theorem Op2.ok (o : Op2) : PyData.strOk o.s = true := by cases o <;> decide +kernel
theorem Nd.kind_ok (n : Nd) : PyData.strOk n.kind = true := by
  cases n with
  | letter k => exact (by decide +kernel : PyData.strOk ("letter" : Str) = true)
  | num v => exact (by decide +kernel : PyData.strOk ("num" : Str) = true)
  | abs i => exact (by decide +kernel : PyData.strOk ("abs" : Str) = true)
  | pow i n => exact (by decide +kernel : PyData.strOk ("pow" : Str) = true)
  | op o i j => exact Op2.ok o
theorem paired_inv {α β : Type} {F : α → β → Prop} {a : α} {l : List α} {vs : List β} (h : Paired F (a :: l) vs) : ∃ v rest, vs = v :: rest ∧ F a v ∧ Paired F l rest := by
  cases h with
  | cons r t => exact ⟨_, _, rfl, r, t⟩
theorem paired_nil_inv {α β : Type} {F : α → β → Prop} {vs : List β} (h : Paired F ([] : List α) vs) : vs = [] := by
  cases h; rfl
theorem at0 {v : V} {l : List V} : atI (v :: l) 0 = some v := atI_nat (j := 0) rfl
theorem at1 {u v : V} {l : List V} : atI (u :: v :: l) 1 = some v := atI_nat (j := 1) rfl
instance : Enc Nd where
  R K _ H v x := ∃ a, v = .ref a ∧ NkAt K H x.key a
  mono k h := by obtain ⟨a, e, r⟩ := h; exact ⟨a, e, r.keep k⟩
  set _ h := h
section
variable {X : Cx} {e a : Expr} {δ : List Slot} {μ : List Cell} {pos pos' : Pos} {j : _}
/-- a node, as a key -/
theorem de_ndK {P : Nk → List Cell → Prop} (h : DE X e δ μ fun (x : Nd) μ1 => P ⟨x.key⟩ μ1) : DE X e δ μ P := fun M σ H E Q q => h M σ H E Q fun x μ' M' v H' p s hh r => q ⟨x.key⟩ μ' M' v H' p s hh r
/-- a pair (text, whole number), a pair (text, number), a triple: as a node -/
theorem de_asNd2 {P : Nd → List Cell → Prop} (h : DE X e δ μ fun (x : Str × Int) μ1 => ∃ n : Nd, n.key = [.s x.1, .i x.2] ∧ P n μ1) : DE X e δ μ P := fun M σ H E Q q => h M σ H E Q fun x μ' M' v H' p s hh r => by
  obtain ⟨n, hn, p⟩ := p
  obtain ⟨a, v1, v2, rfl, sq, r1, r2⟩ := r
  have ok : PyData.strOk x.1 = true := by
    have := n.kind_ok
    cases n <;> simp only [Nd.key, List.cons.injEq, Elt.s.injEq, reduceCtorEq, and_false, false_and] at hn <;> first | exact hn.elim | (rw [← hn.1]; exact this)
  exact q n μ' M' _ H' p s hh ⟨a, rfl, _, sq, by rw [hn]; exact .cons ⟨ok, r1⟩ (.cons r2 .nil)⟩
theorem de_asNdQ {P : Nd → List Cell → Prop} (h : DE X e δ μ fun (x : Str × Q2) μ1 => x.1 = "num" ∧ P (.num x.2) μ1) : DE X e δ μ P := fun M σ H E Q q => h M σ H E Q fun x μ' M' v H' p s hh r => by
  obtain ⟨hn, p⟩ := p
  obtain ⟨a, v1, v2, rfl, sq, r1, r2⟩ := r
  obtain ⟨c, w1, w2, rfl, sq2, rfl, rfl⟩ := r2
  exact q _ μ' M' _ H' p s hh ⟨a, rfl, _, sq, .cons ⟨by decide +kernel, by rw [← hn]; exact r1⟩ (.cons ⟨c, rfl, sq2⟩ .nil)⟩
theorem de_asNd3 {P : Nd → List Cell → Prop} (h : DE X e δ μ fun (x : T3 Str Int Int) μ1 => ∃ n : Nd, n.key = [.s x.x0, .i x.x1, .i x.x2] ∧ P n μ1) : DE X e δ μ P := fun M σ H E Q q => h M σ H E Q fun x μ' M' v H' p s hh r => by
  obtain ⟨n, hn, p⟩ := p
  obtain ⟨a, v1, v2, v3, rfl, sq, r1, r2, r3⟩ := r
  have ok : PyData.strOk x.x0 = true := by
    have := n.kind_ok
    cases n <;> simp only [Nd.key, List.cons.injEq, Elt.s.injEq, reduceCtorEq, and_false, false_and] at hn <;> first | exact hn.elim | (rw [← hn.1]; exact this)
  exact q n μ' M' _ H' p s hh ⟨a, rfl, _, sq, by rw [hn]; exact .cons ⟨ok, r1⟩ (.cons r2 (.cons r3 .nil))⟩
/-- node[0] -/
theorem de_nd0 {P : Str → List Cell → Prop} (h : DE X a δ μ fun (x : Nd) μ1 => P x.kind μ1) : DE X (.Subscript a (.Constant (.int 0) j pos') pos) δ μ P :=
  of_pe (pe_ix ix_tup (cE_pe a) pe_int plainIx_int) fun M σ H E Q q => h M σ H E _ fun x μ1 M1 w H1 p1 s1 hh1 r => by
    obtain ⟨p, rfl, vs, sq, r⟩ := r
    obtain ⟨v0, rest, rfl, hv⟩ : ∃ v0 rest, vs = v0 :: rest ∧ v0 = .str x.kind := by
      cases x <;> (obtain ⟨v, rest, rfl, h, t⟩ := paired_inv r; exact ⟨_, _, rfl, h.2⟩)
    exact ⟨p, _, 0, v0, rfl, rfl, sq, at0, q x.kind μ1 M1 _ H1 p1 s1 hh1 hv⟩
/-- node[1], a whole number -/
theorem de_nd1 {P : Int → List Cell → Prop} (h : DE X a δ μ fun (x : Nd) μ1 => x.isNum = false ∧ P x.arg1 μ1) : DE X (.Subscript a (.Constant (.int 1) j pos') pos) δ μ P :=
  of_pe (pe_ix ix_tup (cE_pe a) pe_int plainIx_int) fun M σ H E Q q => h M σ H E _ fun x μ1 M1 w H1 p1 s1 hh1 r => by
    obtain ⟨hn, p1⟩ := p1
    obtain ⟨p, rfl, vs, sq, r⟩ := r
    obtain ⟨v0, v1, rest, rfl, hv⟩ : ∃ v0 v1 rest, vs = v0 :: v1 :: rest ∧ v1 = .int x.arg1 := by
      cases x <;> first | (simp [Nd.isNum] at hn; done) | (obtain ⟨v, rest, rfl, h, t⟩ := paired_inv r; obtain ⟨v', rest', rfl, h', t'⟩ := paired_inv t; exact ⟨_, _, _, rfl, h'⟩)
    exact ⟨p, _, 1, v1, rfl, rfl, sq, at1, q x.arg1 μ1 M1 _ H1 p1 s1 hh1 hv⟩
/-- node[1], the number of a number's node -/
theorem de_nd1Q {P : Q2 → List Cell → Prop} (h : DE X a δ μ fun (x : Nd) μ1 => x.isNum = true ∧ P x.val μ1) : DE X (.Subscript a (.Constant (.int 1) j pos') pos) δ μ P :=
  of_pe (pe_ix ix_tup (cE_pe a) pe_int plainIx_int) fun M σ H E Q q => h M σ H E _ fun x μ1 M1 w H1 p1 s1 hh1 r => by
    obtain ⟨hn, p1⟩ := p1
    obtain ⟨p, rfl, vs, sq, r⟩ := r
    cases x with
    | num v =>
      obtain ⟨v0, rest, rfl, h0, t⟩ := paired_inv r
      obtain ⟨v1, rest', rfl, h1, t'⟩ := paired_inv t
      obtain ⟨c, rfl, sq2⟩ := h1
      exact ⟨p, _, 1, _, rfl, rfl, sq, at1, q v μ1 M1 _ H1 p1 s1 hh1 ⟨c, _, _, rfl, sq2, rfl, rfl⟩⟩
    | _ => exact nomatch hn
/-- node[2] -/
theorem de_nd2 {P : Int → List Cell → Prop} (h : DE X a δ μ fun (x : Nd) μ1 => x.three = true ∧ P x.arg2 μ1) : DE X (.Subscript a (.Constant (.int 2) j pos') pos) δ μ P :=
  of_pe (pe_ix ix_tup (cE_pe a) pe_int plainIx_int) fun M σ H E Q q => h M σ H E _ fun x μ1 M1 w H1 p1 s1 hh1 r => by
    obtain ⟨hn, p1⟩ := p1
    obtain ⟨p, rfl, vs, sq, r⟩ := r
    obtain ⟨v0, v1, v2, rfl, hv⟩ : ∃ v0 v1 v2, vs = [v0, v1, v2] ∧ v2 = .int x.arg2 := by
      cases x <;> first | (simp [Nd.three] at hn; done) | (obtain ⟨v, rest, rfl, h, t⟩ := paired_inv r; obtain ⟨v', rest', rfl, h', t'⟩ := paired_inv t; obtain ⟨v'', rest'', rfl, h'', t''⟩ := paired_inv t'; obtain rfl := paired_nil_inv t''; exact ⟨_, _, _, rfl, h''⟩)
    exact ⟨p, _, 2, v2, rfl, rfl, sq, atI_nat (j := 2) rfl, q x.arg2 μ1 M1 _ H1 p1 s1 hh1 hv⟩
end
end Dl
namespace Dl
open PySem PySem.Spec PyProof.Rows L2
/-! ### dicts from whole numbers, as cells -/
abbrev IKv (α : Type) := List (Int × α)
def valI {α : Type} (kvs : IKv α) (k : Int) : Option α := (kvs.find? fun p => decide (p.1 = k)).map (·.2)
def putI {α : Type} (kvs : IKv α) (k : Int) (y : α) : IKv α := if (kvs.any fun p => decide (p.1 = k)) = true then kvs.map (fun p => if p.1 = k then (p.1, y) else p) else kvs ++ [(k, y)]
theorem valI_pos {α : Type} {p : Int × α} {r : IKv α} {k : Int} (e : p.1 = k) : valI (p :: r) k = some p.2 := by simp [valI, List.find?_cons, e]
theorem valI_neg {α : Type} {p : Int × α} {r : IKv α} {k : Int} (e : ¬ p.1 = k) : valI (p :: r) k = valI r k := by simp [valI, List.find?_cons, e]
abbrev KI (K : PySem.W.Frag) (M : AS) (H : Hp) {α : Type} (A : Enc α) (vs : List (Key × V)) (kvs : IKv α) : Prop := Paired (fun (p : Key × V) (q : Int × α) => p.1 = Sum.inl q.1 ∧ A.R K M H p.2 q.2) vs kvs
def DkC (a : Addr) {α : Type} (A : Enc α) (kvs : IKv α) : Cell where
  foot := [a]
  holds := fun K M H => ∃ vs, H a = some (.dK vs) ∧ KI K M H A vs kvs
  mono := fun k h => by
    obtain ⟨vs, e, r⟩ := h
    exact ⟨vs, k _ _ e (.inl (by simp)), Paired.mapP r fun _ _ z => ⟨z.1, A.mono (fun a o e c => k a o e (.inr c)) z.2⟩⟩
  set := fun k h => by
    obtain ⟨vs, e, r⟩ := h
    exact ⟨vs, e, Paired.mapP r fun _ _ z => ⟨z.1, A.set k z.2⟩⟩
section
variable {K : PySem.W.Frag} {M : AS} {H : Hp} {α : Type} {A : Enc α} {k : Int}
theorem inl_ne {p : Key} {i k : Int} (h : p = Sum.inl i) (e : ¬ i = k) : ¬ p = Sum.inl k := fun z => e (Sum.inl.inj (h.symm.trans z))
theorem KI.some : ∀ {vs : List (Key × V)} {kvs : IKv α} {y : α}, KI K M H A vs kvs → valI kvs k = Option.some y → ∃ v, valV vs (Sum.inl k) = Option.some v ∧ A.R K M H v y
  | _, _, _, .nil, h => by cases h
  | _, _, y, .cons (a := p) (b := q) z t, h => by
    by_cases e : q.1 = k
    · rw [valI_pos e] at h
      cases h
      exact ⟨p.2, valV_pos (by rw [z.1, e]), z.2⟩
    · rw [valI_neg e] at h
      obtain ⟨v, h1, h2⟩ := KI.some t h
      exact ⟨v, by rw [valV_neg (inl_ne z.1 e)]; exact h1, h2⟩
theorem KI.none : ∀ {vs : List (Key × V)} {kvs : IKv α}, KI K M H A vs kvs → valI kvs k = Option.none → valV vs (Sum.inl k) = Option.none
  | _, _, .nil, _ => rfl
  | _, _, .cons (a := p) (b := q) z t, h => by
    by_cases e : q.1 = k
    · rw [valI_pos e] at h
      cases h
    · rw [valI_neg e] at h
      rw [valV_neg (inl_ne z.1 e)]
      exact KI.none t h
theorem KI.any : ∀ {vs : List (Key × V)} {kvs : IKv α}, KI K M H A vs kvs → (vs.any fun kv => decide (kv.1 = (Sum.inl k : Key))) = kvs.any fun p => decide (p.1 = k)
  | _, _, .nil => rfl
  | _, _, .cons (a := p) (b := q) z t => by
    rw [List.any_cons, List.any_cons, KI.any t]
    congr 1
    by_cases e : q.1 = k
    · rw [decide_eq_true e, decide_eq_true (by rw [z.1, e])]
    · rw [decide_eq_false e, decide_eq_false (inl_ne z.1 e)]
theorem KI.put {vs : List (Key × V)} {kvs : IKv α} {v : V} {y : α} (r : KI K M H A vs kvs) (ry : A.R K M H v y) : KI K M H A (putK vs (Sum.inl k) v) (putI kvs k y) := by
  unfold putK putI
  rw [r.any (k := k)]
  by_cases c : (kvs.any fun p => decide (p.1 = k)) = true
  · rw [if_pos c, if_pos c]
    clear c
    have go : ∀ {vs : List (Key × V)} {kvs : IKv α}, KI K M H A vs kvs → KI K M H A (vs.map fun kv => if kv.1 = (Sum.inl k : Key) then (kv.1, v) else kv) (kvs.map fun p => if p.1 = k then (p.1, y) else p) := by
      intro vs kvs r
      induction r with
      | nil => exact .nil
      | @cons p q ps qs z t ih =>
        rw [List.map_cons, List.map_cons]
        refine .cons ?_ ih
        by_cases e : q.1 = k
        · rw [if_pos (by rw [z.1, e]), if_pos e]; exact ⟨z.1, ry⟩
        · rw [if_neg (inl_ne z.1 e), if_neg e]; exact z
    exact go r
  · rw [if_neg c, if_neg c]
    exact Paired.snoc r ⟨rfl, ry⟩
theorem KI.isSome {vs : List (Key × V)} {kvs : IKv α} (r : KI K M H A vs kvs) : (valV vs (Sum.inl k)).isSome = (valI kvs k).isSome := by
  cases e : valI kvs k with
  | none => rw [r.none e]; rfl
  | some y =>
    obtain ⟨v, h, _⟩ := r.some e
    rw [h]; rfl
end
section
variable {X : Cx} {α ρ : Type} [A : Enc α] [Enc ρ] {a b o i value : Expr} {δ : List Slot} {μ : List Cell} {PB : Bool → List Cell → Prop} {N B C : PN} {R : ρ → List Cell → Prop} {pos pos' : Pos}
/-- {} -/
theorem de_idict {P : Ref → List Cell → Prop} (h : ∀ l, P ⟨l⟩ (μ ++ [DkC l A []])) : DE X (.Dict [] [] pos) δ μ P :=
  of_pe pe_dnewK fun M σ H E Q q => fun p hp => by
    obtain ⟨s, hh⟩ := new_any (c := DkC p A []) (H' := upd H p (.dK [])) E.h (fun r hr => by rw [List.mem_singleton.mp (show r ∈ [p] from hr)]; exact hp) (fun b o' e => by rw [upd_ne (ne_of_none e hp)]; exact e)
      (fun r hr => by rw [List.mem_singleton.mp (show r ∈ [p] from hr), upd_same]; exact fun z => nomatch z) ⟨[], upd_same, .nil⟩
    exact q ⟨p⟩ _ _ _ _ (h p) s hh rfl
theorem we_iin (c : Nat) (h : DE X a δ μ fun (x : Int) μ1 => DE X b δ μ1 fun (y : Ref) μ2 => ∃ kvs : IKv α, μ2[c]? = some (DkC y.a A kvs) ∧ PB (valI kvs x).isSome μ2) : WE X.K (tDIn (cE X a) (cE X b)) δ μ PB :=
  fun M σ H E Q q => h M σ H E _ fun x μ1 M1 v1 H1 p1 s1 h1 r1 => p1 M1 σ H1 (E.step s1 h1) _ fun y μ2 M2 v2 H2 p2 s2 h2 r2 => by
    obtain ⟨kvs, hc, p⟩ := p2
    cases r1
    cases r2
    obtain ⟨vs, e, r⟩ := h2.cell _ (List.mem_of_getElem? hc)
    exact ⟨y.a, _, rfl, .inl ⟨vs, Sum.inl x, .inl e, rfl, rfl⟩, q _ μ2 M2 _ H2 p (s1.trans s2) h2 (by show V.bl _ = V.bl _; rw [KI.isSome r])⟩
theorem de_iin (hu : X.A.units + 64 < cLine) (c : Nat) (h : DE X a δ μ fun (x : Int) μ1 => DE X b δ μ1 fun (y : Ref) μ2 => ∃ kvs : IKv α, μ2[c]? = some (DkC y.a A kvs) ∧ PB (valI kvs x).isSome μ2)
    (h1 : behindInMarks .In b = false := by rfl) : DE X (.Compare a [.In] [b] pos) δ μ PB :=
  of_pe (pe_cmp (pc_din (by omega) (cE_pe a) (cE_pe b)) h1) (we_iin c h)
theorem dt_iin (hu : X.A.units + 64 < cLine) (c : Nat) (h : DE X a δ μ fun (x : Int) μ1 => DE X b δ μ1 fun (y : Ref) μ2 => ∃ kvs : IKv α, μ2[c]? = some (DkC y.a A kvs) ∧ PB (valI kvs x).isSome μ2)
    (h1 : behindInMarks .In b = false := by rfl) : DT X (.Compare a [.In] [b] pos) δ μ PB :=
  of_pt (pt_cmp (pc_din (by omega) (cE_pe a) (cE_pe b)) h1) fun M σ H E Q q => we_iin c h M σ H E _ fun x μ' M' v H' p s hh r => by
    cases r
    exact ⟨x, rfl, q x μ' M' H' p s hh⟩
/-- d[k] -/
theorem de_iget {P : α → List Cell → Prop} (hu : X.A.units + 64 < cLine) (c : Nat) (h : DE X o δ μ fun (y : Ref) μ1 => DE X i δ μ1 fun (x : Int) μ2 => ∃ (kvs : IKv α) (z : α), μ2[c]? = some (DkC y.a A kvs) ∧ valI kvs x = some z ∧ P z μ2)
    (hs : NoSl i := by exact fun _ _ => rfl) : DE X (.Subscript o i pos) δ μ P :=
  of_pe (pe_dget (by omega) (cE_pe o) (cE_pe i) hs) fun M σ H E Q q => h M σ H E _ fun y μ1 M1 v1 H1 p1 s1 h1 r1 => p1 M1 σ H1 (E.step s1 h1) _ fun x μ2 M2 v2 H2 p2 s2 h2 r2 => by
    obtain ⟨kvs, z, hc, hz, p⟩ := p2
    cases r1
    cases r2
    obtain ⟨vs, e, r⟩ := h2.cell _ (List.mem_of_getElem? hc)
    obtain ⟨v, k1, k2⟩ := r.some hz
    exact ⟨y.a, v, rfl, .inl ⟨vs, Sum.inl x, .inl e, rfl, k1.symm⟩, q z μ2 M2 v H2 p (s1.trans s2) h2 k2⟩
/-- d[k] = v -/
theorem ds_iput (hu : X.A.units + 64 < cLine) (c : Nat) (h : DE X value δ μ fun (z : α) μ0 => DE X o δ μ0 fun (y : Ref) μ1 => DE X i δ μ1 fun (x : Int) μ2 => ∃ kvs : IKv α, μ2[c]? = some (DkC y.a A kvs) ∧ kvs.length < 10000 ∧ N δ (μ2.set c (DkC y.a A (putI kvs x z))))
    (hs : swapsWith value (some (.Subscript o i pos')) pos.line X.env = pure false := by rfl) : DS X (.Assign [.Subscript o i pos'] value pos) δ μ N R B C :=
  of_ps (ps_dput (by omega) (cE_pe o) (cE_pe i) (cE_pe value) hs) fun M σ H E D n r b c' => h M σ H E _ fun z μ0 M0 v0 H0 p0 s0 h0 r0 => p0 M0 σ H0 (E.step s0 h0) _ fun y μ1 M1 v1 H1 p1 s1 h1 r1 => p1 M1 σ H1 (E.step (s0.trans s1) h1) _ fun x μ2 M2 v2 H2 p2 s2 h2 r2 => by
    obtain ⟨kvs, hc, hl, p⟩ := p2
    cases r1
    cases r2
    obtain ⟨vs, e, rk⟩ := h2.cell _ (List.mem_of_getElem? hc)
    have r0' : A.R X.K M2 H2 v0 z := Dl.tr s2 h1 (Dl.tr s1 h0 r0)
    refine ⟨y.a, upd H2 y.a (.dK (putK vs (Sum.inl x) v0)), rfl, .inl ⟨vs, Sum.inl x, e, rfl, by rw [Paired.length rk, sizeLine_eq]; omega, rfl⟩, ?_⟩
    obtain ⟨q1, q2, q3⟩ := split_at hc
    have h2' := h2
    rw [q1] at h2'
    have km : Keep M2 H2 (upd H2 y.a (.dK (putK vs (Sum.inl x) v0))) := fun b' o' e' cc => by
      have hM : M2 y.a := h2.inM _ ⟨_, List.mem_of_getElem? hc, by show y.a ∈ [y.a]; simp⟩
      by_cases hb : b' = y.a
      · rcases cc with cc | cc
        · rw [hb] at cc; exact absurd hM cc
        · rw [hb, e] at e'; cases e'; exact cc.elim
      · rw [upd_ne hb]; exact e'
    have rk' : KI X.K M2 (upd H2 y.a (.dK (putK vs (Sum.inl x) v0))) A (putK vs (Sum.inl x) v0) (putI kvs x z) := Paired.mapP (KI.put rk r0') fun _ _ q => ⟨q.1, A.mono km q.2⟩
    obtain ⟨s3, h3⟩ := put_any (c := DkC y.a A kvs) (c' := DkC y.a A (putI kvs x z)) (a := y.a) (o := .dK (putK vs (Sum.inl x) v0)) h2' rfl (by show y.a ∈ [y.a]; simp) e (fun z => z) ⟨_, upd_same, rk'⟩
    rw [← q1, ← q2 (DkC y.a A (putI kvs x z))] at s3
    rw [← q2 (DkC y.a A (putI kvs x z))] at h3
    exact n _ _ _ _ _ p (((s0.trans s1).trans s2).trans s3) (E.step (((s0.trans s1).trans s2).trans s3) h3)
end
end Dl
namespace Dl
open PySem PySem.Spec PyProof.Rows L2
/-! ### dict comprehensions over whole-number keys -/
section
variable {X : Cx} {α β : Type} [A : Enc α] [B : Enc β] {kx vx iter tg a : Expr} {δ : List Slot} {μ : List Cell} {pos p : Pos} {scope : Scope} {own : List (Str × Nat)} {g : TG}
theorem tt_nil {σ : L2.St} {H : Hp} {Q : Bool → Hp → Prop} (h : Q true H) : ttOf X scope [] σ H Q := h
/-- one turn: the key, then the value -/
def TurnD (X : Cx) (scope : Scope) (kx vx : Expr) {β : Type} [Enc β] (δ : List Slot) (μ : List Cell) (P : Int → β → List Cell → Prop) : Prop :=
  ∀ s H C cl fp, DE (blk X scope s H C cl fp) kx δ μ fun (k : Int) μ2 => ∀ s H C cl fp, DE (blk X scope s H C cl fp) vx δ μ2 fun (y : β) μ3 => P k y μ3
theorem turn_dc {D : Addr} {M M1 : AS} {H H1 : Hp} {μ1 μ' : List Cell} {kvs : IKv β} {J : IKv β → List Cell → Prop} {δ' : List Slot} {σ2 : L2.St} {Nx : Hp → Prop}
    (ht : TurnD X scope kx vx δ' μ' fun k (y : β) μ3 => kvs.length < 10000 ∧ J (putI kvs k y) μ3)
    (s : Ste M1 μ1 H1 M (μ' ++ [DkC D B kvs]) H) (E : EnvOk X.K M (μ' ++ [DkC D B kvs]) δ' σ2 H)
    (nx : ∀ kvs' μ3 M3 H3, J kvs' μ3 → Ste M1 μ1 H1 M3 (μ3 ++ [DkC D B kvs']) H3 → Holds X.K M3 (μ3 ++ [DkC D B kvs']) H3 → Nx H3) :
    cB X scope kx σ2 H fun y H4 => cB X scope vx σ2 H4 fun z H5 => ∃ vs k, y = kV k ∧ H5 D = some (.dK vs) ∧ vs.length < sizeLine ∧ Nx (upd H5 D (.dK (putK vs k z))) := by
  intro s0 H0 C cl fp
  have sp : Parts (μ' ++ [DkC D B kvs]) μ' [DkC D B kvs] := ⟨List.Perm.refl _⟩
  refine ht s0 H0 C cl fp M σ2 H (E.cells (E.h.part sp)) _ fun k μ2 M2 v H2 p2 s2 h2 r2 => ?_
  cases r2
  obtain ⟨s3, h3⟩ := frame E.h sp s2 h2
  have E3 := E.step s3 h3
  intro s0' H0' C' cl' fp'
  have sp2 : Parts (μ2 ++ [DkC D B kvs]) μ2 [DkC D B kvs] := ⟨List.Perm.refl _⟩
  refine p2 s0' H0' C' cl' fp' M2 σ2 H2 (E3.cells (E3.h.part sp2)) _ fun y μ3 M3 w H3 p3 s4 h4 r4 => ?_
  obtain ⟨s5, h5⟩ := frame h3 sp2 s4 h4
  obtain ⟨vs, ea, ra⟩ := h5.cell (DkC D B kvs) (by simp)
  have km : Keep M3 H3 (upd H3 D (.dK (putK vs (Sum.inl k) w))) := fun b' o' e' cc => by
    have hM : M3 D := h5.inM _ ⟨DkC D B kvs, by simp, by show D ∈ [D]; simp⟩
    by_cases hb : b' = D
    · rcases cc with cc | cc
      · rw [hb] at cc; exact absurd hM cc
      · rw [hb, ea] at e'; cases e'; exact cc.elim
    · rw [upd_ne hb]; exact e'
  obtain ⟨s6, h6⟩ := put_any (μ' := []) (c := DkC D B kvs) (c' := DkC D B (putI kvs k y)) (a := D) (o := .dK (putK vs (Sum.inl k) w)) h5 rfl (by show D ∈ [D]; simp) ea (fun z => z) ⟨_, upd_same, Paired.mapP (KI.put ra r4) fun _ _ q => ⟨q.1, B.mono km q.2⟩⟩
  exact ⟨vs, Sum.inl k, rfl, ea, by rw [Paired.length ra, sizeLine_eq]; omega, nx _ _ _ _ p3.2 (((s.trans s3).trans s5).trans s6) h6⟩
/-- {k: v for x in xs}, xs a list that stays; for i in range(n) -/
theorem de_dcL (hc : X.calm = true) (hN : X.N.Nodup) (ok : BlkOk X.N X.env.scope scope own) (dg : α → List Slot → List Slot) (hg : ∀ (s : Shared) (H : Hp) (C : Addr) (cl : List (Str × Addr)) (fp : List Addr), PG (blk X scope s H C cl fp) tg g) (hw : ∀ x : α, WB X.K g (own.map (·.2)) (.val A x) (dg x))
    {P : Ref → List Cell → Prop} (h : DE X iter δ μ fun (xs : List α) μ1 => ∃ J : Nat → IKv β → List Cell → Prop, J 0 [] μ1 ∧
      (∀ k x kvs μ', xs[k]? = some x → J k kvs μ' → TurnD X scope kx vx (dg x (wipeD δ (own.map (·.2)))) μ' fun i (y : β) μ3 => kvs.length < 10000 ∧ J (k + 1) (putI kvs i y) μ3) ∧ (∀ kvs μ', J xs.length kvs μ' → ∀ D, P ⟨D⟩ (μ' ++ [DkC D B kvs])))
    (hs : ∀ x, foldedSetIterable iter X.env x = pure x := by intro _; rfl) : DE X (.DictComp kx vx [⟨tg, iter, [], 0⟩] scope pos) δ μ P :=
  of_pe (pe_dc hc hN (pi_list (cE_pe iter)) ok hg (pts_of (ifs := []) (Nat.zero_le _)) cB_pe cB_pe hs) fun M σ H E Q q => h M σ H E _ fun xs μ1 M1 v H1 p1 s1 hh1 r1 => by
    obtain ⟨J, j0, jh, je⟩ := p1
    have r0 := r1
    obtain ⟨ad, vs, rfl, nm, rd, r⟩ := r1
    refine ⟨ad, rfl, ⟨vs, .inl rd⟩, fun D hD => ?_⟩
    have hl := r.length
    obtain ⟨s2, h2⟩ := new_any (c := DkC D B ([] : IKv β)) (H' := upd H1 D (.dK [])) hh1 (fun r hr => by rw [List.mem_singleton.mp (show r ∈ [D] from hr)]; exact hD) (fun b o' e => by rw [upd_ne (ne_of_none e hD)]; exact e)
      (fun r hr => by rw [List.mem_singleton.mp (show r ∈ [D] from hr), upd_same]; exact fun z => nomatch z) ⟨[], upd_same, .nil⟩
    have E1 := E.step s1 hh1
    refine ⟨fun i m H' => m = vs.length - i ∧ i ≤ vs.length ∧ ∃ M' μ' kvs, J i kvs μ' ∧ Ste M1 μ1 H1 M' (μ' ++ [DkC D B kvs]) H' ∧ Holds X.K M' (μ' ++ [DkC D B kvs]) H', ⟨vs.length, by simp, Nat.zero_le _, _, μ1, [], j0, s2, h2⟩, ?_⟩
    rintro i m H' ⟨rfl, hi, M', μ', kvs, hJ, s, hh⟩
    have sq : SqL X.K H' ad vs := by
      rcases rd with rd | ⟨o, rd⟩
      · exact .inl (.inl (s.keep _ _ rd (.inl fun z => nm (hh1.inM _ z))))
      · exact .inl (.inr ⟨o, s.keep _ _ rd (.inr trivial)⟩)
    by_cases hlt : i < vs.length
    · refine .inr ⟨⟨vs, vs[i], sq, by simp [hlt]⟩, fun H' => ∃ M' μ' kvs, J (i + 1) kvs μ' ∧ Ste M1 μ1 H1 M' (μ' ++ [DkC D B kvs]) H' ∧ Holds X.K M' (μ' ++ [DkC D B kvs]) H', fun H'' q => ⟨vs.length - (i + 1), by omega, rfl, hlt, q⟩, fun x H'' y => ?_⟩
      obtain ⟨e, y⟩ := y
      subst e
      have hx := y vs sq
      have hi' : i < xs.length := by omega
      obtain ⟨x', e1, ry⟩ := paired_get r (List.getElem?_eq_getElem hi')
      rw [hx] at e1; cases e1
      refine (hw xs[i]).run δ M' _ σ _ x (E1.step s hh) (Dl.tr (A := A) s hh1 ry) _ fun σ2 E2 ew => ⟨ew, ?_⟩
      refine tt_nil ?_
      refine iteT ?_
      exact (turn_dc (Nx := fun H' => ∃ M' μ' kvs, J (i + 1) kvs μ' ∧ Ste M1 μ1 H1 M' (μ' ++ [DkC D B kvs]) H' ∧ Holds X.K M' (μ' ++ [DkC D B kvs]) H') (J := fun kvs μ3 => J (i + 1) kvs μ3) (jh i _ kvs μ' (List.getElem?_eq_getElem hi') hJ) s E2 fun kvs' μ3 M3 H3 pj s3 h3 => ⟨M3, μ3, kvs', pj, s3, h3⟩)
    · have e : i = vs.length := by omega
      subst e
      rw [hl] at hJ
      exact .inl ⟨⟨vs, sq, Nat.le_refl _⟩, q ⟨D⟩ _ _ _ _ (je _ _ hJ D) (s1.trans s) hh rfl⟩
end
end Dl
namespace Dl
open PySem PySem.Spec PyProof.Rows L2
/-! ### cells in another order -/
section
variable {K : PySem.W.Frag} {M M' : AS} {μ μ' ν : List Cell} {H H' : Hp}
theorem Holds.perm (h : Holds K M μ H) (p : μ.Perm ν) : Holds K M ν H where
  cell := fun c hc => h.cell c (p.mem_iff.mpr hc)
  inM := fun a z => h.inM a ((foots_perm p a).mpr z)
  al := h.al
  dj := h.dj.perm p (fun {c d} q a h1 h2 => q a h2 h1)
theorem Ste.perm (s : Ste M μ H M' μ' H') (p : μ'.Perm ν) : Ste M μ H M' ν H' := ⟨s.keep, s.al, s.new, fun a z => s.foo a ((foots_perm p a).mpr z), s.up⟩
theorem erase_perm {μ : List Cell} {i : Nat} {c : Cell} (h : μ[i]? = some c) : μ.Perm (μ.eraseIdx i ++ [c]) := by
  obtain ⟨e1, _, e3⟩ := split_at h
  rw [e3]
  exact (List.Perm.of_eq e1).trans (by
    rw [List.append_assoc]
    exact List.Perm.append_left _ (List.perm_append_comm (l₁ := [c])))
theorem parts_at {μ : List Cell} {i : Nat} {c : Cell} (h : μ[i]? = some c) : Parts μ (μ.eraseIdx i) [c] := ⟨erase_perm h⟩
end
section
variable {X : Cx} {α β γ ρ : Type} [Enc α] [Enc β] [Enc γ] [Enc ρ] {e a b tg iter elt : Expr} {es ifs : List Expr} {δ : List Slot} {μ : List Cell}
  {N B C : PN} {R : ρ → List Cell → Prop} {sts body : List Stmt} {pos p : Pos} {scope : Scope} {own : List (Str × Nat)} {g : TG}
/-- a cell that is no longer needed -/
theorem db_drop (i : Nat) {l : Addr} {xs : List α} (hi : μ[i]? = some (lst l xs)) (h : DB X sts δ (μ.eraseIdx i) N R B C) : DB X sts δ μ N R B C := fun M σ H E D n r b c => by
  obtain ⟨e1, e2, e3⟩ := split_at hi
  have hh := E.h
  rw [e1] at hh
  obtain ⟨s2, h2, r2⟩ := freeze hh
  rw [← e1, ← e3] at s2
  rw [← e3] at h2
  exact h _ σ H (E.step s2 h2) D (fun _ _ _ _ _ p s => n _ _ _ _ _ p (s2.trans s)) (fun _ _ _ _ _ p s => r _ _ _ _ _ p (s2.trans s)) (fun _ _ _ _ _ p s => b _ _ _ _ _ p (s2.trans s)) (fun _ _ _ _ _ p s => c _ _ _ _ _ p (s2.trans s))
/-- a comprehension over a list that may change later: its cell stays aside -/
theorem we_lcC {A : Enc α} (dg : α → List Slot → List Slot) (hw : ∀ x : α, WB X.K g (own.map (·.2)) (.val A x) (dg x))
    {P : List β → List Cell → Prop} (h : DE X iter δ μ fun (x : Ref) μ1 => ∃ (c : Nat) (xs : List α), μ1[c]? = some (lst x.a xs) ∧ ∃ J : Nat → List β → Prop, J 0 [] ∧
      (∀ k x ys, xs[k]? = some x → J k ys → Turns X scope elt ifs (dg x (wipeD δ (own.map (·.2)))) (μ1.eraseIdx c) (fun (y : β) μ3 => ys.length < 10000 ∧ (μ3 = μ1.eraseIdx c ∧ J (k + 1) (ys ++ [y]))) (fun μ3 => μ3 = μ1.eraseIdx c ∧ J (k + 1) ys)) ∧ (∀ ys, J xs.length ys → P ys μ1)) :
    WE X.K (tLc (iList X.K (cE X iter)) g (ttOf X scope ifs) (cB X scope elt) (own.map (·.2))) δ μ P := fun M σ H E Q q => h M σ H E _ fun x μ1 M1 v H1 p1 s1 hh1 r1 => by
  obtain ⟨c, xs, hc, J, j0, jh, je⟩ := p1
  cases r1
  obtain ⟨vs, ev, rp⟩ := hh1.cell _ (List.mem_of_getElem? hc)
  have hl := rp.length
  have sp := parts_at hc
  have hr := hh1.part sp
  have nf : ¬ foots (μ1.eraseIdx c) x.a := fun ⟨d, hd, ha⟩ => by
    have dj : (μ1.eraseIdx c ++ [lst x.a xs]).Pairwise fun c d => ∀ a, a ∈ c.foot → a ∉ d.foot := (hh1.perm sp.perm).dj
    exact (List.pairwise_append.mp dj).2.2 d hd _ (List.mem_singleton.mpr rfl) x.a ha (by show x.a ∈ [x.a]; simp)
  refine ⟨x.a, rfl, ⟨vs, .inl (.inl ev)⟩, fun D hD => ?_⟩
  obtain ⟨s2, h2⟩ := new_cell (A := inferInstanceAs (Enc β)) (xs := ([] : List β)) hr hD .nil
  have E1 : EnvOk X.K M1 (μ1.eraseIdx c) δ σ H1 := (E.step s1 hh1).cells hr
  refine lc_list (xs := vs) (fun i H' => ∃ M' ys, J i ys ∧ Ste M1 (μ1.eraseIdx c) H1 M' (μ1.eraseIdx c ++ [lst D ys]) H' ∧ Holds X.K M' (μ1.eraseIdx c ++ [lst D ys]) H') ⟨_, [], j0, s2, h2⟩ ?_ ?_ ?_
  · rintro i H' hi ⟨M', ys, hJ, s, hh⟩
    exact .inl (.inl (s.keep _ _ ev (.inl nf)))
  · rintro i y H' hi ⟨M', ys, hJ, s, hh⟩
    have hi' : i < xs.length := by rw [← hl]; exact (List.getElem?_eq_some_iff.mp hi).1
    obtain ⟨y', e1, ry⟩ := paired_get rp (List.getElem?_eq_getElem hi')
    rw [hi] at e1; cases e1
    refine (hw xs[i]).run δ M' _ σ H' y (E1.step s hh) (Dl.tr (A := A) s hr ry) _ fun σ2 E2 ew => ⟨ew, ?_⟩
    refine turn_ok (J := fun ys μ3 => μ3 = μ1.eraseIdx c ∧ J (i + 1) ys) (jh i _ ys (List.getElem?_eq_getElem hi') hJ) s E2 fun ys' μ3 M3 H3 pj s3 h3 => ?_
    obtain ⟨rfl, pj⟩ := pj
    exact ⟨M3, ys', pj, s3, h3⟩
  · rintro H' ⟨M', ys, hJ, s, hh⟩
    rw [hl] at hJ
    obtain ⟨s3, h3, r3⟩ := freeze (μ' := []) hh
    rw [List.append_nil] at s3 h3
    obtain ⟨s4, h4⟩ := frame hh1 sp (s.trans s3) h3
    exact q ys _ _ _ _ (je _ hJ) (s1.trans (s4.perm sp.perm.symm)) (h4.perm sp.perm.symm) r3
theorem de_lcC {A : Enc α} (hc : X.calm = true) (hN : X.N.Nodup) (ok : BlkOk X.N X.env.scope scope own) (dg : α → List Slot → List Slot) (hg : ∀ (s : Shared) (H : Hp) (C : Addr) (cl : List (Str × Addr)) (fp : List Addr), PG (blk X scope s H C cl fp) tg g) (hw : ∀ x : α, WB X.K g (own.map (·.2)) (.val A x) (dg x)) (hl : ifs.length ≤ 1)
    {P : List β → List Cell → Prop} (h : DE X iter δ μ fun (x : Ref) μ1 => ∃ (c : Nat) (xs : List α), μ1[c]? = some (lst x.a xs) ∧ ∃ J : Nat → List β → Prop, J 0 [] ∧
      (∀ k x ys, xs[k]? = some x → J k ys → Turns X scope elt ifs (dg x (wipeD δ (own.map (·.2)))) (μ1.eraseIdx c) (fun (y : β) μ3 => ys.length < 10000 ∧ (μ3 = μ1.eraseIdx c ∧ J (k + 1) (ys ++ [y]))) (fun μ3 => μ3 = μ1.eraseIdx c ∧ J (k + 1) ys)) ∧ (∀ ys, J xs.length ys → P ys μ1))
    (hs : ∀ x, foldedSetIterable iter X.env x = pure x := by intro _; rfl) : DE X (.ListComp elt [⟨tg, iter, ifs, 0⟩] scope pos) δ μ P :=
  of_pe (pe_lc hc hN (pi_list (cE_pe iter)) ok hg (pts_of hl) cB_pe hs) (we_lcC dg hw h)
/-- .. stored at a name -/
theorem ds_lcC {A : Enc α} {i : Nat} {y : Str} {py spos : Pos} (hc : X.calm = true) (hN : X.N.Nodup) (ok : BlkOk X.N X.env.scope scope own) (dg : α → List Slot → List Slot) (hg : ∀ (s : Shared) (H : Hp) (C : Addr) (cl : List (Str × Addr)) (fp : List Addr), PG (blk X scope s H C cl fp) tg g) (hw : ∀ x : α, WB X.K g (own.map (·.2)) (.val A x) (dg x)) (hl : ifs.length ≤ 1)
    (h : DE X iter δ μ fun (x : Ref) μ1 => ∃ (c : Nat) (xs : List α), μ1[c]? = some (lst x.a xs) ∧ ∃ J : Nat → List β → Prop, J 0 [] ∧
      (∀ k x ys, xs[k]? = some x → J k ys → Turns X scope elt ifs (dg x (wipeD δ (own.map (·.2)))) (μ1.eraseIdx c) (fun (y : β) μ3 => ys.length < 10000 ∧ (μ3 = μ1.eraseIdx c ∧ J (k + 1) (ys ++ [y]))) (fun μ3 => μ3 = μ1.eraseIdx c ∧ J (k + 1) ys)) ∧ (∀ ys, J xs.length ys → N (δ.set i (sl ys)) μ1))
    (hsw : swapsWith (.ListComp elt [⟨tg, iter, ifs, 0⟩] scope pos) (some (.Name y py)) spos.line X.env = pure true) (hy : X.N[i]? = some y := by rfl) (hyl : X.env.scope.names.lookup y = some .local := by rfl)
    (hs : ∀ x, foldedSetIterable iter X.env x = pure x := by intro _; rfl) : DS X (.Assign [.Name y py] (.ListComp elt [⟨tg, iter, ifs, 0⟩] scope pos) spos) δ μ N R B C :=
  of_ps (ps_setLc hc hN hy hyl hsw (pi_list (cE_pe iter)) ok hg (pts_of hl) cB_pe hs) fun M σ H E D n r b c => we_lcC (P := fun ys μ' => N (δ.set i (sl ys)) μ') dg hw h M σ H E _ fun x μ' M' v H' p s hh rr => n _ μ' M' _ H' p s ((E.step s hh).put rr)
/-- x = [.. of a tuple]: the list is to change -/
theorem ds_lcTN {A : Enc α} {i : Nat} {y : Str} {py spos : Pos} (hc : X.calm = true) (hN : X.N.Nodup) (ok : BlkOk X.N X.env.scope scope own) (dg : α → List Slot → List Slot) (hg : ∀ (s : Shared) (H : Hp) (C : Addr) (cl : List (Str × Addr)) (fp : List Addr), PG (blk X scope s H C cl fp) tg g) (hw : ∀ x : α, WB X.K g (own.map (·.2)) (.val A x) (dg x)) (hl : ifs.length ≤ 1)
    (h : DE X iter δ μ fun (xs : Tup α) μ1 => ∃ J : Nat → List β → List Cell → Prop, J 0 [] μ1 ∧
      (∀ k x ys μ', xs.l[k]? = some x → J k ys μ' → Turns X scope elt ifs (dg x (wipeD δ (own.map (·.2)))) μ' (fun (y : β) μ3 => ys.length < 10000 ∧ J (k + 1) (ys ++ [y]) μ3) (fun μ3 => J (k + 1) ys μ3)) ∧ (∀ ys μ', J xs.l.length ys μ' → ∀ D, N (δ.set i (sl (Ref.mk D))) (μ' ++ [lst D ys])))
    (hsw : swapsWith (.ListComp elt [⟨tg, iter, ifs, 0⟩] scope pos) (some (.Name y py)) spos.line X.env = pure true) (hy : X.N[i]? = some y := by rfl) (hyl : X.env.scope.names.lookup y = some .local := by rfl)
    (hs : ∀ x, foldedSetIterable iter X.env x = pure x := by intro _; rfl) : DS X (.Assign [.Name y py] (.ListComp elt [⟨tg, iter, ifs, 0⟩] scope pos) spos) δ μ N R B C :=
  of_ps (ps_setLc hc hN hy hyl hsw (pi_tup (cE_pe iter)) ok hg (pts_of hl) cB_pe hs) fun M σ H E D n r b c => we_lcTN (P := fun x μ' => N (δ.set i (sl x)) μ') dg hw h M σ H E _ fun x μ' M' v H' p s hh rr => n _ μ' M' _ H' p s ((E.step s hh).put rr)
/-- x = [.. for i in range(n)]: the list stays -/
theorem ds_lcR {i0 i : Nat} {x0 y : Str} {px pos' py spos : Pos} (hc : X.calm = true) (hN : X.N.Nodup) (ok : BlkOk X.N X.env.scope scope own) (hi0 : i0 ∈ own.map (·.2)) (hg : ∀ (s : Shared) (H : Hp) (C : Addr) (cl : List (Str × Addr)) (fp : List Addr), PG (blk X scope s H C cl fp) (.Name x0 px) (gName i0)) (hl : ifs.length ≤ 1) (hm : X.mg "range" = none)
    (h : DE X a δ μ fun (n : Int) μ1 => (n < 2 ^ 62 ∧ -(2 ^ 62) ≤ n) ∧ ∃ J : Nat → List β → List Cell → Prop, J 0 [] μ1 ∧
      (∀ (k : Nat) ys μ', (k : Int) < n → J k ys μ' → Turns X scope elt ifs ((wipeD δ (own.map (·.2))).set i0 (sl (k : Int))) μ' (fun (y : β) μ3 => ys.length < 10000 ∧ J (k + 1) (ys ++ [y]) μ3) (fun μ3 => J (k + 1) ys μ3)) ∧ (∀ ys μ', J n.toNat ys μ' → N (δ.set i (sl ys)) μ'))
    (hsw : swapsWith (.ListComp elt [⟨.Name x0 px, .Call (.Name "range" p) [a] [] pos', ifs, 0⟩] scope pos) (some (.Name y py)) spos.line X.env = pure true) (hy : X.N[i]? = some y := by rfl) (hyl : X.env.scope.names.lookup y = some .local := by rfl)
    (hgl : Gl X "range" := by rfl) (hs1 : starEach [a] X.env = [(false, eval a X.env)] := by rfl) (hs2 : starEach [a] X.env = (false, eval a X.env) :: starEach [] X.env := by rfl)
    (hs : ∀ x, foldedSetIterable (.Call (.Name "range" p) [a] [] pos') X.env x = pure x := by intro _; rfl) : DS X (.Assign [.Name y py] (.ListComp elt [⟨.Name x0 px, .Call (.Name "range" p) [a] [] pos', ifs, 0⟩] scope pos) spos) δ μ N R B C :=
  of_ps (ps_setLc hc hN hy hyl hsw (pi_range1 hgl hm (pa_cons (cE_pe a) pa_nil hs2) hs1) ok hg (pts_of hl) cB_pe hs) fun M σ H E D n r b c => we_lcR (P := fun ys μ' => N (δ.set i (sl ys)) μ') hi0 h M σ H E _ fun x μ' M' v H' p s hh rr => n _ μ' M' _ H' p s ((E.step s hh).put rr)
/-- for over a list that may change later: its cell stays aside -/
theorem ds_forC {A : Enc α} {g : TG} (hp : PassesOwn (model X.prog X.w) X.A X.env X.xe) (hc : X.calm = true) (hgt : PG X tg g) (dg : α → List Slot → List Slot) (hg : ∀ x δ', WG X.K g (.val A x) δ' (dg x δ'))
    (h : DE X e δ μ fun (x : Ref) μ1 => ∃ (c : Nat) (xs : List α), μ1[c]? = some (lst x.a xs) ∧ ∃ Inv : Nat → List Slot → Prop, Inv 0 δ ∧ (∀ k x δ', xs[k]? = some x → Inv k δ' → DB (ρ := ρ) X body (dg x δ') (μ1.eraseIdx c) (fun δ2 μ2 => μ2 = μ1.eraseIdx c ∧ Inv (k + 1) δ2) (fun _ _ => False) (fun _ _ => False) (fun δ2 μ2 => μ2 = μ1.eraseIdx c ∧ Inv (k + 1) δ2)) ∧ (∀ δ', Inv xs.length δ' → N δ' μ1))
    (hs3 : ∀ x, foldedSetIterable e X.env x = pure x := by intro _; rfl) :
    DS X (.For tg e body [] pos) δ μ N R B C :=
  of_ps (ps_for hp hc (pi_list (cE_pe e)) hgt (cSs_pss body) hs3) fun M σ H E D nk rk bk ck => h M σ H E _ fun x μ1 M1 v H1 p1 s1 h1 r1 => by
    obtain ⟨c, xs, hx, Inv, i0, ih, ie⟩ := p1
    cases r1
    obtain ⟨vs, ev, rp⟩ := h1.cell _ (List.mem_of_getElem? hx)
    have hl := rp.length
    have sp := parts_at hx
    have hr := h1.part sp
    have nf : ¬ foots (μ1.eraseIdx c) x.a := fun ⟨d, hd, ha⟩ => by
      have dj : (μ1.eraseIdx c ++ [lst x.a xs]).Pairwise fun c d => ∀ a, a ∈ c.foot → a ∉ d.foot := (h1.perm sp.perm).dj
      exact (List.pairwise_append.mp dj).2.2 d hd _ (List.mem_singleton.mpr rfl) x.a ha (by show x.a ∈ [x.a]; simp)
    have E1 : EnvOk X.K M1 (μ1.eraseIdx c) δ σ H1 := (E.step s1 h1).cells hr
    refine ⟨x.a, rfl, ⟨vs, .inl (.inl ev)⟩, ?_⟩
    refine for_list (xs := vs) (fun i σ' H' => ∃ M' δ', Inv i δ' ∧ Ste M1 (μ1.eraseIdx c) H1 M' (μ1.eraseIdx c) H' ∧ EnvOk X.K M' (μ1.eraseIdx c) δ' σ' H') ⟨M1, δ, i0, Ste.refl, E1⟩ ?_ ?_ ?_
    · rintro i σ' H' hi ⟨M', δ', hI, s, E'⟩
      exact .inl (.inl (s.keep _ _ ev (.inl nf)))
    · rintro i y σ' H' hi ⟨M', δ', hI, s, E'⟩
      have hi' : i < xs.length := by rw [← hl]; exact (List.getElem?_eq_some_iff.mp hi).1
      obtain ⟨y', e1, ry⟩ := paired_get rp (List.getElem?_eq_getElem hi')
      rw [hi] at e1; cases e1
      refine (hg xs[i] δ').run M' _ σ' H' y E' (Dl.tr (A := A) s hr ry) _ fun σ2 E2 => ?_
      refine ih i _ δ' (List.getElem?_eq_getElem hi') hI M' σ2 H' E2 _ (fun δ2 μ2 M2 σ3 H2 p s3 E3 => ?_) (fun _ _ _ _ _ z => z.elim) (fun _ _ _ _ _ z => z.elim) (fun δ2 μ2 M2 σ3 H2 p s3 E3 => ?_)
      · obtain ⟨rfl, p⟩ := p; exact ⟨M2, δ2, p, s.trans s3, E3⟩
      · obtain ⟨rfl, p⟩ := p; exact ⟨M2, δ2, p, s.trans s3, E3⟩
    · rintro σ' H' ⟨M', δ', hI, s, E'⟩
      rw [hl] at hI
      obtain ⟨s4, h4⟩ := frame h1 sp s E'.h
      exact nk _ _ _ _ _ (ie _ hI) (s1.trans (s4.perm sp.perm.symm)) (E'.cells (h4.perm sp.perm.symm))
/-- [x] * n -/
theorem de_rep {P : Ref → List Cell → Prop} (h : DE X a δ μ fun (x : Ref) μ1 => DE X b δ μ1 fun (k : Int) μ2 => ∃ (c : Nat) (y : α), μ2[c]? = some (lst x.a [y]) ∧ (0 ≤ k ∧ k < 100000) ∧ ∀ l, P ⟨l⟩ (μ2.eraseIdx c ++ [lst l (List.replicate k.toNat y)])) : DE X (.BinOp a .Mult b pos) δ μ P :=
  of_pe (pe_op op_rep (cE_pe a) (cE_pe b)) fun M σ H E Q q => h M σ H E _ fun x μ1 M1 v1 H1 p1 s1 hh1 r1 => p1 M1 σ H1 (E.step s1 hh1) _ fun k μ2 M2 w H2 p2 s2 hh2 r2 => by
    obtain ⟨c, y, hc, ⟨k0, k1⟩, p⟩ := p2
    cases r1; cases r2
    obtain ⟨vs, ev, rp⟩ := hh2.cell _ (List.mem_of_getElem? hc)
    cases rp with
    | cons ry rn =>
      cases rn
      rename_i vy
      refine ⟨x.a, k, [vy], rfl, rfl, ev, by omega, by omega, by show 1 * k.toNat ≤ sizeLine; rw [Nat.one_mul]; exact Nat.le_trans (by omega : k.toNat ≤ 100000) (by decide), fun p' hp => ?_⟩
      obtain ⟨e1, e2, e3⟩ := split_at hc
      have hh2' := hh2
      rw [e1] at hh2'
      obtain ⟨s3, h3, _⟩ := freeze hh2'
      rw [← e1, ← e3] at s3
      rw [← e3] at h3
      have ef : (List.replicate k.toNat [vy]).flatten = List.replicate k.toNat vy := by
        generalize k.toNat = n
        induction n with
        | zero => rfl
        | succ n ih => rw [List.replicate_succ, List.flatten_cons, ih, List.replicate_succ]; rfl
      have rr : Paired (Enc.R X.K (fun b => M2 b ∧ b ≠ x.a) H2) (List.replicate k.toNat vy) (List.replicate k.toNat y) := by
        have ry' := tr s3 hh2 ry
        generalize k.toNat = n
        induction n with
        | zero => exact .nil
        | succ n ih => exact .cons ry' ih
      rw [ef]
      obtain ⟨s4, h4⟩ := new_cell h3 hp rr
      exact q ⟨p'⟩ _ _ _ _ (p p') (((s1.trans s2).trans s3).trans s4) h4 rfl
/-- xs + ys, both lists that may change -/
theorem de_cat {P : Ref → List Cell → Prop} (h : DE X a δ μ fun (x : Ref) μ1 => DE X b δ μ1 fun (y : Ref) μ2 => ∃ (c d : Nat) (xs ys : List α), μ2[c]? = some (lst x.a xs) ∧ μ2[d]? = some (lst y.a ys) ∧ xs.length + ys.length ≤ 10000 ∧ ∀ l, P ⟨l⟩ (μ2 ++ [lst l (xs ++ ys)])) : DE X (.BinOp a .Add b pos) δ μ P :=
  of_pe (pe_op op_cat (cE_pe a) (cE_pe b)) fun M σ H E Q q => h M σ H E _ fun x μ1 M1 v1 H1 p1 s1 hh1 r1 => p1 M1 σ H1 (E.step s1 hh1) _ fun y μ2 M2 w H2 p2 s2 hh2 r2 => by
    obtain ⟨c, d, xs, ys, hc, hd, hl, p⟩ := p2
    cases r1; cases r2
    obtain ⟨vs, ev, rv⟩ := hh2.cell _ (List.mem_of_getElem? hc)
    obtain ⟨ws, ew, rw'⟩ := hh2.cell _ (List.mem_of_getElem? hd)
    refine ⟨x.a, y.a, vs, ws, rfl, rfl, ev, ew, by rw [rv.length, rw'.length]; exact Nat.le_trans hl (by decide), fun p' hp => ?_⟩
    have rr : Paired (Enc.R X.K M2 H2) (vs ++ ws) (xs ++ ys) := by
      have : ∀ {vs : List V} {xs : List α}, Paired (Enc.R X.K M2 H2) vs xs → Paired (Enc.R X.K M2 H2) (vs ++ ws) (xs ++ ys) := by
        intro vs xs r
        induction r with
        | nil => exact rw'
        | cons r t ih => exact .cons r ih
      exact this rv
    obtain ⟨s3, h3⟩ := new_cell hh2 hp rr
    exact q ⟨p'⟩ _ _ _ _ (p p') ((s1.trans s2).trans s3) h3 rfl
theorem paired_drop {F : V → α → Prop} : ∀ {n : Nat} {vs : List V} {xs : List α}, Paired F vs xs → Paired F (vs.drop n) (xs.drop n)
  | 0, _, _, h => h
  | _ + 1, _, _, .nil => .nil
  | n + 1, _, _, .cons _ t => paired_drop (n := n) t
theorem paired_take {F : V → α → Prop} : ∀ {n : Nat} {vs : List V} {xs : List α}, Paired F vs xs → Paired F (vs.take n) (xs.take n)
  | 0, _, _, _ => .nil
  | _ + 1, _, _, .nil => .nil
  | n + 1, _, _, .cons r t => .cons r (paired_take (n := n) t)
theorem cut_from (xs : List V) (n : Nat) (h : n ≤ xs.length) : cutV xs (some (n : Int)) none = xs.drop n := by
  unfold cutV
  rw [HT.sIx_none, HT.sIx_nat, Nat.min_eq_left h]
  rw [List.take_of_length_le (by rw [List.length_drop]; exact Nat.le_refl _)]
/-- xs[i:] of a list that may change, a new list -/
theorem de_sliceFrom {P : Ref → List Cell → Prop} {p2 : Pos} (h : DE X a δ μ fun (x : Ref) μ1 => DE X b δ μ1 fun (i : Int) μ2 => ∃ (c : Nat) (xs : List α), μ2[c]? = some (lst x.a xs) ∧ (0 ≤ i ∧ i ≤ xs.length) ∧ ∀ l, P ⟨l⟩ (μ2 ++ [lst l (xs.drop i.toNat)])) : DE X (.Subscript a (.Slice (some b) none none p2) pos) δ μ P :=
  of_pe (pe_slice sl_list (cE_pe a) (po_some (cE_pe b)) po_none) fun M σ H E Q q => h M σ H E _ fun x μ1 M1 v1 H1 p1 s1 hh1 r1 => p1 M1 σ H1 (E.step s1 hh1) _ fun i μ2 M2 w H2 p2 s2 hh2 r2 => by
    obtain ⟨c, xs, hc, ⟨i0, i1⟩, p⟩ := p2
    cases r1; cases r2
    obtain ⟨vs, ev, rv⟩ := hh2.cell _ (List.mem_of_getElem? hc)
    obtain ⟨n, rfl⟩ := Int.eq_ofNat_of_zero_le i0
    refine ⟨(n : Int), rfl, x.a, vs, rfl, .inl (.inl ev), fun p' hp => ?_⟩
    rw [cut_from vs n (by rw [rv.length]; omega)]
    obtain ⟨s3, h3⟩ := new_cell hh2 hp (paired_drop (n := n) rv)
    exact q ⟨p'⟩ _ _ _ _ (p p') ((s1.trans s2).trans s3) h3 rfl
/-- xs[:i] -/
theorem de_sliceTo {P : Ref → List Cell → Prop} {p2 : Pos} (h : DE X a δ μ fun (x : Ref) μ1 => DE X b δ μ1 fun (i : Int) μ2 => ∃ (c : Nat) (xs : List α), μ2[c]? = some (lst x.a xs) ∧ 0 ≤ i ∧ ∀ l, P ⟨l⟩ (μ2 ++ [lst l (xs.take i.toNat)])) : DE X (.Subscript a (.Slice none (some b) none p2) pos) δ μ P :=
  of_pe (pe_slice sl_list (cE_pe a) po_none (po_some (cE_pe b))) fun M σ H E Q q => h M σ H E _ fun x μ1 M1 v1 H1 p1 s1 hh1 r1 => p1 M1 σ H1 (E.step s1 hh1) _ fun i μ2 M2 w H2 p2 s2 hh2 r2 => by
    obtain ⟨c, xs, hc, i0, p⟩ := p2
    cases r1; cases r2
    obtain ⟨vs, ev, rv⟩ := hh2.cell _ (List.mem_of_getElem? hc)
    obtain ⟨n, rfl⟩ := Int.eq_ofNat_of_zero_le i0
    refine ⟨(n : Int), rfl, x.a, vs, rfl, .inl (.inl ev), fun p' hp => ?_⟩
    rw [cut_to]
    obtain ⟨s3, h3⟩ := new_cell hh2 hp (paired_take (n := n) rv)
    exact q ⟨p'⟩ _ _ _ _ (p p') ((s1.trans s2).trans s3) h3 rfl
theorem paired_rev {F : V → α → Prop} {vs : List V} {xs : List α} (h : Paired F vs xs) : Paired F vs.reverse xs.reverse := by
  have app : ∀ {vs : List V} {xs : List α} {ws : List V} {ys : List α}, Paired F vs xs → Paired F ws ys → Paired F (vs ++ ws) (xs ++ ys) := by
    intro vs xs ws ys r r2
    induction r with
    | nil => exact r2
    | cons r t ih => exact .cons r ih
  induction h with
  | nil => exact .nil
  | cons r t ih =>
    rw [List.reverse_cons, List.reverse_cons]
    exact app ih (.cons r .nil)
/-- xs[::-1] -/
theorem de_rev {k : _} {p1 p2 p3 : Pos} {P : Ref → List Cell → Prop} (h : DE X a δ μ fun (x : Ref) μ1 => ∃ (c : Nat) (xs : List α), μ1[c]? = some (lst x.a xs) ∧ ∀ l, P ⟨l⟩ (μ1 ++ [lst l xs.reverse])) : DE X (.Subscript a (.Slice none none (some (.UnaryOp .USub (.Constant (.int 1) k p1) p2)) p3) pos) δ μ P :=
  of_pe (pe_revL (cE_pe a)) fun M σ H E Q q => h M σ H E _ fun x μ1 M1 v1 H1 p1 s1 hh1 r1 => by
    obtain ⟨c, xs, hc, p⟩ := p1
    cases r1
    obtain ⟨vs, ev, rv⟩ := hh1.cell _ (List.mem_of_getElem? hc)
    refine ⟨x.a, vs, rfl, .inl (.inl ev), fun p' hp => ?_⟩
    obtain ⟨s3, h3⟩ := new_cell hh1 hp (paired_rev rv)
    exact q ⟨p'⟩ _ _ _ _ (p p') (s1.trans s3) h3 rfl
end
/-! ### one of two -/
instance [A : Enc α] [B : Enc β] : Enc (α ⊕ β) where
  R K M H v x := match x with | .inl a => A.R K M H v a | .inr b => B.R K M H v b
  mono k h := by
    rename_i x
    cases x with
    | inl a => exact A.mono k h
    | inr b => exact B.mono k h
  set k h := by
    rename_i x
    cases x with
    | inl a => exact A.set k h
    | inr b => exact B.set k h
section
variable {X : Cx} {α β ρ : Type} [Enc α] [Enc β] [Enc ρ] {e : Expr} {δ : List Slot} {μ : List Cell} {pos : Pos}
theorem de_inl {P : α → List Cell → Prop} (h : DE X e δ μ fun (s : α ⊕ β) μ' => ∃ a, s = .inl a ∧ P a μ') : DE X e δ μ P := fun M σ H E Q q => h M σ H E Q fun x μ' M' v H' p s hh r => by
  obtain ⟨a, rfl, p⟩ := p
  exact q a μ' M' v H' p s hh r
theorem de_inr {P : β → List Cell → Prop} (h : DE X e δ μ fun (s : α ⊕ β) μ' => ∃ b, s = .inr b ∧ P b μ') : DE X e δ μ P := fun M σ H E Q q => h M σ H E Q fun x μ' M' v H' p s hh r => by
  obtain ⟨a, rfl, p⟩ := p
  exact q a μ' M' v H' p s hh r
theorem de_toL {P : α ⊕ β → List Cell → Prop} (h : DE X e δ μ fun (a : α) μ' => P (.inl a) μ') : DE X e δ μ P := fun M σ H E Q q => h M σ H E Q fun x μ' M' v H' p s hh r => q (.inl x) μ' M' v H' p s hh r
theorem de_toR {P : α ⊕ β → List Cell → Prop} (h : DE X e δ μ fun (b : β) μ' => P (.inr b) μ') : DE X e δ μ P := fun M σ H E Q q => h M σ H E Q fun x μ' M' v H' p s hh r => q (.inr x) μ' M' v H' p s hh r
instance [Enc α] [Enc β] [A : Ty α n] [B : Ty β n] : Ty (α ⊕ β) n := ⟨fun {K M H v x} h => by
  cases x with
  | inl a => exact A.ty (x := a) h
  | inr b => exact B.ty (x := b) h⟩
/-- a constant of the module: a tuple of two whole numbers -/
theorem de_globT {x : Str} {a : Addr} {t b : Int} {P : Int × Int → List Cell → Prop} (hm : X.mg x = some (.ref a)) (hs : ∀ H, SqT X.K H a [.int t, .int b]) (q : P (t, b) μ) (hg : Gl X x := by rfl) (hd : (x == ("__debug__" : Str)) = false := by decide) : DE X (.Name x pos) δ μ P :=
  of_pe (pe_glob (v := .ref a) hg hm rfl hd) fun M σ H E Q k => k (t, b) μ M _ H q Ste.refl E.h ⟨a, _, _, rfl, hs H, rfl, rfl⟩
end
/-! ### methods of the text, not yet proved -/
structure DfnM (K : PySem.W.Frag) (C : Addr) (m qual : Str) (st : Stmt) (ps : List Str) : Prop where
  ex : ∃ (f : Addr) (fd : FuncData) (dvs : List V), FunD K m qual (defArgs st) (defBody st) (defScope st) dvs [] f fd ∧ Cls K C ∧ Meth K C m f ∧ Binds K fd ps []
structure DfnI (K : PySem.W.Frag) (mg : Str → Option Value) (x : Str) (C : Addr) (qual : Str) (st : Stmt) (ps : List Str) : Prop where
  ex : ∃ (f : Addr) (fd : FuncData) (dvs : List V), FunD K "__init__" qual (defArgs st) (defBody st) (defScope st) dvs [] f fd ∧ Mk K C f ∧ mg x = some (.ref C) ∧ Binds K fd ps []
section
variable {P : Program} {w : World} {K : PySem.W.Frag} {mg : Str → Option Value} {base : Heap} {ρ : Type} [Enc ρ] {x m qual : Str} {st : Stmt} {ps N : List Str} {Φ : Pm ρ} {k : Nat} {C : Addr}
theorem fnM_ok {dvs : List V} {f : Addr} {fd : FuncData} (F : FunD K m qual (defArgs st) (defBody st) (defScope st) dvs [] f fd) (S : FnScope N ps (defScope st)) (len : ∀ as μ P, Φ as μ P → as.length = ps.length)
    (h : ∀ (f : Addr) (cdv : Value) (A : Around) (outer : List Env) (s : Shared) (H : Hp) (E : XK), Room k (A.deeper (envOfC qual (defScope st) s.heap.objs.size f cdv)) → ∀ as μ Pd, Φ as μ Pd →
      DB (cxD P w K mg base N qual st f cdv A outer s H E) (defBody st) (as ++ List.replicate (N.length - as.length) .any) μ (fun _ μ' => ∃ x : ρ, (∀ K M H, Enc.R K M H .non x) ∧ Pd x μ') Pd (fun _ _ => False) (fun _ _ => False)) :
    FnOk P w K mg base CX0 (k + 1) f fd ps (spO K Φ) := by
  refine F.ok S (fun vs H Q E h => ?_) (fun cdv A outer s H vs Q E hr hsp => ?_)
  · obtain ⟨M, μ, as, Pd, _, r, hp, _⟩ := h
    rw [r.length]; exact len _ _ _ hp
  · obtain ⟨M, μ, as, Pd, hh, r, hp, q⟩ := hsp
    refine ⟨_, (cSs_pss _).nox, h f cdv A outer s H E hr as μ Pd hp M _ H (start_ok hh r) _ (fun δ' μ' M' σ' H' n s' E' => ?_) q (fun _ _ _ _ _ z => z.elim) (fun _ _ _ _ _ z => z.elim)⟩
    obtain ⟨x, hx, p⟩ := n
    exact q x μ' M' .non H' p s' E'.h (hx _ _ _)
theorem DfnM.met (D : DfnM K C m qual st ps) (S : FnScope N ps (defScope st)) (len : ∀ as μ P, Φ as μ P → as.length = ps.length)
    (h : ∀ (f : Addr) (cdv : Value) (A : Around) (outer : List Env) (s : Shared) (H : Hp) (E : XK), Room k (A.deeper (envOfC qual (defScope st) s.heap.objs.size f cdv)) → ∀ as μ Pd, Φ as μ Pd →
      DB (cxD P w K mg base N qual st f cdv A outer s H E) (defBody st) (as ++ List.replicate (N.length - as.length) .any) μ (fun _ μ' => ∃ x : ρ, (∀ K M H, Enc.R K M H .non x) ∧ Pd x μ') Pd (fun _ _ => False) (fun _ _ => False)) :
    MetD P w K mg base C m (k + 1) ps Φ := by
  obtain ⟨f, fd, dvs, F, hc, hm, hb⟩ := D.ex
  exact ⟨f, fd, hc, hm, fnM_ok F S len h, hb⟩
theorem DfnI.mak {Φ : Pm Unit} (D : DfnI K mg x C qual st ps) (S : FnScope N ps (defScope st)) (len : ∀ as μ P, Φ as μ P → as.length = ps.length)
    (h : ∀ (f : Addr) (cdv : Value) (A : Around) (outer : List Env) (s : Shared) (H : Hp) (E : XK), Room k (A.deeper (envOfC qual (defScope st) s.heap.objs.size f cdv)) → ∀ as μ Pd, Φ as μ Pd →
      DB (cxD P w K mg base N qual st f cdv A outer s H E) (defBody st) (as ++ List.replicate (N.length - as.length) .any) μ (fun _ μ' => ∃ x : Unit, (∀ K M H, Enc.R K M H .non x) ∧ Pd x μ') Pd (fun _ _ => False) (fun _ _ => False)) :
    MakD P w K mg base x C (k + 1) ps Φ := by
  obtain ⟨f, fd, dvs, F, hc, hm, hb⟩ := D.ex
  exact ⟨f, fd, hc, fnM_ok F S len h, hm, hb⟩
end
end Dl
namespace Dl
open PySem PySem.Spec PyProof.Rows L2 He
/-! ### the facts of a top, with one more look -/
def obsW (bi : List (Str × String)) (ex : PySem.W.Frag → Bool) (fa : List Fa) (fn : List DefD) (K : PySem.W.Frag) : AlD := ((obsZ bi fa fn K).1 && ex K, (obsZ bi fa fn K).2)
def SaysW (bi : List (Str × String)) (ex : PySem.W.Frag → Bool) (fa : List Fa) (fn : List DefD) (K : PySem.W.Frag) : Prop := obsW bi ex fa fn K = valD fn
def obsWG (n : Nat) (bi : List (Str × String)) (ex : PySem.W.Frag → Bool) (fa : List Fa) (fn : List DefD) (g : Addr → Option Obj) : AlD := obsW bi ex fa fn (frG g (asD g n))
def hookW (n : Nat) (bi : List (Str × String)) (ex : PySem.W.Frag → Bool) (fa : List Fa) (fn : List DefD) : PySem.W.Hook where
  α := AlD
  obs := fun s => obsWG n bi ex fa fn s.heap.get?
  val := fun _ => valD fn
  says := fun _ h => ∃ K : PySem.W.Frag, K.In h ∧ SaysW bi ex fa fn K
  of := fun _ _ e => ⟨_, frG_in, e⟩
  keeps := fun _ _ _ ⟨K, hK, c⟩ k => ⟨K, PySem.W.Frag.In.keeps hK k, c⟩
theorem obsWG_eq {n : Nat} {bi : List (Str × String)} {ex : PySem.W.Frag → Bool} {fa : List Fa} {fn : List DefD} {g : Addr → Option Obj} {s : Shared} (h : ∀ a, g a = s.heap.get? a) : obsWG n bi ex fa fn g = (hookW n bi ex fa fn).obs s := by
  have e : g = s.heap.get? := funext h
  rw [e] <;> rfl
section
variable {bi : List (Str × String)} {ex : PySem.W.Frag → Bool} {fa : List Fa} {fn : List DefD} {K : PySem.W.Frag}
theorem SaysW.z (c : SaysW bi ex fa fn K) : SaysZ bi fa fn K := by
  have h1 : ((obsZ bi fa fn K).1 && ex K) = true := congrArg (fun z : AlD => z.1) c
  have h2 : (obsZ bi fa fn K).2 = fn.map DefD.val := congrArg (fun z : AlD => z.2) c
  exact Prod.ext (ba h1).1 h2
theorem SaysW.xt (c : SaysW bi ex fa fn K) : ex K = true := by
  have h1 : ((obsZ bi fa fn K).1 && ex K) = true := congrArg (fun z : AlD => z.1) c
  exact (ba h1).2
end
end Dl
namespace Dl
/-! ### more sums -/
theorem Sm_ite {n i : Nat} {A : Rat} {f : Nat → Rat} (hi : i < n) : Sm n (fun k => if k = i then A else f k) = Sm n f - f i + A := by
  induction n with
  | zero => omega
  | succ n ih =>
    show Sm n (fun k => if k = i then A else f k) + (if n = i then A else f n) = (Sm n f + f n) - f i + A
    by_cases e : n = i
    · subst e
      rw [if_pos rfl, Sm_eq (g := f) fun k hk => if_neg (by omega)]
      grind
    · rw [if_neg e, ih (by omega)]
      grind
theorem Sm_one {n i : Nat} {f : Nat → Rat} (hi : i < n) : Sm n (fun k => if k = i then f k else 0) = f i := by
  rw [Sm_eq (g := fun k => if k = i then f i else 0) fun k _ => by
    by_cases e : k = i
    · rw [if_pos e, if_pos e, e]
    · rw [if_neg e, if_neg e], Sm_ite hi, Sm_zero]
  grind
theorem Sm_oneL {n i : Nat} {f : Nat → Rat} (hi : i < n) : Sm n (fun k => f k * (if k = i then 1 else 0)) = f i := by
  rw [← Sm_one (f := f) hi]
  exact Sm_eq fun k _ => by split <;> grind
theorem Sm_oneR {n i : Nat} {f : Nat → Rat} (hi : i < n) : Sm n (fun k => f k * (if i = k then 1 else 0)) = f i := by
  rw [← Sm_one (f := f) hi]
  exact Sm_eq fun k _ => by split <;> split <;> first | grind | omega
theorem Sm_sub {n : Nat} {f g : Nat → Rat} : Sm n (fun k => f k - g k) = Sm n f - Sm n g := by
  have := Sm_add (n := n) (f := fun k => f k - g k) (g := g)
  rw [Sm_eq (g := f) fun k _ => by grind] at this
  grind
theorem Sm_le0 {n : Nat} {f : Nat → Rat} (h : ∀ k, k < n → f k ≤ 0) : Sm n f ≤ 0 := by
  have := Sm_le (g := fun _ => 0) h
  rw [Sm_zero] at this
  exact this
theorem Sm_ge0 {n : Nat} {f : Nat → Rat} (h : ∀ k, k < n → 0 ≤ f k) : 0 ≤ Sm n f := by
  have := Sm_le (f := fun _ => 0) h
  rw [Sm_zero] at this
  exact this
theorem rat_le_of_mul {a b c : Rat} (hc : 0 < c) (h : a * c ≤ b * c) : a ≤ b := by
  refine Rat.not_lt.mp fun z => ?_
  have := (Rat.mul_lt_mul_right hc).mpr z
  grind
theorem rat_div_nn {a b : Rat} (ha : 0 ≤ a) (hb : 0 < b) : 0 ≤ a / b := by
  refine rat_le_of_mul hb ?_
  have : a / b * b = a := by grind
  grind
/-! ### linear programs -/
structure LP where
  n : Nat
  m : Nat
  a : Nat → Nat → Rat
  b : Nat → Rat
  l : Nat → Rat
  u : Nat → Rat
  g : Nat → Rat
structure SS where
  B : Nat → Nat
  x : Nat → Rat
  L : Nat → Nat → Rat
namespace LP
variable (p : LP)
def N : Nat := p.m + p.n + p.n
def col (c j : Nat) : Rat := if c < p.m then p.a c j else if c < p.m + p.n then (if c - p.m = j then 1 else 0) else (if c - p.m - p.n = j then -1 else 0)
def cst (c : Nat) : Rat := if c < p.m then p.b c else if c < p.m + p.n then p.l (c - p.m) else -(p.u (c - p.m - p.n))
def v (s : SS) (j : Nat) : Rat := Sm p.n fun k => p.cst (s.B k) * s.L k j
def sh (s : SS) (c k : Nat) : Rat := Sm p.n fun j => s.L k j * p.col c j
def dv (s : SS) (c : Nat) : Rat := Sm p.n fun j => p.v s j * p.col c j
def rc (s : SS) (c : Nat) : Rat := p.cst c - p.dv s c
structure Inv (s : SS) : Prop where
  bd : ∀ k, k < p.n → s.B k < p.N
  i1 : ∀ i k, i < p.n → k < p.n → Sm p.n (fun j => s.L i j * p.col (s.B k) j) = if i = k then 1 else 0
  i2 : ∀ j j', j < p.n → j' < p.n → Sm p.n (fun k => s.L k j * p.col (s.B k) j') = if j = j' then 1 else 0
  i3 : ∀ j, j < p.n → Sm p.n (fun k => s.x k * p.col (s.B k) j) = p.g j
  nn : ∀ k, k < p.n → 0 ≤ s.x k
def ex (s : SS) (i q : Nat) : SS :=
  ⟨fun k => if k = i then q else s.B k, fun k => if k = i then s.x i / p.sh s q i else s.x k - p.sh s q k * (s.x i / p.sh s q i),
   fun k j => if k = i then s.L i j / p.sh s q i else s.L k j - p.sh s q k * (s.L i j / p.sh s q i)⟩
structure Step (s : SS) (i q : Nat) : Prop where
  hi : i < p.n
  hq : q < p.N
  ent : 0 < p.rc s q
  fst : ∀ c, c < q → p.rc s c ≤ 0
  pos : 0 < p.sh s q i
  rat : ∀ k, k < p.n → 0 < p.sh s q k → s.x i * p.sh s q k < s.x k * p.sh s q i ∨ (s.x i * p.sh s q k = s.x k * p.sh s q i ∧ s.B i ≤ s.B k)
variable {p} {s : SS} {i q : Nat}
theorem Inv.scol (h : p.Inv s) (c : Nat) {j : Nat} (hj : j < p.n) : Sm p.n (fun k => p.sh s c k * p.col (s.B k) j) = p.col c j := by
  rw [show (fun k => p.sh s c k * p.col (s.B k) j) = fun k => Sm p.n (fun j' => s.L k j' * p.col c j' * p.col (s.B k) j) from funext fun k => Sm_mulr.symm, ← Sm_swap]
  rw [Sm_eq (g := fun j' => p.col c j' * (if j' = j then 1 else 0)) fun j' hj' => by
    rw [← h.i2 j' j hj' hj, ← Sm_mull]
    exact Sm_eq fun k _ => by grind]
  exact Sm_oneL hj
theorem Inv.scst (h : p.Inv s) (c : Nat) : Sm p.n (fun k => p.sh s c k * p.cst (s.B k)) = p.dv s c := by
  unfold dv v
  rw [show (fun k => p.sh s c k * p.cst (s.B k)) = fun k => Sm p.n (fun j' => s.L k j' * p.col c j' * p.cst (s.B k)) from funext fun k => Sm_mulr.symm, ← Sm_swap]
  refine Sm_eq fun j _ => ?_
  rw [← Sm_mulr]
  exact Sm_eq fun k _ => by grind
theorem Inv.tight (h : p.Inv s) {k : Nat} (hk : k < p.n) : p.dv s (s.B k) = p.cst (s.B k) := by
  rw [← h.scst]
  rw [Sm_eq (g := fun i => p.cst (s.B i) * (if i = k then 1 else 0)) fun i hi => by
    rw [← h.i1 i k hi hk]; unfold sh; grind]
  exact Sm_oneL (f := fun i => p.cst (s.B i)) hk
theorem Inv.rc0 (h : p.Inv s) {k : Nat} (hk : k < p.n) : p.rc s (s.B k) = 0 := by
  unfold rc
  rw [h.tight hk]; grind
theorem Inv.inj (h : p.Inv s) {i k : Nat} (hi : i < p.n) (hk : k < p.n) (e : s.B i = s.B k) : i = k := by
  have a := h.i1 i k hi hk
  rw [← e, h.i1 i i hi hi, if_pos rfl] at a
  by_cases c : i = k
  · exact c
  · rw [if_neg c] at a; exact absurd a (by decide)
/-- what a change of the basis does to a sum over it -/
theorem ex_sum {n i q : Nat} {B : Nat → Nat} {y s : Nat → Rat} {F : Nat → Rat} (hi : i < n) (hs : s i ≠ 0) :
    Sm n (fun k => (if k = i then y i / s i else y k - s k * (y i / s i)) * F (if k = i then q else B k)) = Sm n (fun k => y k * F (B k)) + (y i / s i) * (F q - Sm n (fun k => s k * F (B k))) := by
  have ht : y i / s i * s i = y i := by grind
  generalize y i / s i = t at ht
  rw [Sm_eq (g := fun k => if k = i then t * F q else (y k * F (B k) - t * (s k * F (B k)))) fun k _ => by
    split
    · rfl
    · grind]
  rw [Sm_ite hi, Sm_sub, Sm_mull]
  grind
theorem Inv.ex_inv (h : p.Inv s) (t : p.Step s i q) : p.Inv (p.ex s i q) := by
  have hs : p.sh s q i ≠ 0 := by have := t.pos; grind
  have hi := t.hi
  refine ⟨fun k hk => ?_, fun k k' hk hk' => ?_, fun j j' hj hj' => ?_, fun j hj => ?_, fun k hk => ?_⟩
  · show (if k = i then q else s.B k) < p.N
    split
    · exact t.hq
    · exact h.bd k hk
  · have e : ∀ k, k < p.n → Sm p.n (fun j => s.L k j * p.col (if k' = i then q else s.B k') j) = if k' = i then p.sh s q k else if k = k' then 1 else 0 := fun k hk => by
      split
      · rfl
      · exact h.i1 k k' hk hk'
    show Sm p.n (fun j => (if k = i then s.L i j / p.sh s q i else s.L k j - p.sh s q k * (s.L i j / p.sh s q i)) * p.col (if k' = i then q else s.B k') j) = _
    by_cases ek : k = i
    · rw [Sm_eq (g := fun j => (1 / p.sh s q i) * (s.L i j * p.col (if k' = i then q else s.B k') j)) fun j _ => by rw [if_pos ek]; grind, Sm_mull, e i hi]
      subst ek
      split
      · rename_i c; rw [if_pos c.symm]; grind
      · rename_i c
        rw [if_neg (fun z => c z.symm)]; grind
    · rw [Sm_eq (g := fun j => s.L k j * p.col (if k' = i then q else s.B k') j - (p.sh s q k / p.sh s q i) * (s.L i j * p.col (if k' = i then q else s.B k') j)) fun j _ => by rw [if_neg ek]; grind, Sm_sub, Sm_mull, e i hi, e k hk]
      split
      · rename_i c
        rw [if_neg (fun z => ek (z.trans c))]; grind
      · rename_i c
        rw [if_neg (c := i = k') (fun z => c z.symm)]; grind
  · have := ex_sum (n := p.n) (B := s.B) (q := q) (y := fun k => s.L k j) (s := p.sh s q) (F := fun c => p.col c j') hi hs
    refine this.trans ?_
    rw [h.scol q hj', h.i2 j j' hj hj']; grind
  · have := ex_sum (n := p.n) (B := s.B) (q := q) (y := s.x) (s := p.sh s q) (F := fun c => p.col c j) hi hs
    refine this.trans ?_
    rw [h.scol q hj, h.i3 j hj]; grind
  · have hp := t.pos
    have x0 : 0 ≤ s.x i / p.sh s q i := rat_div_nn (h.nn i hi) hp
    show 0 ≤ if k = i then s.x i / p.sh s q i else s.x k - p.sh s q k * (s.x i / p.sh s q i)
    split
    · exact x0
    · by_cases c : 0 < p.sh s q k
      · have r : s.x i * p.sh s q k ≤ s.x k * p.sh s q i := by rcases t.rat k hk c with r | r <;> grind
        have e : s.x i / p.sh s q i * p.sh s q i = s.x i := by grind
        generalize s.x i / p.sh s q i = z at e x0
        have : (p.sh s q k * z) * p.sh s q i ≤ s.x k * p.sh s q i := by rw [← e] at r; grind
        have := rat_le_of_mul hp this
        grind
      · have a := h.nn k hk
        have : 0 ≤ (- p.sh s q k) * (s.x i / p.sh s q i) := Rat.mul_nonneg (by grind) x0
        grind
/-- the worth of the basis -/
def z (p : LP) (s : SS) : Rat := Sm p.n fun k => s.x k * p.cst (s.B k)
theorem Inv.ex_z (h : p.Inv s) (t : p.Step s i q) : p.z (p.ex s i q) = p.z s + (s.x i / p.sh s q i) * p.rc s q := by
  have hs : p.sh s q i ≠ 0 := by have := t.pos; grind
  have := ex_sum (n := p.n) (B := s.B) (q := q) (y := s.x) (s := p.sh s q) (F := p.cst) t.hi hs
  refine this.trans ?_
  rw [h.scst q]; rfl
theorem Inv.z_gv (h : p.Inv s) : p.z s = Sm p.n fun j => p.g j * p.v s j := by
  rw [Sm_eq (g := fun j => Sm p.n (fun k => s.x k * p.col (s.B k) j) * p.v s j) fun j hj => by rw [h.i3 j hj]]
  rw [show (fun j => Sm p.n (fun k => s.x k * p.col (s.B k) j) * p.v s j) = fun j => Sm p.n (fun k => s.x k * p.col (s.B k) j * p.v s j) from funext fun j => Sm_mulr.symm, Sm_swap]
  refine Sm_eq fun k hk => ?_
  rw [← h.tight hk]
  unfold dv
  rw [← Sm_mull]
  exact Sm_eq fun j _ => by grind
end LP
end Dl
namespace Dl
theorem pigeon : ∀ (K : Nat) (c : Nat → Nat), (∀ t, t ≤ K → c t < K) → ∃ s t, s < t ∧ t ≤ K ∧ c s = c t
  | 0, c, h => absurd (h 0 (Nat.le_refl _)) (by omega)
  | K + 1, c, h => by
    by_cases e : ∃ t, t ≤ K ∧ c t = c (K + 1)
    · obtain ⟨t, ht, e⟩ := e
      exact ⟨t, K + 1, by omega, Nat.le_refl _, e⟩
    · have ne : ∀ t, t ≤ K → c t ≠ c (K + 1) := fun t ht z => e ⟨t, ht, z⟩
      obtain ⟨s, t, hst, ht, q⟩ := pigeon K (fun t => if c t = K then c (K + 1) else c t) fun t ht => by
        have a := h t (by omega)
        have b := h (K + 1) (by omega)
        have d := ne t ht
        show (if c t = K then c (K + 1) else c t) < K
        split <;> omega
      refine ⟨s, t, hst, by omega, ?_⟩
      have d1 := ne s (by omega)
      have d2 := ne t ht
      have q : (if c s = K then c (K + 1) else c s) = (if c t = K then c (K + 1) else c t) := q
      split at q <;> split at q <;> omega
def cod (N : Nat) (B : Nat → Nat) : Nat → Nat
  | 0 => 0
  | k + 1 => cod N B k * N + B k
theorem cod_lt {N : Nat} {B : Nat → Nat} : ∀ {n : Nat}, (∀ k, k < n → B k < N) → cod N B n < N ^ n
  | 0, _ => by show 0 < N ^ 0; rw [Nat.pow_zero]; exact Nat.one_pos
  | n + 1, h => by
    have a := cod_lt (n := n) fun k hk => h k (by omega)
    have b := h n (by omega)
    show cod N B n * N + B n < N ^ n * N
    have : (cod N B n + 1) * N ≤ N ^ n * N := Nat.mul_le_mul_right _ a
    rw [Nat.succ_mul] at this
    omega
theorem cod_inj {N : Nat} {B B' : Nat → Nat} : ∀ {n : Nat}, (∀ k, k < n → B k < N) → (∀ k, k < n → B' k < N) → cod N B n = cod N B' n → ∀ k, k < n → B k = B' k
  | 0, _, _, _ => fun k hk => absurd hk (by omega)
  | n + 1, h, h', e => by
    have b := h n (by omega)
    have b' := h' n (by omega)
    have e : cod N B n * N + B n = cod N B' n * N + B' n := e
    have m1 : (cod N B n * N + B n) % N = B n := by rw [Nat.mul_add_mod_self_right]; exact Nat.mod_eq_of_lt b
    have m2 : (cod N B' n * N + B' n) % N = B' n := by rw [Nat.mul_add_mod_self_right]; exact Nat.mod_eq_of_lt b'
    have e1 : B n = B' n := by rw [← m1, ← m2, e]
    have e2 : cod N B n = cod N B' n := by
      rw [e1] at e
      exact Nat.eq_of_mul_eq_mul_right (by omega : 0 < N) (Nat.add_right_cancel e)
    intro k hk
    by_cases c : k = n
    · rw [c]; exact e1
    · exact cod_inj (n := n) (fun k hk => h k (by omega)) (fun k hk => h' k (by omega)) e2 k (by omega)
namespace LP
/-- T changes of the basis, one behind the other -/
structure Run (p : LP) (f : Nat → SS) (pi pq : Nat → Nat) (T : Nat) : Prop where
  i0 : p.Inv (f 0)
  st : ∀ t, t < T → p.Step (f t) (pi t) (pq t)
  nx : ∀ t, t < T → f (t + 1) = p.ex (f t) (pi t) (pq t)
variable {p : LP} {f : Nat → SS} {pi pq : Nat → Nat} {T : Nat}
theorem Run.inv (r : p.Run f pi pq T) : ∀ t, t ≤ T → p.Inv (f t)
  | 0, _ => r.i0
  | t + 1, h => by
    rw [r.nx t (by omega)]
    exact (r.inv t (by omega)).ex_inv (r.st t (by omega))
theorem Run.z_le (r : p.Run f pi pq T) {t : Nat} (h : t < T) : p.z (f t) ≤ p.z (f (t + 1)) ∧ (p.z (f t) = p.z (f (t + 1)) → (f t).x (pi t) = 0) := by
  have s := r.st t h
  have i := r.inv t (by omega)
  rw [r.nx t h, i.ex_z s]
  have a := i.nn _ s.hi
  have x0 : 0 ≤ (f t).x (pi t) / p.sh (f t) (pq t) (pi t) := rat_div_nn a s.pos
  have e : (f t).x (pi t) / p.sh (f t) (pq t) (pi t) * p.sh (f t) (pq t) (pi t) = (f t).x (pi t) := by have := s.pos; grind
  have b := s.ent
  generalize (f t).x (pi t) / p.sh (f t) (pq t) (pi t) = y at x0 e
  have c : 0 ≤ y * p.rc (f t) (pq t) := Rat.mul_nonneg x0 (by grind)
  refine ⟨by grind, fun z => ?_⟩
  have : y * p.rc (f t) (pq t) = 0 := by grind
  rcases Rat.mul_eq_zero.mp this with h | h
  · rw [← e, h]; grind
  · grind
theorem Run.z_mono (r : p.Run f pi pq T) {s : Nat} : ∀ t, s ≤ t → t ≤ T → p.z (f s) ≤ p.z (f t)
  | 0, h, _ => by rw [Nat.le_zero.mp h]; exact Rat.le_refl
  | t + 1, h, h' => by
    by_cases e : s = t + 1
    · rw [e]; exact Rat.le_refl
    · exact Rat.le_trans (r.z_mono t (by omega) (by omega)) (r.z_le (by omega)).1
/-- where nothing is won, the amounts stay by their places -/
theorem Run.still (r : p.Run f pi pq T) {s e : Nat} (hs : s ≤ e) (he : e ≤ T) (hz : p.z (f s) = p.z (f e)) :
    (∀ t, s ≤ t → t < e → (f t).x (pi t) = 0) ∧ ∀ t, s ≤ t → t ≤ e → ∀ k, (f t).x k = (f s).x k := by
  have hx : ∀ t, s ≤ t → t < e → (f t).x (pi t) = 0 := fun t h1 h2 => by
    have a := r.z_mono t h1 (by omega)
    have b := r.z_mono (s := t + 1) e (by omega) he
    have c := r.z_le (t := t) (by omega)
    exact c.2 (by grind)
  refine ⟨hx, fun t => ?_⟩
  induction t with
  | zero => intro h1 _ k; rw [Nat.le_zero.mp h1]
  | succ t ih =>
    intro h1 h2 k
    by_cases c : s = t + 1
    · rw [c]
    · rw [← ih (by omega) (by omega) k, r.nx t (by omega)]
      have z := hx t (by omega) (by omega)
      show (if k = pi t then (f t).x (pi t) / _ else (f t).x k - _ * ((f t).x (pi t) / _)) = _
      split
      · rename_i q; rw [q, z]; grind
      · rw [z]; grind
theorem Run.B_next (r : p.Run f pi pq T) {t : Nat} (h : t < T) (k : Nat) : (f (t + 1)).B k = if k = pi t then pq t else (f t).B k := by
  rw [r.nx t h]; rfl
/-- a column that is gone has left -/
theorem Run.left (r : p.Run f pi pq T) {k c : Nat} {t1 : Nat} (h1 : (f t1).B k = c) : ∀ t2, t1 ≤ t2 → t2 ≤ T → (f t2).B k ≠ c → ∃ t, t1 ≤ t ∧ t < t2 ∧ pi t = k ∧ (f t).B k = c
  | 0, h, _, h2 => by rw [Nat.le_zero.mp h] at h1; exact absurd h1 h2
  | t + 1, h, hT, h2 => by
    by_cases e : t1 = t + 1
    · rw [e] at h1; exact absurd h1 h2
    · by_cases q : (f t).B k = c
      · refine ⟨t, by omega, by omega, ?_, q⟩
        rw [r.B_next (by omega)] at h2
        split at h2
        · rename_i z; exact z.symm
        · exact absurd q h2
      · obtain ⟨t', a, b, c', d⟩ := r.left h1 t (by omega) (by omega) q
        exact ⟨t', a, by omega, c', d⟩
/-- a column that is there has come -/
theorem Run.came (r : p.Run f pi pq T) {k c : Nat} {t1 : Nat} (h1 : (f t1).B k ≠ c) : ∀ t2, t1 ≤ t2 → t2 ≤ T → (f t2).B k = c → ∃ t, t1 ≤ t ∧ t < t2 ∧ pi t = k ∧ pq t = c
  | 0, h, _, h2 => by rw [Nat.le_zero.mp h] at h1; exact absurd h2 h1
  | t + 1, h, hT, h2 => by
    by_cases e : t1 = t + 1
    · rw [e] at h1; exact absurd h2 h1
    · by_cases q : (f t).B k = c
      · obtain ⟨t', a, b, c', d⟩ := r.came h1 t (by omega) (by omega) q
        exact ⟨t', a, by omega, c', d⟩
      · rw [r.B_next (by omega)] at h2
        split at h2
        · rename_i z; exact ⟨t, by omega, by omega, z.symm, h2⟩
        · exact absurd h2 q
theorem Step.out {s : SS} {i q : Nat} (t : p.Step s i q) (h : p.Inv s) {k : Nat} (hk : k < p.n) : s.B k ≠ q := fun e => by
  have a := h.rc0 hk
  have b := t.ent
  rw [e] at a
  grind
theorem max_at : ∀ (c : Nat → Nat) (s e : Nat), s < e → ∃ t, s ≤ t ∧ t < e ∧ ∀ t', s ≤ t' → t' < e → c t' ≤ c t
  | c, s, 0, h => absurd h (by omega)
  | c, s, e + 1, h => by
    by_cases q : s = e
    · exact ⟨s, Nat.le_refl _, h, fun t' a b => by rw [show t' = s by omega]; exact Nat.le_refl _⟩
    · obtain ⟨t, a, b, m⟩ := max_at c s e (by omega)
      by_cases d : c t ≤ c e
      · refine ⟨e, by omega, by omega, fun t' h1 h2 => ?_⟩
        by_cases z : t' = e
        · rw [z]; exact Nat.le_refl _
        · exact Nat.le_trans (m t' h1 (by omega)) d
      · refine ⟨t, a, by omega, fun t' h1 h2 => ?_⟩
        by_cases z : t' = e
        · rw [z]; omega
        · exact m t' h1 (by omega)
/-- no basis comes again -/
theorem Run.fresh (r : p.Run f pi pq T) {s e : Nat} (hse : s < e) (he : e ≤ T) (hB : ∀ k, k < p.n → (f s).B k = (f e).B k) : False := by
  have Is := r.inv s (by omega)
  have Ie := r.inv e he
  have hx : ∀ k, k < p.n → (f s).x k = (f e).x k := fun k hk => by
    have e1 : ∀ (t : SS), p.Inv t → (∀ i, i < p.n → t.B i = (f s).B i) → Sm p.n (fun j => (f s).L k j * p.g j) = t.x k := fun t ht hb => by
      rw [Sm_eq (g := fun j => Sm p.n (fun i => (f s).L k j * (t.x i * p.col (t.B i) j))) fun j hj => by rw [← ht.i3 j hj, ← Sm_mull], Sm_swap]
      rw [Sm_eq (g := fun i => t.x i * (if k = i then 1 else 0)) fun i hi => by
        rw [← Is.i1 k i hk hi, ← Sm_mull]
        refine Sm_eq fun j _ => ?_
        rw [hb i hi]; grind]
      exact Sm_oneR hk
    rw [← e1 (f s) Is fun _ _ => rfl, e1 (f e) Ie fun i hi => (hB i hi).symm]
  have hz : p.z (f s) = p.z (f e) := Sm_eq fun k hk => by rw [hx k hk, hB k hk]
  obtain ⟨z0, zx⟩ := r.still (by omega) he hz
  obtain ⟨t', a1, a2, mx⟩ := max_at pq s e hse
  have St' := r.st t' (by omega)
  have It' := r.inv t' (by omega)
  have hi' := St'.hi
  obtain ⟨t, b1, b2, b3, b4⟩ : ∃ t, s ≤ t ∧ t < e ∧ pi t = pi t' ∧ (f t).B (pi t') = pq t' := by
    by_cases q : (f e).B (pi t') = pq t'
    · obtain ⟨t, c1, c2, c3, c4⟩ := r.left (k := pi t') (c := pq t') (t1 := s) ((hB _ hi').trans q) t' a1 (by omega) (St'.out It' hi')
      exact ⟨t, c1, by omega, c3, c4⟩
    · obtain ⟨t, c1, c2, c3, c4⟩ := r.left (k := pi t') (c := pq t') (t1 := t' + 1) (by rw [r.B_next (by omega), if_pos rfl]) e (by omega) he q
      exact ⟨t, by omega, c2, c3, c4⟩
  have St := r.st t (by omega)
  have It := r.inv t (by omega)
  have lv : (f t).B (pi t) = pq t' := by rw [b3]; exact b4
  have fick : ∀ k, k < p.n → (f t).B k ≠ (f t').B k → (f t).x k = 0 ∧ (f t).B k ≤ pq t' := fun k hk ne => by
    have piv : ∃ τ, s ≤ τ ∧ τ < e ∧ pi τ = k := by
      rcases Nat.le_total t t' with h | h
      · obtain ⟨τ, c1, c2, c3, _⟩ := r.left (k := k) (c := (f t).B k) (t1 := t) rfl t' h (by omega) (fun z => ne z.symm)
        exact ⟨τ, by omega, by omega, c3⟩
      · obtain ⟨τ, c1, c2, c3, _⟩ := r.left (k := k) (c := (f t').B k) (t1 := t') rfl t h (by omega) ne
        exact ⟨τ, by omega, by omega, c3⟩
    refine ⟨?_, ?_⟩
    · obtain ⟨τ, c1, c2, c3⟩ := piv
      rw [zx t b1 (by omega), ← zx τ c1 (by omega), ← c3]
      exact z0 τ c1 c2
    · -- it comes at some time
      have came : ∃ τ, s ≤ τ ∧ τ < e ∧ pq τ = (f t).B k := by
        by_cases q : (f s).B k = (f t).B k
        · -- at the end it is there again; it was gone at t' or between
          have gone : ∃ τ, s ≤ τ ∧ τ ≤ e ∧ (f τ).B k ≠ (f t).B k := ⟨t', a1, by omega, fun z => ne z.symm⟩
          obtain ⟨τ, c1, c2, c3⟩ := gone
          obtain ⟨τ', d1, d2, _, d4⟩ := r.came (k := k) (c := (f t).B k) (t1 := τ) c3 e c2 he ((hB k hk).symm.trans q)
          exact ⟨τ', by omega, d2, d4⟩
        · obtain ⟨τ', d1, d2, _, d4⟩ := r.came (k := k) (c := (f t).B k) (t1 := s) q t b1 (by omega) rfl
          exact ⟨τ', by omega, by omega, d4⟩
      obtain ⟨τ, c1, c2, c3⟩ := came
      rw [← c3]; exact mx τ c1 c2
  have e1 : p.rc (f t') (pq t) - Sm p.n (fun k => p.sh (f t) (pq t) k * p.rc (f t') ((f t).B k)) = p.rc (f t) (pq t) := by
    have h1 := It.scst (pq t)
    have h2 : Sm p.n (fun k => p.sh (f t) (pq t) k * p.dv (f t') ((f t).B k)) = p.dv (f t') (pq t) := by
      unfold dv
      rw [Sm_eq (g := fun k => Sm p.n (fun j => p.sh (f t) (pq t) k * (p.v (f t') j * p.col ((f t).B k) j))) fun k _ => by rw [← Sm_mull], Sm_swap (f := fun j k => p.sh (f t) (pq t) k * (p.v (f t') j * p.col ((f t).B k) j))]
      refine Sm_eq fun j hj => ?_
      rw [← It.scol (pq t) hj, ← Sm_mull]
      exact Sm_eq fun k _ => by grind
    have h3 : Sm p.n (fun k => p.sh (f t) (pq t) k * p.rc (f t') ((f t).B k)) = p.dv (f t) (pq t) - p.dv (f t') (pq t) := by
      rw [← h1, ← h2, ← Sm_sub]
      refine Sm_eq fun k _ => ?_
      unfold rc; grind
    rw [h3]
    unfold rc; grind
  have q1 : pq t ≤ pq t' := mx t b1 b2
  have q2 : pq t ≠ pq t' := fun z => St.out It St.hi (lv.trans z.symm)
  have d1 : p.rc (f t') (pq t) ≤ 0 := St'.fst _ (by omega)
  have d2 : 0 ≤ Sm p.n (fun k => p.sh (f t) (pq t) k * p.rc (f t') ((f t).B k)) := Sm_ge0 fun k hk => by
    by_cases c : (f t).B k = (f t').B k
    · rw [c, It'.rc0 hk]; grind
    · obtain ⟨g1, g2⟩ := fick k hk c
      by_cases w : (f t).B k = pq t'
      · have ek : k = pi t := It.inj hk St.hi (w.trans lv.symm)
        have a := St.pos
        have b := St'.ent
        rw [w, ek]
        exact Rat.mul_nonneg (by grind) (by grind)
      · have g3 : p.rc (f t') ((f t).B k) ≤ 0 := St'.fst _ (by omega)
        have g4 : p.sh (f t) (pq t) k ≤ 0 := Rat.not_lt.mp fun z => by
          have h0 := z0 t b1 b2
          rcases St.rat k hk z with h | h
          · rw [h0, g1] at h; grind
          · have := h.2
            rw [lv] at this
            omega
        have := Rat.mul_nonneg (a := - p.sh (f t) (pq t) k) (b := - p.rc (f t') ((f t).B k)) (by grind) (by grind)
        grind
  have d3 := St.ent
  grind
/-- it ends -/
theorem Run.ends (r : p.Run f pi pq T) : T < p.N ^ p.n := Nat.lt_of_not_le fun h => by
  obtain ⟨s, t, h1, h2, h3⟩ := pigeon (p.N ^ p.n) (fun t => cod p.N (f t).B p.n) fun t ht => cod_lt (r.inv t (by omega)).bd
  exact r.fresh h1 (by omega) (cod_inj (r.inv s (by omega)).bd (r.inv t (by omega)).bd h3)
end LP
end Dl
namespace Dl
/-! ### alternating sums -/
abbrev CS := Nat → Bool
def del (S : CS) (a : Nat) : CS := fun j => S j && !decide (j = a)
def sg (S : CS) : Nat → Rat
  | 0 => 1
  | j + 1 => if S j = true then - sg S j else sg S j
def Wd (n : Nat) : List (Nat → Rat) → CS → Rat
  | [], _ => 1
  | r :: rs, S => Sm n fun j => if S j = true then sg S j * (r j * Wd n rs (del S j)) else 0
theorem sg_del {S : CS} {a : Nat} : ∀ {j : Nat}, sg (del S a) j = if a < j ∧ S a = true then - sg S j else sg S j
  | 0 => by rw [if_neg (fun h => absurd h.1 (by omega))]; rfl
  | j + 1 => by
    have ih := sg_del (S := S) (a := a) (j := j)
    show (if (S j && !decide (j = a)) = true then - sg (del S a) j else sg (del S a) j) = if a < j + 1 ∧ S a = true then - (if S j = true then - sg S j else sg S j) else (if S j = true then - sg S j else sg S j)
    rw [ih]
    by_cases e : j = a
    · subst e
      have : ¬ (j < j ∧ S j = true) := fun h => absurd h.1 (by omega)
      rw [if_neg this]
      by_cases c : S j = true
      · simp [c]
      · simp [c]
    · have this : (a < j + 1 ∧ S a = true) ↔ (a < j ∧ S a = true) := ⟨fun h => ⟨by omega, h.2⟩, fun h => ⟨by omega, h.2⟩⟩
      by_cases d : a < j ∧ S a = true
      · rw [if_pos d, if_pos (this.mpr d)]
        by_cases c : S j = true <;> simp [c, e]
      · rw [if_neg d, if_neg (fun z => d (this.mp z))]
        by_cases c : S j = true <;> simp [c, e]
theorem del_comm {S : CS} {a b : Nat} : del (del S a) b = del (del S b) a := by
  funext j
  show ((S j && _) && _) = ((S j && _) && _)
  rw [Bool.and_assoc, Bool.and_assoc, Bool.and_comm (!decide (j = a))]
theorem W_congr {n : Nat} : ∀ {l l' : List (Nat → Rat)} {S : CS}, l.length = l'.length → (∀ (k : Nat) (r r' : Nat → Rat), l[k]? = some r → l'[k]? = some r' → ∀ j, j < n → r j = r' j) → Wd n l S = Wd n l' S
  | [], [], _, _, _ => rfl
  | [], _ :: _, _, h, _ => by cases h
  | _ :: _, [], _, h, _ => by cases h
  | r :: l, r' :: l', S, h, q => Sm_eq fun j hj => by
    have e := q 0 r r' rfl rfl j hj
    have ih := W_congr (l := l) (l' := l') (S := del S j) (Nat.succ.inj h) fun k a b h1 h2 => q (k + 1) a b (by simpa using h1) (by simpa using h2)
    rw [e, ih]
theorem W_headS {n m : Nat} {c : Nat → Rat} {R : Nat → Nat → Rat} {rs : List (Nat → Rat)} {S : CS} : Wd n ((fun j => Sm m fun k => c k * R k j) :: rs) S = Sm m fun k => c k * Wd n (R k :: rs) S := by
  show Sm n _ = Sm m fun k => c k * Sm n _
  rw [Sm_eq (n := m) (g := fun k => Sm n fun j => c k * (if S j = true then sg S j * (R k j * Wd n rs (del S j)) else 0)) fun k _ => Sm_mull.symm, ← Sm_swap]
  refine Sm_eq fun j _ => ?_
  by_cases h : S j = true
  · rw [if_pos h]
    rw [Sm_eq (n := m) (g := fun k => (sg S j * Wd n rs (del S j)) * (c k * R k j)) fun k _ => by rw [if_pos h]; grind, Sm_mull]
    grind
  · rw [if_neg h]
    rw [Sm_eq (n := m) (g := fun _ => 0) fun k _ => by rw [if_neg h]; grind, Sm_zero]
theorem W_set {n m : Nat} {c : Nat → Rat} {R : Nat → Nat → Rat} : ∀ {l : List (Nat → Rat)} {i : Nat} {S : CS}, i < l.length → Wd n (l.set i fun j => Sm m fun k => c k * R k j) S = Sm m fun k => c k * Wd n (l.set i (R k)) S
  | [], i, _, h => absurd h (Nat.not_lt_zero _)
  | r :: l, 0, S, _ => W_headS
  | r :: l, i + 1, S, h => by
    have ih := fun j => W_set (n := n) (m := m) (c := c) (R := R) (l := l) (i := i) (S := del S j) (Nat.lt_of_succ_lt_succ h)
    show Sm n (fun j => if S j = true then sg S j * (r j * Wd n (l.set i _) (del S j)) else 0) = Sm m fun k => c k * Sm n (fun j => if S j = true then sg S j * (r j * Wd n (l.set i (R k)) (del S j)) else 0)
    rw [Sm_eq (n := m) (g := fun k => Sm n fun j => c k * (if S j = true then sg S j * (r j * Wd n (l.set i (R k)) (del S j)) else 0)) fun k _ => Sm_mull.symm, ← Sm_swap]
    refine Sm_eq fun j _ => ?_
    by_cases q : S j = true
    · rw [if_pos q, ih j, ← Sm_mull, ← Sm_mull]
      refine Sm_eq fun k _ => ?_
      rw [if_pos q]; grind
    · rw [if_neg q]
      rw [Sm_eq (n := m) (g := fun _ => 0) fun k _ => by rw [if_neg q]; grind, Sm_zero]
theorem W_two {n : Nat} {a b : Nat → Rat} {l : List (Nat → Rat)} {S : CS} : Wd n (a :: b :: l) S = - Wd n (b :: a :: l) S := by
  have e : ∀ (a b : Nat → Rat), Wd n (a :: b :: l) S = Sm n fun j => Sm n fun i => if S j = true ∧ S i = true ∧ ¬ i = j then (sg S j * sg (del S j) i) * (a j * b i) * Wd n l (del (del S j) i) else 0 := fun a b => Sm_eq fun j _ => by
    by_cases h : S j = true
    · rw [if_pos h]
      show sg S j * (a j * Sm n fun i => if (S i && !decide (i = j)) = true then sg (del S j) i * (b i * Wd n l (del (del S j) i)) else 0) = _
      rw [← Sm_mull, ← Sm_mull]
      refine Sm_eq fun i _ => ?_
      by_cases q : S i = true ∧ ¬ i = j
      · have q' : (S i && !decide (i = j)) = true := by simp [q.1, q.2]
        have q2 : S j = true ∧ S i = true ∧ ¬ i = j := ⟨h, q⟩
        rw [if_pos q', if_pos q2]; grind
      · have q' : ¬ (S i && !decide (i = j)) = true := by simpa using q
        have q2 : ¬ (S j = true ∧ S i = true ∧ ¬ i = j) := fun z => q z.2
        rw [if_neg q', if_neg q2]; grind
    · rw [if_neg h, Sm_eq (g := fun _ => 0) fun i _ => if_neg fun z => h z.1, Sm_zero]
  rw [e a b, e b a, Sm_swap]
  have neg : ∀ {n : Nat} {f : Nat → Rat}, Sm n (fun k => - f k) = - Sm n f := fun {n f} => by
    rw [Sm_eq (g := fun k => (-1) * f k) fun k _ => by grind, Sm_mull]; grind
  rw [← neg]
  refine Sm_eq fun j _ => ?_
  rw [← neg]
  refine Sm_eq fun i _ => ?_
  by_cases q : S i = true ∧ S j = true ∧ ¬ j = i
  · have q2 : S j = true ∧ S i = true ∧ ¬ i = j := ⟨q.2.1, q.1, fun z => q.2.2 z.symm⟩
    rw [if_pos q, if_pos q2, del_comm (a := j) (b := i), sg_del, sg_del]
    have hne := q.2.2
    rcases Nat.lt_or_gt_of_ne hne with h | h
    · rw [if_neg (c := i < j ∧ _) (fun z => by omega), if_pos (c := j < i ∧ _) ⟨h, q.2.1⟩]; grind
    · rw [if_pos (c := i < j ∧ _) ⟨h, q.1⟩, if_neg (c := j < i ∧ _) (fun z => by omega)]; grind
  · have q2 : ¬ (S j = true ∧ S i = true ∧ ¬ i = j) := fun z => q ⟨z.2.1, z.1, fun w => z.2.2 w.symm⟩
    rw [if_neg q, if_neg q2]; grind
theorem W_same {n : Nat} {a : Nat → Rat} : ∀ {l : List (Nat → Rat)} {k : Nat} {S : CS}, l[k]? = some a → Wd n (a :: l) S = 0
  | [], _, _, h => by simp at h
  | x :: l, 0, S, h => by
    simp only [List.getElem?_cons_zero, Option.some.injEq] at h
    subst h
    have := W_two (n := n) (a := x) (b := x) (l := l) (S := S)
    grind
  | x :: l, k + 1, S, h => by
    rw [W_two]
    have ih := fun j => W_same (n := n) (a := a) (l := l) (k := k) (S := del S j) (by simpa using h)
    show - Sm n (fun j => if S j = true then sg S j * (x j * Wd n (a :: l) (del S j)) else 0) = 0
    rw [Sm_eq (g := fun _ => 0) fun j _ => by rw [ih j]; split <;> grind, Sm_zero]; grind
theorem W_alt {n : Nat} : ∀ {l : List (Nat → Rat)} {i k : Nat} {a : Nat → Rat} {S : CS}, i ≠ k → l[i]? = some a → l[k]? = some a → Wd n l S = 0
  | [], _, _, _, _, _, h, _ => by simp at h
  | x :: l, 0, 0, a, S, h, _, _ => absurd rfl h
  | x :: l, 0, k + 1, a, S, _, h1, h2 => by
    simp only [List.getElem?_cons_zero, Option.some.injEq] at h1
    subst h1
    exact W_same (k := k) (by simpa using h2)
  | x :: l, i + 1, 0, a, S, _, h1, h2 => by
    simp only [List.getElem?_cons_zero, Option.some.injEq] at h2
    subst h2
    exact W_same (k := i) (by simpa using h1)
  | x :: l, i + 1, k + 1, a, S, h, h1, h2 => by
    have ih := fun j => W_alt (n := n) (l := l) (i := i) (k := k) (a := a) (S := del S j) (fun z => h (by rw [z])) (by simpa using h1) (by simpa using h2)
    show Sm n (fun j => if S j = true then sg S j * (x j * Wd n l (del S j)) else 0) = 0
    rw [Sm_eq (g := fun _ => 0) fun j _ => by rw [ih j]; split <;> grind, Sm_zero]
/-- a row that stands in one column alone -/
theorem W_single {n p : Nat} {r : Nat → Rat} {l : List (Nat → Rat)} {S : CS} (hp : p < n) (hS : S p = true) (h : ∀ j, j < n → S j = true → j ≠ p → r j = 0) : Wd n (r :: l) S = sg S p * (r p * Wd n l (del S p)) := by
  show Sm n (fun j => if S j = true then sg S j * (r j * Wd n l (del S j)) else 0) = _
  rw [Sm_eq (g := fun j => if j = p then (fun j => sg S j * (r j * Wd n l (del S j))) j else 0) fun j hj => by
    by_cases e : j = p
    · subst e; rw [if_pos hS, if_pos rfl]
    · rw [if_neg e]
      split
      · rename_i q; rw [h j hj q e]; grind
      · rfl]
  exact Sm_one (f := fun j => sg S j * (r j * Wd n l (del S j))) hp
theorem sg_ne {S : CS} : ∀ {j : Nat}, sg S j = 1 ∨ sg S j = -1
  | 0 => .inl rfl
  | j + 1 => by
    show (if S j = true then - sg S j else sg S j) = 1 ∨ _
    have := sg_ne (S := S) (j := j)
    show (if S j = true then - sg S j else sg S j) = 1 ∨ (if S j = true then - sg S j else sg S j) = -1
    split <;> rcases this with h | h <;> rw [h] <;> simp
/-! ### whole numbers of a size -/
def IntB (M : Nat) (q : Rat) : Prop := ∃ t : Int, q = (t : Rat) ∧ t.natAbs ≤ M
theorem IntB.zero {M : Nat} : IntB M 0 := ⟨0, rfl, Nat.zero_le _⟩
theorem IntB.add {M M' : Nat} {a b : Rat} (h : IntB M a) (h' : IntB M' b) : IntB (M + M') (a + b) := by
  obtain ⟨t, rfl, ht⟩ := h
  obtain ⟨u, rfl, hu⟩ := h'
  exact ⟨t + u, by rw [Rat.intCast_add], by omega⟩
theorem IntB.mul {M M' : Nat} {a b : Rat} (h : IntB M a) (h' : IntB M' b) : IntB (M * M') (a * b) := by
  obtain ⟨t, rfl, ht⟩ := h
  obtain ⟨u, rfl, hu⟩ := h'
  exact ⟨t * u, by rw [Rat.intCast_mul], by rw [Int.natAbs_mul]; exact Nat.mul_le_mul ht hu⟩
theorem IntB.neg {M : Nat} {a : Rat} (h : IntB M a) : IntB M (-a) := by
  obtain ⟨t, rfl, ht⟩ := h
  exact ⟨-t, by rw [Rat.intCast_neg], by rw [Int.natAbs_neg]; exact ht⟩
theorem IntB.mono {M M' : Nat} {a : Rat} (h : IntB M a) (k : M ≤ M') : IntB M' a := by
  obtain ⟨t, rfl, ht⟩ := h
  exact ⟨t, rfl, Nat.le_trans ht k⟩
theorem IntB.sum {M n : Nat} {f : Nat → Rat} (h : ∀ k, k < n → IntB M (f k)) : IntB (n * M) (Sm n f) := by
  induction n with
  | zero => exact IntB.zero
  | succ n ih =>
    rw [Nat.succ_mul]
    exact (ih fun k hk => h k (by omega)).add (h n (by omega))
theorem IntB.one : IntB 1 1 := ⟨1, rfl, Nat.le_refl _⟩
theorem sg_int {S : CS} {j : Nat} : IntB 1 (sg S j) := by
  rcases sg_ne (S := S) (j := j) with h | h <;> rw [h]
  · exact IntB.one
  · exact IntB.one.neg
theorem W_int {n M : Nat} : ∀ {l : List (Nat → Rat)} {S : CS}, (∀ r, r ∈ l → ∀ j, j < n → IntB M (r j)) → IntB ((n * M) ^ l.length) (Wd n l S)
  | [], _, _ => IntB.one
  | r :: l, S, h => by
    have ih := fun j => W_int (n := n) (M := M) (l := l) (S := del S j) fun r' hr => h r' (List.mem_cons_of_mem _ hr)
    have : IntB (n * (M * (n * M) ^ l.length)) (Wd n (r :: l) S) := IntB.sum fun j hj => by
      split
      · have := (sg_int (S := S) (j := j)).mul ((h r (List.mem_cons_self ..) j hj).mul (ih j))
        rw [Nat.one_mul] at this
        exact this
      · exact IntB.zero
    rw [List.length_cons, Nat.pow_succ, Nat.mul_comm, Nat.mul_assoc]
    exact this
end Dl
namespace Dl
/-! ### sizes -/
/-- a quotient of whole numbers of a size -/
def Fr (D : Nat) (q : Rat) : Prop := ∃ t w : Int, w ≠ 0 ∧ q * (w : Rat) = (t : Rat) ∧ t.natAbs ≤ D ∧ w.natAbs ≤ D
theorem Fr.mono {D D' : Nat} {q : Rat} (h : Fr D q) (k : D ≤ D') : Fr D' q := by
  obtain ⟨t, w, a, b, c, d⟩ := h
  exact ⟨t, w, a, b, Nat.le_trans c k, Nat.le_trans d k⟩
theorem rat_nd (q : Rat) : q * ((q.den : Int) : Rat) = (q.num : Rat) := by
  have hd : ((q.den : Int) : Rat) ≠ 0 := by
    have : (q.den : Int) ≠ 0 := by have := q.den_pos; omega
    intro z
    exact this (by exact_mod_cast z)
  have e : q = (q.num : Rat) / ((q.den : Int) : Rat) := by
    have := Rat.num_divInt_den q
    rw [Rat.divInt_eq_div] at this
    exact this.symm
  generalize q.num = a at e
  generalize ((q.den : Int) : Rat) = b at e hd
  rw [e]; grind
theorem Fr.num {D : Nat} {q : Rat} (h : Fr D q) : q.num.natAbs ≤ D ∧ q.den ≤ D := by
  obtain ⟨t, w, h0, e, ht, hw⟩ := h
  have e2 := rat_nd q
  have hd : ((q.den : Int) : Rat) ≠ 0 := by
    have : (q.den : Int) ≠ 0 := by have := q.den_pos; omega
    intro z
    exact this (by exact_mod_cast z)
  have e3 : q.num * w = t * (q.den : Int) := by
    have : ((q.num * w : Int) : Rat) = ((t * (q.den : Int) : Int) : Rat) := by
      rw [Rat.intCast_mul, Rat.intCast_mul, ← e, ← e2]; grind
    exact_mod_cast this
  have cop : Nat.Coprime q.num.natAbs q.den := q.reduced
  have e4 : q.num.natAbs * w.natAbs = t.natAbs * q.den := by
    have := congrArg Int.natAbs e3
    rwa [Int.natAbs_mul, Int.natAbs_mul, Int.natAbs_natCast] at this
  have dw : q.den ∣ w.natAbs := (Nat.Coprime.symm cop).dvd_of_dvd_mul_left ⟨t.natAbs, by rw [e4, Nat.mul_comm]⟩
  have dt : q.num.natAbs ∣ t.natAbs := cop.dvd_of_dvd_mul_right ⟨w.natAbs, by rw [← e4]⟩
  have w0 : 0 < w.natAbs := Int.natAbs_pos.mpr h0
  refine ⟨?_, Nat.le_trans (Nat.le_of_dvd w0 dw) hw⟩
  by_cases c : t.natAbs = 0
  · rw [c, Nat.zero_mul] at e4
    rcases Nat.mul_eq_zero.mp e4 with z | z
    · rw [z]; exact Nat.zero_le _
    · omega
  · exact Nat.le_trans (Nat.le_of_dvd (by omega) dt) ht
theorem Fr.of_int {D : Nat} {q w : Rat} (h1 : IntB D (q * w)) (h2 : IntB D w) (h0 : w ≠ 0) : Fr D q := by
  obtain ⟨t, e, ht⟩ := h1
  obtain ⟨u, rfl, hu⟩ := h2
  exact ⟨t, u, fun z => h0 (by rw [z]; rfl), e, ht, hu⟩
/-! ### the basis as rows -/
abbrev S0 : CS := fun j => decide (0 ≤ j)
def bl (p : LP) (N : Rat) (B : Nat → Nat) : List (Nat → Rat) := (List.range p.n).map fun k => fun j => N * p.col (B k) j
theorem range_map_set {α : Type} {n i : Nat} {f g : Nat → α} {y : α} (hg : ∀ k, k < n → g k = if k = i then y else f k) : (List.range n).map g = ((List.range n).map f).set i y := by
  refine List.ext_getElem (by simp) fun k h1 h2 => ?_
  have hk : k < n := by simpa using h1
  rw [List.getElem_map, List.getElem_range, List.getElem_set, hg k hk]
  by_cases e : k = i
  · rw [if_pos e, if_pos e.symm]
  · rw [if_neg e, if_neg (fun z => e z.symm), List.getElem_map, List.getElem_range]
section
variable {p : LP} {N : Rat} {B : Nat → Nat}
theorem bl_len : (bl p N B).length = p.n := by unfold bl; simp
theorem bl_at {k : Nat} (hk : k < p.n) : (bl p N B)[k]? = some fun j => N * p.col (B k) j := by
  unfold bl
  rw [List.getElem?_map, List.getElem?_range hk]; rfl
theorem cramer {y c : Nat → Rat} {i : Nat} {S : CS} (hi : i < p.n) (h : ∀ j, j < p.n → y j = Sm p.n fun k => c k * p.col (B k) j) : c i * Wd p.n (bl p N B) S = Wd p.n ((bl p N B).set i fun j => N * y j) S := by
  rw [W_congr (l := (bl p N B).set i fun j => N * y j) (l' := (bl p N B).set i fun j => Sm p.n fun k => c k * (N * p.col (B k) j)) (by simp) fun k r r' h1 h2 j hj => ?_]
  · rw [W_set (R := fun k j => N * p.col (B k) j) (by rw [bl_len]; exact hi)]
    rw [Sm_eq (g := fun k => if k = i then (fun k => c k * Wd p.n (bl p N B) S) k else 0) fun k hk => ?_]
    · exact (Sm_one (f := fun k => c k * Wd p.n (bl p N B) S) hi).symm
    · by_cases e : k = i
      · rw [if_pos e, e]
        have : (bl p N B).set i (fun j => N * p.col (B i) j) = bl p N B := by
          refine List.ext_getElem? fun m => ?_
          rw [List.getElem?_set]
          split
          · rename_i z
            subst z
            rw [if_pos (by rw [bl_len]; exact hi), bl_at hi]
          · rfl
        rw [this]
      · rw [if_neg e]
        have h1 : ((bl p N B).set i fun j => N * p.col (B k) j)[i]? = some fun j => N * p.col (B k) j := by
          rw [List.getElem?_set_self (by rw [bl_len]; exact hi)]
        have h2 : ((bl p N B).set i fun j => N * p.col (B k) j)[k]? = some fun j => N * p.col (B k) j := by
          rw [List.getElem?_set_ne (fun z => e z.symm), bl_at hk]
        rw [W_alt (fun z => e z.symm) h1 h2]; grind
  · by_cases e : k = i
    · subst e
      rw [List.getElem?_set_self (by rw [bl_len]; exact hi)] at h1 h2
      cases h1; cases h2
      show N * y j = Sm p.n fun k => c k * (N * p.col (B k) j)
      rw [h j hj, ← Sm_mull]
      exact Sm_eq fun k _ => by grind
    · rw [List.getElem?_set_ne (fun z => e z.symm)] at h1 h2
      rw [h1] at h2; cases h2; rfl
theorem W_diag {n : Nat} {d : Nat → Rat} : ∀ {len a : Nat}, a + len = n → (∀ k, k < n → d k ≠ 0) → Wd n ((List.range' a len).map fun k j => d k * if k = j then 1 else 0) (fun j => decide (a ≤ j)) ≠ 0
  | 0, _, _, _ => by show (1 : Rat) ≠ 0; decide
  | len + 1, a, h, hd => by
    rw [List.range'_succ, List.map_cons]
    rw [W_single (p := a) (by omega) (by simp) fun j _ _ ne => by rw [if_neg (fun z => ne z.symm)]; grind]
    have e : del (fun j => decide (a ≤ j)) a = fun j => decide (a + 1 ≤ j) := by
      funext j
      show (decide (a ≤ j) && !decide (j = a)) = decide (a + 1 ≤ j)
      by_cases h1 : a + 1 ≤ j
      · have h2 : a ≤ j := by omega
        have h3 : ¬ j = a := by omega
        simp [h1, h2, h3]
      · by_cases h2 : j = a
        · simp [h1, h2]
        · have h3 : ¬ a ≤ j := by omega
          simp [h1, h3]
    rw [e, if_pos rfl]
    have ih := W_diag (n := n) (d := d) (len := len) (a := a + 1) (by omega) hd
    have h1 := hd a (by omega)
    intro z
    rcases Rat.mul_eq_zero.mp z with z | z
    · rcases sg_ne (S := fun j => decide (a ≤ j)) (j := a) with q | q <;> rw [q] at z <;> revert z <;> decide
    · rcases Rat.mul_eq_zero.mp z with z | z
      · exact h1 (by grind)
      · exact ih z
end
namespace LP
/-- a basis whose rows are free, with the sizes -/
structure Inv2 (p : LP) (N : Rat) (s : SS) : Prop where
  inv : p.Inv s
  w : Wd p.n (bl p N s.B) S0 ≠ 0
structure Size (p : LP) (N M : Nat) (Nb Mb : Nat) : Prop where
  n0 : 0 < N
  nm : N ≤ M
  b0 : 0 < Nb
  bm : Nb ≤ Mb
  col : ∀ r j, r < p.m → j < p.n → IntB M ((N : Rat) * p.a r j)
  g : ∀ j, j < p.n → IntB M ((N : Rat) * p.g j)
  b : ∀ r, r < p.m → IntB Mb (p.b r * (Nb : Rat))
  l : ∀ j, j < p.n → IntB Mb (p.l j * (Nb : Rat))
  u : ∀ j, j < p.n → IntB Mb (p.u j * (Nb : Rat))
section
variable {p : LP} {N M Nb Mb : Nat} {s : SS} {i q : Nat}
theorem int_of_nat {k : Nat} : IntB k (k : Rat) := ⟨(k : Int), (Rat.intCast_natCast k).symm, by rw [Int.natAbs_natCast]; exact Nat.le_refl _⟩
theorem Size.unit (h : p.Size N M Nb Mb) {P : Prop} [Decidable P] : IntB M ((N : Rat) * (if P then 1 else 0)) := by
  split
  · have := int_of_nat (k := N)
    rw [Rat.mul_one]
    exact this.mono h.nm
  · rw [Rat.mul_zero]; exact IntB.zero
theorem Size.colI (h : p.Size N M Nb Mb) {c j : Nat} (hj : j < p.n) : IntB M ((N : Rat) * p.col c j) := by
  unfold LP.col
  split
  · exact h.col c j (by assumption) hj
  · split
    · exact h.unit
    · have := (h.unit (P := c - p.m - p.n = j)).neg
      have e : -((N : Rat) * (if c - p.m - p.n = j then 1 else 0)) = (N : Rat) * (if c - p.m - p.n = j then -1 else 0) := by split <;> grind
      rw [← e]; exact this
theorem Size.cstI (h : p.Size N M Nb Mb) {c : Nat} (hc : c < p.N) : IntB Mb (p.cst c * (Nb : Rat)) := by
  unfold LP.N at hc
  unfold LP.cst
  split
  · exact h.b c (by assumption)
  · split
    · exact h.l _ (by omega)
    · have := (h.u (c - p.m - p.n) (by omega)).neg
      have e : -(p.u (c - p.m - p.n) * (Nb : Rat)) = -p.u (c - p.m - p.n) * (Nb : Rat) := by grind
      rw [← e]; exact this
theorem Size.blI (h : p.Size N M Nb Mb) {B : Nat → Nat} : ∀ r, r ∈ bl p (N : Rat) B → ∀ j, j < p.n → IntB M (r j) := fun r hr j hj => by
  unfold bl at hr
  obtain ⟨k, _, rfl⟩ := List.mem_map.mp hr
  exact h.colI hj
theorem Size.W (h : p.Size N M Nb Mb) {B : Nat → Nat} {S : CS} : IntB ((p.n * M) ^ p.n) (Wd p.n (bl p (N : Rat) B) S) := by
  have := W_int (n := p.n) (S := S) (h.blI (B := B))
  rw [bl_len] at this
  exact this
theorem Size.Wset (h : p.Size N M Nb Mb) {B : Nat → Nat} {S : CS} {y : Nat → Rat} {i : Nat} (hy : ∀ j, j < p.n → IntB M ((N : Rat) * y j)) : IntB ((p.n * M) ^ p.n) (Wd p.n ((bl p (N : Rat) B).set i fun j => (N : Rat) * y j) S) := by
  have := W_int (n := p.n) (M := M) (S := S) (l := (bl p (N : Rat) B).set i fun j => (N : Rat) * y j) fun r hr j hj => by
    rcases List.mem_or_eq_of_mem_set hr with hr | rfl
    · exact h.blI r hr j hj
    · exact hy j hj
  rw [List.length_set, bl_len] at this
  exact this
/-- the shares of a vector in the basis -/
theorem Size.coef (h : p.Size N M Nb Mb) (I : p.Inv2 (N : Rat) s) {y c : Nat → Rat} (hy : ∀ j, j < p.n → IntB M ((N : Rat) * y j)) (e : ∀ j, j < p.n → y j = Sm p.n fun k => c k * p.col (s.B k) j) {i : Nat} (hi : i < p.n) :
    IntB ((p.n * M) ^ p.n) (c i * Wd p.n (bl p (N : Rat) s.B) S0) := by
  rw [cramer hi e]
  exact h.Wset hy
theorem Size.LI (h : p.Size N M Nb Mb) (I : p.Inv2 (N : Rat) s) {k j : Nat} (hk : k < p.n) (hj : j < p.n) : IntB ((p.n * M) ^ p.n) (s.L k j * Wd p.n (bl p (N : Rat) s.B) S0) :=
  h.coef I (y := fun j' => if j = j' then 1 else 0) (c := fun k => s.L k j) (fun j' _ => h.unit) (fun j' hj' => (I.inv.i2 j j' hj hj').symm) hk
theorem Size.L (h : p.Size N M Nb Mb) (I : p.Inv2 (N : Rat) s) {k j : Nat} (hk : k < p.n) (hj : j < p.n) : Fr ((p.n * M) ^ p.n) (s.L k j) := Fr.of_int (h.LI I hk hj) h.W I.w
theorem Size.sh (h : p.Size N M Nb Mb) (I : p.Inv2 (N : Rat) s) {c k : Nat} (hk : k < p.n) : Fr ((p.n * M) ^ p.n) (p.sh s c k) :=
  Fr.of_int (h.coef I (y := p.col c) (c := p.sh s c) (fun j hj => h.colI hj) (fun j hj => (I.inv.scol c hj).symm) hk) h.W I.w
theorem Size.x (h : p.Size N M Nb Mb) (I : p.Inv2 (N : Rat) s) {k : Nat} (hk : k < p.n) : Fr ((p.n * M) ^ p.n) (s.x k) :=
  Fr.of_int (h.coef I (y := p.g) (c := s.x) h.g (fun j hj => (I.inv.i3 j hj).symm) hk) h.W I.w
theorem Size.v (h : p.Size N M Nb Mb) (I : p.Inv2 (N : Rat) s) {j : Nat} (hj : j < p.n) : Fr ((p.n + 1) * (Mb * (p.n * M) ^ p.n)) (p.v s j) := by
  have e : IntB (p.n * (Mb * (p.n * M) ^ p.n)) (p.v s j * ((Nb : Rat) * Wd p.n (bl p (N : Rat) s.B) S0)) := by
    unfold LP.v
    rw [← Sm_mulr]
    refine IntB.sum fun k hk => ?_
    have := (h.cstI (I.inv.bd k hk)).mul (h.LI I hk hj)
    have e : p.cst (s.B k) * s.L k j * ((Nb : Rat) * Wd p.n (bl p (N : Rat) s.B) S0) = p.cst (s.B k) * (Nb : Rat) * (s.L k j * Wd p.n (bl p (N : Rat) s.B) S0) := by grind
    rw [e]; exact this
  have w : IntB (Mb * (p.n * M) ^ p.n) ((Nb : Rat) * Wd p.n (bl p (N : Rat) s.B) S0) := ((int_of_nat (k := Nb)).mono h.bm).mul h.W
  refine Fr.of_int (e.mono (Nat.mul_le_mul_right _ (Nat.le_succ _))) (w.mono ?_) ?_
  · exact Nat.le_mul_of_pos_left _ (Nat.succ_pos _)
  · intro z
    rcases Rat.mul_eq_zero.mp z with z | z
    · have h0 := h.b0
      have : (Nb : Rat) ≠ 0 := by
        intro z
        have : Nb = 0 := by exact_mod_cast z
        omega
      exact this z
    · exact I.w z
theorem Inv2.step (I : p.Inv2 (N : Rat) s) (t : p.Step s i q) : p.Inv2 (N : Rat) (p.ex s i q) := by
  refine ⟨I.inv.ex_inv t, ?_⟩
  have e : bl p (N : Rat) (p.ex s i q).B = (bl p (N : Rat) s.B).set i fun j => (N : Rat) * p.col q j := by
    unfold bl
    refine range_map_set fun k _ => ?_
    show (fun j => (N : Rat) * p.col (if k = i then q else s.B k) j) = _
    split <;> rfl
  rw [e, ← cramer t.hi fun j hj => (I.inv.scol q hj).symm]
  intro z
  rcases Rat.mul_eq_zero.mp z with z | z
  · have := t.pos
    rw [z] at this
    exact absurd this (by decide)
  · exact I.w z
/-- the first basis -/
def s0 (p : LP) : SS := ⟨fun j => if p.g j < 0 then p.m + p.n + j else p.m + j, fun j => if p.g j < 0 then - p.g j else p.g j, fun k j => if k = j then (if p.g k < 0 then -1 else 1) else 0⟩
theorem s0_col {k j : Nat} (hk : k < p.n) : p.col (p.s0.B k) j = (if p.g k < 0 then -1 else 1) * (if k = j then 1 else 0) := by
  show p.col (if p.g k < 0 then p.m + p.n + k else p.m + k) j = _
  unfold col
  by_cases c : p.g k < 0
  · rw [if_pos c, if_neg (by omega), if_neg (by omega), if_pos c, show p.m + p.n + k - p.m - p.n = k by omega]
    split <;> grind
  · rw [if_neg c, if_neg (by omega), if_pos (by omega), if_neg c, show p.m + k - p.m = k by omega]
    split <;> grind
theorem s0_inv (hN : 0 < N) : p.Inv2 (N : Rat) p.s0 := by
  have sq : ∀ k, (if p.g k < 0 then (-1 : Rat) else 1) * (if p.g k < 0 then -1 else 1) = 1 := fun k => by split <;> grind
  refine ⟨⟨fun k hk => ?_, fun i k hi hk => ?_, fun j j' hj hj' => ?_, fun j hj => ?_, fun k hk => ?_⟩, ?_⟩
  · show (if p.g k < 0 then p.m + p.n + k else p.m + k) < p.m + p.n + p.n
    split <;> omega
  · rw [Sm_eq (g := fun j => ((if i = j then (if p.g i < 0 then -1 else 1) else 0) * (if p.g k < 0 then -1 else 1)) * (if k = j then 1 else 0)) fun j hj => by rw [s0_col hk]; show (if i = j then (if p.g i < 0 then (-1 : Rat) else 1) else 0) * _ = _; grind]
    rw [Sm_oneR (f := fun j => (if i = j then (if p.g i < 0 then -1 else 1) else 0) * (if p.g k < 0 then -1 else 1)) hk]
    by_cases e : i = k
    · subst e; rw [if_pos rfl, if_pos rfl]; exact sq i
    · rw [if_neg e, if_neg e]; grind
  · rw [Sm_eq (g := fun k => ((if p.g k < 0 then -1 else 1) * (if p.g k < 0 then -1 else 1)) * (if k = j' then 1 else 0) * (if k = j then 1 else 0)) fun k hk => by
      rw [s0_col hk]
      show (if k = j then (if p.g k < 0 then (-1 : Rat) else 1) else 0) * _ = _
      by_cases e : k = j
      · rw [if_pos e, if_pos e]; grind
      · rw [if_neg e, if_neg e]; grind]
    rw [Sm_oneL (f := fun k => ((if p.g k < 0 then -1 else 1) * (if p.g k < 0 then -1 else 1)) * (if k = j' then 1 else 0)) hj, sq j]
    grind
  · rw [Sm_eq (g := fun k => p.g k * (if k = j then 1 else 0)) fun k hk => by
      rw [s0_col hk]
      show (if p.g k < 0 then - p.g k else p.g k) * _ = _
      split <;> grind]
    exact Sm_oneL hj
  · show 0 ≤ if p.g k < 0 then - p.g k else p.g k
    split <;> grind
  · have e : bl p (N : Rat) p.s0.B = (List.range' 0 p.n).map fun k j => ((N : Rat) * (if p.g k < 0 then -1 else 1)) * if k = j then 1 else 0 := by
      unfold bl
      rw [List.range_eq_range']
      refine List.map_congr_left fun k hk => ?_
      have hk : k < p.n := by simpa using hk
      funext j
      rw [s0_col hk]; grind
    rw [e]
    refine W_diag (by omega) fun k _ z => ?_
    rcases Rat.mul_eq_zero.mp z with z | z
    · have : N = 0 := by exact_mod_cast z
      omega
    · revert z
      split <;> decide
end
end LP
end Dl
namespace Dl
theorem Sm_split {a b : Nat} {f : Nat → Rat} : Sm (a + b) f = Sm a f + Sm b fun k => f (a + k) := by
  induction b with
  | zero => show Sm a f = Sm a f + 0; grind
  | succ b ih =>
    show Sm (a + b) f + f (a + b) = Sm a f + (Sm b (fun k => f (a + k)) + f (a + b))
    rw [ih]; grind
namespace LP
section
variable {p : LP} {s : SS}
/-- weights of columns: what the rows' weights show is no less than their worth -/
theorem dual_ge {w h mn : Nat → Rat} (hw : ∀ c, c < p.N → 0 ≤ w c) (h1 : ∀ j, j < p.n → Sm p.N (fun c => w c * p.col c j) = h j) (lu : ∀ j, j < p.n → p.l j ≤ p.u j)
    (hm : ∀ j, j < p.n → mn j = (h j - Sm p.m fun r => w r * p.a r j) * p.l j ∨ mn j = (h j - Sm p.m fun r => w r * p.a r j) * p.u j) :
    Sm p.N (fun c => w c * p.cst c) ≤ Sm p.m (fun r => w r * p.b r) + Sm p.n mn := by
  have sp : ∀ f : Nat → Rat, Sm p.N f = Sm p.m f + Sm p.n (fun j => f (p.m + j)) + Sm p.n fun j => f (p.m + p.n + j) := fun f => by
    unfold LP.N; rw [Sm_split, Sm_split]
  have c1 : ∀ j, p.cst (p.m + j) = if j < p.n then p.l j else p.cst (p.m + j) := fun j => by
    split
    · unfold cst; rw [if_neg (by omega), if_pos (by omega), show p.m + j - p.m = j by omega]
    · rfl
  have rest : ∀ j, j < p.n → h j - Sm p.m (fun r => w r * p.a r j) = w (p.m + j) - w (p.m + p.n + j) := fun j hj => by
    rw [← h1 j hj, sp]
    rw [Sm_eq (n := p.m) (f := fun c => w c * p.col c j) (g := fun r => w r * p.a r j) fun r hr => by unfold col; rw [if_pos hr]]
    rw [Sm_eq (n := p.n) (f := fun i => w (p.m + i) * p.col (p.m + i) j) (g := fun i => w (p.m + i) * (if i = j then 1 else 0)) fun i hi => by unfold col; rw [if_neg (by omega), if_pos (by omega), show p.m + i - p.m = i by omega]]
    rw [Sm_eq (n := p.n) (f := fun i => w (p.m + p.n + i) * p.col (p.m + p.n + i) j) (g := fun i => (- w (p.m + p.n + i)) * (if i = j then 1 else 0)) fun i hi => by
      unfold col; rw [if_neg (by omega), if_neg (by omega), show p.m + p.n + i - p.m - p.n = i by omega]; split <;> grind]
    rw [Sm_oneL (f := fun i => w (p.m + i)) hj, Sm_oneL (f := fun i => - w (p.m + p.n + i)) hj]
    grind
  rw [sp]
  rw [Sm_eq (n := p.m) (f := fun c => w c * p.cst c) (g := fun r => w r * p.b r) fun r hr => by unfold cst; rw [if_pos hr]]
  have e : Sm p.n (fun j => w (p.m + j) * p.cst (p.m + j)) + Sm p.n (fun j => w (p.m + p.n + j) * p.cst (p.m + p.n + j)) ≤ Sm p.n mn := by
    rw [← Sm_add]
    refine Sm_le fun j hj => ?_
    have e1 : p.cst (p.m + j) = p.l j := by rw [c1 j, if_pos hj]
    have e2 : p.cst (p.m + p.n + j) = - p.u j := by unfold cst; rw [if_neg (by omega), if_neg (by omega), show p.m + p.n + j - p.m - p.n = j by omega]
    rw [e1, e2]
    have a1 := hw (p.m + j) (by unfold LP.N; omega)
    have a2 := hw (p.m + p.n + j) (by unfold LP.N; omega)
    have a3 := lu j hj
    have q := hm j hj
    rw [rest j hj] at q
    have b1 := Rat.mul_nonneg a1 (b := p.u j - p.l j) (by grind)
    have b2 := Rat.mul_nonneg a2 (b := p.u j - p.l j) (by grind)
    rcases q with q | q <;> rw [q] <;> grind
  grind
/-- the sum over the basis as a sum over the columns -/
theorem by_col {x F : Nat → Rat} {B : Nat → Nat} {n N : Nat} (h : ∀ k, k < n → B k < N) : Sm N (fun c => Sm n (fun k => if B k = c then x k else 0) * F c) = Sm n fun k => x k * F (B k) := by
  rw [show (fun c => Sm n (fun k => if B k = c then x k else 0) * F c) = fun c => Sm n (fun k => (if B k = c then x k else 0) * F c) from funext fun c => Sm_mulr.symm, Sm_swap]
  refine Sm_eq fun k hk => ?_
  rw [← Sm_one (f := fun c => x k * F c) (h k hk)]
  refine Sm_eq fun c _ => ?_
  by_cases e : c = B k
  · rw [if_pos e, if_pos e.symm]
  · rw [if_neg e, if_neg (fun z => e z.symm)]; grind
theorem Sm_if_nn {n : Nat} {P : Nat → Prop} [DecidablePred P] {x : Nat → Rat} (h : ∀ k, k < n → 0 ≤ x k) : 0 ≤ Sm n fun k => if P k then x k else 0 := Sm_ge0 fun k hk => by
  split
  · exact h k hk
  · exact Rat.le_refl
/-- the multipliers of the rows -/
def yF (B : Nat → Nat) (x : Nat → Rat) : Nat → Nat → Rat
  | 0, _ => 0
  | i + 1, r => if B i = r then x i else yF B x i r
theorem yF_sum {B : Nat → Nat} {x : Nat → Rat} {r : Nat} : ∀ {n : Nat}, (∀ i k, i < n → k < n → B i = B k → i = k) → yF B x n r = Sm n fun k => if B k = r then x k else 0
  | 0, _ => rfl
  | n + 1, h => by
    have ih := yF_sum (B := B) (x := x) (r := r) (n := n) fun i k hi hk => h i k (by omega) (by omega)
    show (if B n = r then x n else yF B x n r) = Sm n (fun k => if B k = r then x k else 0) + (if B n = r then x n else 0)
    by_cases c : B n = r
    · rw [if_pos c, if_pos c, Sm_eq (g := fun _ => 0) fun k hk => if_neg fun z => by have := h k n (by omega) (by omega) (z.trans c.symm); omega, Sm_zero]; grind
    · rw [if_neg c, if_neg c, ih]; grind
/-- nothing is broken: the vector keeps all, and the multipliers show its worth -/
structure Least (p : LP) (s : SS) : Prop where
  rows : ∀ r, r < p.m → p.b r ≤ Sm p.n fun j => p.a r j * p.v s j
  low : ∀ j, j < p.n → p.l j ≤ p.v s j
  high : ∀ j, j < p.n → p.v s j ≤ p.u j
theorem dv_row {r : Nat} (hr : r < p.m) : p.dv s r = Sm p.n fun j => p.a r j * p.v s j := by
  unfold dv
  exact Sm_eq fun j _ => by unfold col; rw [if_pos hr]; grind
theorem dv_low {j : Nat} (hj : j < p.n) : p.dv s (p.m + j) = p.v s j := by
  unfold dv
  rw [Sm_eq (g := fun i => p.v s i * (if j = i then 1 else 0)) fun i _ => by unfold col; rw [if_neg (by omega), if_pos (by omega), show p.m + j - p.m = j by omega]]
  exact Sm_oneR hj
theorem dv_high {j : Nat} (hj : j < p.n) : p.dv s (p.m + p.n + j) = - p.v s j := by
  unfold dv
  rw [Sm_eq (g := fun i => (- p.v s i) * (if j = i then 1 else 0)) fun i _ => by unfold col; rw [if_neg (by omega), if_neg (by omega), show p.m + p.n + j - p.m - p.n = j by omega]; split <;> grind]
  exact Sm_oneR (f := fun i => - p.v s i) hj
theorem cst_row {r : Nat} (hr : r < p.m) : p.cst r = p.b r := by unfold cst; rw [if_pos hr]
theorem cst_low {j : Nat} (hj : j < p.n) : p.cst (p.m + j) = p.l j := by unfold cst; rw [if_neg (by omega), if_pos (by omega), show p.m + j - p.m = j by omega]
theorem cst_high {j : Nat} : p.cst (p.m + p.n + j) = - p.u j := by unfold cst; rw [if_neg (by omega), if_neg (by omega), show p.m + p.n + j - p.m - p.n = j by omega]
theorem rc_row {r : Nat} (hr : r < p.m) : p.rc s r = p.b r - Sm p.n fun j => p.a r j * p.v s j := by unfold rc; rw [cst_row hr, dv_row hr]
theorem rc_low {j : Nat} (hj : j < p.n) : p.rc s (p.m + j) = p.l j - p.v s j := by unfold rc; rw [cst_low hj, dv_low hj]
theorem rc_high {j : Nat} (hj : j < p.n) : p.rc s (p.m + p.n + j) = p.v s j - p.u j := by unfold rc; rw [cst_high, dv_high hj]; grind
theorem least_of (h : ∀ c, c < p.N → p.rc s c ≤ 0) : p.Least s := by
  refine ⟨fun r hr => ?_, fun j hj => ?_, fun j hj => ?_⟩
  · have := h r (by unfold LP.N; omega)
    rw [rc_row hr] at this; grind
  · have := h (p.m + j) (by unfold LP.N; omega)
    rw [rc_low hj] at this; grind
  · have := h (p.m + p.n + j) (by unfold LP.N; omega)
    rw [rc_high hj] at this; grind
def y (p : LP) (s : SS) (r : Nat) : Rat := yF s.B s.x p.n r
theorem Inv.y_sum (h : p.Inv s) (r : Nat) : p.y s r = Sm p.n fun k => if s.B k = r then s.x k else 0 := yF_sum fun i k hi hk e => h.inj hi hk e
theorem Inv.y_nn (h : p.Inv s) (r : Nat) : 0 ≤ p.y s r := by rw [h.y_sum]; exact Sm_if_nn h.nn
theorem Inv.shown (h : p.Inv s) (k : p.Least s) (lu : ∀ j, j < p.n → p.l j ≤ p.u j) {mn : Nat → Rat}
    (hm : ∀ j, j < p.n → (mn j = (p.g j - Sm p.m fun r => p.y s r * p.a r j) * p.l j ∨ mn j = (p.g j - Sm p.m fun r => p.y s r * p.a r j) * p.u j) ∧ mn j ≤ (p.g j - Sm p.m fun r => p.y s r * p.a r j) * p.v s j) :
    Sm p.m (fun r => p.y s r * p.b r) + Sm p.n mn = Sm p.n fun j => p.g j * p.v s j := by
  have a := weak_dual (n := p.n) (m := p.m) (A := p.a) (b := p.b) (y := p.y s) (g := p.g) (p := p.v s) (mn := mn) k.rows (fun r _ => h.y_nn r) fun j hj => (hm j hj).2
  have b := dual_ge (p := p) (w := fun c => p.y s c) (h := p.g) (mn := mn) (fun c _ => h.y_nn c) (fun j hj => by
    rw [← h.i3 j hj, ← by_col (F := fun c => p.col c j) h.bd]
    exact Sm_eq fun c _ => by rw [h.y_sum]) lu fun j hj => (hm j hj).1
  have c : Sm p.N (fun c => p.y s c * p.cst c) = p.z s := by
    unfold z
    rw [← by_col (F := p.cst) h.bd]
    exact Sm_eq fun c _ => by rw [h.y_sum]
  rw [c, h.z_gv] at b
  exact Rat.le_antisymm a b
/-- a column without a share above zero -/
def ray (p : LP) (s : SS) (q r : Nat) : Rat := if q = r then 1 else yF s.B (fun k => - p.sh s q k) p.n r
theorem Inv.ray_nn (h : p.Inv s) {q : Nat} (hs : ∀ k, k < p.n → p.sh s q k ≤ 0) (r : Nat) : 0 ≤ p.ray s q r := by
  unfold ray
  split
  · decide
  · rw [yF_sum fun i k hi hk e => h.inj hi hk e]
    exact Sm_if_nn fun k hk => by have := hs k hk; grind
theorem Inv.ray_sum (h : p.Inv s) {q : Nat} (hq : q < p.N) (ent : 0 < p.rc s q) (F : Nat → Rat) : Sm p.N (fun c => p.ray s q c * F c) = F q - Sm p.n fun k => p.sh s q k * F (s.B k) := by
  have e : ∀ c, p.ray s q c = (if c = q then 1 else 0) + Sm p.n (fun k => if s.B k = c then - p.sh s q k else 0) := fun c => by
    unfold ray
    rw [yF_sum fun i k hi hk e => h.inj hi hk e]
    by_cases z : q = c
    · subst z
      rw [if_pos rfl, if_pos rfl, Sm_eq (g := fun _ => 0) fun k hk => if_neg fun z => by
        have := h.rc0 hk
        rw [z] at this
        grind, Sm_zero]; grind
    · rw [if_neg z, if_neg (fun w => z w.symm)]; grind
  rw [Sm_eq (g := fun c => F c * (if c = q then 1 else 0) + Sm p.n (fun k => if s.B k = c then - p.sh s q k else 0) * F c) fun c _ => by rw [e]; grind, Sm_add, Sm_oneL hq, by_col h.bd]
  rw [Sm_eq (n := p.n) (f := fun k => - p.sh s q k * F (s.B k)) (g := fun k => (-1) * (p.sh s q k * F (s.B k))) fun k _ => by grind, Sm_mull]
  grind
theorem Inv.shown0 (h : p.Inv s) {q : Nat} (hq : q < p.N) (ent : 0 < p.rc s q) (hs : ∀ k, k < p.n → p.sh s q k ≤ 0) (lu : ∀ j, j < p.n → p.l j ≤ p.u j) {mn : Nat → Rat}
    (hm : ∀ j, j < p.n → mn j = (0 - Sm p.m fun r => p.ray s q r * p.a r j) * p.l j ∨ mn j = (0 - Sm p.m fun r => p.ray s q r * p.a r j) * p.u j) :
    0 < Sm p.m (fun r => p.ray s q r * p.b r) + Sm p.n mn := by
  have b := dual_ge (p := p) (w := p.ray s q) (h := fun _ => 0) (mn := mn) (fun c _ => h.ray_nn hs c) (fun j hj => by
    rw [h.ray_sum hq ent, h.scol q hj]; grind) lu hm
  rw [h.ray_sum hq ent, h.scst q] at b
  have : p.rc s q = p.cst q - p.dv s q := rfl
  grind
end
end LP
/-! ### how many -/
def cnt (f : Nat → Bool) : Nat → Nat
  | 0 => 0
  | m + 1 => cnt f m + if f m = true then 1 else 0
theorem cnt_none {f : Nat → Bool} : ∀ {m : Nat}, (∀ r, r < m → f r = false) → cnt f m = 0
  | 0, _ => rfl
  | m + 1, h => by
    show cnt f m + (if f m = true then 1 else 0) = 0
    rw [cnt_none fun r hr => h r (by omega), h m (by omega)]; rfl
theorem cnt_one {f g : Nat → Bool} {i : Nat} : ∀ {m : Nat}, (∀ r, r < m → r ≠ i → f r = true → g r = true) → cnt f m ≤ cnt g m + if i < m then 1 else 0
  | 0, _ => Nat.zero_le _
  | m + 1, h => by
    have ih := cnt_one (f := f) (g := g) (i := i) (m := m) fun r hr => h r (by omega)
    show cnt f m + (if f m = true then 1 else 0) ≤ cnt g m + (if g m = true then 1 else 0) + if i < m + 1 then 1 else 0
    by_cases e : m = i
    · subst e
      rw [if_neg (Nat.lt_irrefl _)] at ih
      rw [if_pos (Nat.lt_succ_self _)]
      split <;> split <;> omega
    · have q := h m (by omega) e
      have : (i < m) ↔ (i < m + 1) := by omega
      have t : (if i < m + 1 then 1 else 0) = (if i < m then 1 else 0) := by
        by_cases d : i < m
        · rw [if_pos d, if_pos (by omega)]
        · rw [if_neg d, if_neg (by omega)]
      rw [t]
      by_cases c : f m = true
      · rw [if_pos c, if_pos (q c)]; omega
      · rw [if_neg c]; omega
theorem cnt_yF {B : Nat → Nat} {x : Nat → Rat} {m : Nat} : ∀ i, cnt (fun r => decide (0 < LP.yF B x i r)) m ≤ i
  | 0 => by rw [cnt_none fun r _ => decide_eq_false (by show ¬ (0 : Rat) < 0; decide)]; exact Nat.le_refl _
  | i + 1 => by
    have ih := cnt_yF (B := B) (x := x) (m := m) i
    have := cnt_one (f := fun r => decide (0 < LP.yF B x (i + 1) r)) (g := fun r => decide (0 < LP.yF B x i r)) (i := B i) (m := m) fun r _ ne h => by
      have e : LP.yF B x (i + 1) r = LP.yF B x i r := by
        show (if B i = r then x i else LP.yF B x i r) = _
        rw [if_neg (fun z => ne z.symm)]
      have h : decide (0 < LP.yF B x (i + 1) r) = true := h
      rw [e] at h; exact h
    have : (if B i < m then 1 else 0) ≤ 1 := by split <;> omega
    omega
theorem cnt_ray {p : LP} {s : SS} {q m : Nat} : cnt (fun r => decide (0 < p.ray s q r)) m ≤ p.n + 1 := by
  have ih := cnt_yF (B := s.B) (x := fun k => - p.sh s q k) (m := m) p.n
  have := cnt_one (f := fun r => decide (0 < p.ray s q r)) (g := fun r => decide (0 < LP.yF s.B (fun k => - p.sh s q k) p.n r)) (i := q) (m := m) fun r _ ne h => by
    have e : p.ray s q r = LP.yF s.B (fun k => - p.sh s q k) p.n r := by
      unfold LP.ray
      rw [if_neg (fun z => ne z.symm)]
    have h : decide (0 < p.ray s q r) = true := h
    rw [e] at h; exact h
  have : (if q < m then 1 else 0) ≤ 1 := by split <;> omega
  omega
end Dl
namespace Dl
/-! ### rows in steps -/
abbrev KR := Nat × (Nat → Rat)
def red (r : Nat → Rat) (k : KR) : Nat → Rat := fun j => r j - (r k.1 / k.2 k.1) * k.2 j
/-- by all kept rows, the latest first in the list -/
def redAll : List KR → (Nat → Rat) → Nat → Rat
  | [], v => v
  | k :: ks, v => red (redAll ks v) k
/-- kept rows in steps -/
def Ech (n : Nat) : List KR → Prop
  | [] => True
  | k :: ks => (k.1 < n ∧ k.2 k.1 ≠ 0 ∧ ∀ q, q ∈ ks → k.2 q.1 = 0) ∧ Ech n ks
theorem red_zero : ∀ {n : Nat} {ks : List KR} {v : Nat → Rat}, Ech n ks → ∀ q, q ∈ ks → redAll ks v q.1 = 0
  | _, [], _, _, q, h => absurd h List.not_mem_nil
  | n, k :: ks, v, e, q, h => by
    show redAll ks v q.1 - (redAll ks v k.1 / k.2 k.1) * k.2 q.1 = 0
    rcases List.mem_cons.mp h with h | h
    · subst h
      have := e.1.2.1
      grind
    · rw [red_zero e.2 q h, e.1.2.2 q h]; grind
def dotR (n : Nat) (a x : Nat → Rat) : Rat := Sm n fun j => a j * x j
theorem red_dot {n : Nat} {x : Nat → Rat} : ∀ {ks : List KR} {v : Nat → Rat}, (∀ k, k ∈ ks → dotR n k.2 x = 0) → dotR n (redAll ks v) x = dotR n v x
  | [], _, _ => rfl
  | k :: ks, v, h => by
    rw [← red_dot (ks := ks) (v := v) fun q hq => h q (List.mem_cons_of_mem _ hq)]
    have h0 := h k (List.mem_cons_self ..)
    have : dotR n (redAll (k :: ks) v) x = dotR n (redAll ks v) x - (redAll ks v k.1 / k.2 k.1) * dotR n k.2 x := by
      unfold dotR
      rw [← Sm_mull, ← Sm_sub]
      exact Sm_eq fun j _ => by show (redAll ks v j - (redAll ks v k.1 / k.2 k.1) * k.2 j) * x j = _; grind
    rw [this, h0]; grind
theorem W_two_lin {n : Nat} {a b : Nat → Rat} {c : Rat} {l : List (Nat → Rat)} {S : CS} : Wd n ((fun j => a j - c * b j) :: l) S = Wd n (a :: l) S - c * Wd n (b :: l) S := by
  show Sm n _ = Sm n _ - c * Sm n _
  rw [← Sm_mull, ← Sm_sub]
  refine Sm_eq fun j _ => ?_
  by_cases h : S j = true
  · rw [if_pos h, if_pos h, if_pos h]; grind
  · rw [if_neg h, if_neg h, if_neg h]; grind
theorem red_W {n : Nat} {l : List (Nat → Rat)} {S : CS} : ∀ {ks : List KR} {v : Nat → Rat}, (∀ k, k ∈ ks → k.2 ∈ l) → Wd n (redAll ks v :: l) S = Wd n (v :: l) S
  | [], _, _ => rfl
  | k :: ks, v, h => by
    rw [← red_W (ks := ks) (v := v) fun q hq => h q (List.mem_cons_of_mem _ hq)]
    obtain ⟨i, hi⟩ := List.getElem?_of_mem (h k (List.mem_cons_self ..))
    have e : Wd n (redAll (k :: ks) v :: l) S = _ := W_two_lin (a := redAll ks v) (b := k.2) (c := redAll ks v k.1 / k.2 k.1)
    rw [e, W_same hi]; grind
def plc (ks : List KR) : CS := fun j => ks.any fun k => decide (k.1 = j)
theorem plc_true {ks : List KR} {j : Nat} : plc ks j = true ↔ ∃ k, k ∈ ks ∧ k.1 = j := by
  unfold plc
  simp [List.any_eq_true]
theorem plc_del {n : Nat} {k : KR} {ks : List KR} (e : Ech n (k :: ks)) : del (plc (k :: ks)) k.1 = plc ks := by
  funext j
  have h : plc (k :: ks) j = (decide (k.1 = j) || plc ks j) := rfl
  show (plc (k :: ks) j && !decide (j = k.1)) = plc ks j
  rw [h]
  by_cases c : j = k.1
  · subst c
    have : plc ks k.1 = false := by
      cases q : plc ks k.1 with
      | false => rfl
      | true =>
        obtain ⟨q, hq, e2⟩ := plc_true.mp q
        have := e.1.2.2 q hq
        rw [e2] at this
        exact absurd this e.1.2.1
    simp [this]
  · have : ¬ k.1 = j := fun z => c z.symm
    simp [c, this]
theorem W_ech {n : Nat} : ∀ {ks : List KR}, Ech n ks → Wd n (ks.map (·.2)) (plc ks) ≠ 0
  | [], _ => by show (1 : Rat) ≠ 0; decide
  | k :: ks, e => by
    rw [List.map_cons, W_single (p := k.1) e.1.1 (plc_true.mpr ⟨k, List.mem_cons_self .., rfl⟩) fun j _ hj ne => by
      obtain ⟨q, hq, rfl⟩ := plc_true.mp hj
      rcases List.mem_cons.mp hq with hq | hq
      · rw [hq] at ne; exact absurd rfl ne
      · exact e.1.2.2 q hq, plc_del e]
    have ih := W_ech e.2
    have h1 := e.1.2.1
    intro z
    rcases Rat.mul_eq_zero.mp z with z | z
    · rcases sg_ne (S := plc (k :: ks)) (j := k.1) with q | q <;> rw [q] at z <;> revert z <;> decide
    · rcases Rat.mul_eq_zero.mp z with z | z
      · exact h1 z
      · exact ih z
theorem W_scale {n : Nat} {c : Rat} : ∀ {l : List (Nat → Rat)} {S : CS}, Wd n (l.map fun o j => c * o j) S = c ^ l.length * Wd n l S
  | [], S => by show (1 : Rat) = c ^ 0 * 1; grind
  | o :: l, S => by
    show Sm n (fun j => if S j = true then sg S j * (c * o j * Wd n (l.map fun o j => c * o j) (del S j)) else 0) = c ^ (l.length + 1) * Sm n _
    rw [← Sm_mull]
    refine Sm_eq fun j _ => ?_
    rw [W_scale (l := l)]
    by_cases h : S j = true
    · rw [if_pos h, if_pos h]; grind
    · rw [if_neg h, if_neg h]; grind
/-- kept rows, with the rows that they come from -/
structure Kp (n N M : Nat) (ks : List KR) : Prop where
  ech : Ech n ks
  os : ∃ os : List (Nat → Rat), os.length = ks.length ∧ (∀ o, o ∈ os → ∀ j, j < n → IntB M ((N : Rat) * o j)) ∧ ∀ S, Wd n (ks.map (·.2)) S = Wd n os S
theorem Kp.nil {n N M : Nat} : Kp n N M [] := ⟨trivial, [], rfl, fun _ h => absurd h List.not_mem_nil, fun _ => rfl⟩
theorem Kp.cons {n N M : Nat} {ks : List KR} {v : Nat → Rat} {p : Nat} (h : Kp n N M ks) (hv : ∀ j, j < n → IntB M ((N : Rat) * v j)) (hp : p < n) (h0 : redAll ks v p ≠ 0) : Kp n N M ((p, redAll ks v) :: ks) := by
  obtain ⟨e, os, l, b, w⟩ := h
  refine ⟨⟨⟨hp, h0, fun q hq => red_zero e q hq⟩, e⟩, v :: os, by rw [List.length_cons, List.length_cons, l], fun o ho => ?_, fun S => ?_⟩
  · rcases List.mem_cons.mp ho with rfl | ho
    · exact hv
    · exact b o ho
  · show Wd n (redAll ks v :: ks.map (·.2)) S = _
    rw [red_W fun k hk => List.mem_map.mpr ⟨k, hk, rfl⟩]
    exact Sm_eq fun j _ => by rw [w]
theorem Kp.size {n N M : Nat} {ks : List KR} {v : Nat → Rat} (h : Kp n N M ks) (hv : ∀ j, j < n → IntB M ((N : Rat) * v j)) (hN : 0 < N) (hM : N ≤ M) {j : Nat} (hj : j < n) : Fr ((n * M) ^ (ks.length + 1)) (redAll ks v j) := by
  obtain ⟨e, os, l, b, w⟩ := h
  by_cases c : plc ks j = true
  · obtain ⟨q, hq, rfl⟩ := plc_true.mp c
    rw [red_zero e q hq]
    exact ⟨0, 1, by decide, by rw [Rat.zero_mul]; rfl, Nat.zero_le _, Nat.succ_le_of_lt (Nat.pow_pos (Nat.mul_pos (by omega) (by omega)))⟩
  · have c : plc ks j = false := by simpa using c
    have S1 : (fun i => plc ks i || decide (i = j)) j = true := by simp
    have hd : del (fun i => plc ks i || decide (i = j)) j = plc ks := by
      funext i
      show ((plc ks i || decide (i = j)) && !decide (i = j)) = plc ks i
      by_cases z : i = j
      · subst z; rw [c]; simp
      · simp [z]
    have e1 : Wd n (v :: os) (fun i => plc ks i || decide (i = j)) = sg (fun i => plc ks i || decide (i = j)) j * (redAll ks v j * Wd n os (plc ks)) := by
      have a : Wd n (v :: os) (fun i => plc ks i || decide (i = j)) = Wd n (v :: ks.map (·.2)) (fun i => plc ks i || decide (i = j)) := Sm_eq fun i _ => by rw [w]
      rw [a, ← red_W (ks := ks) fun k hk => List.mem_map.mpr ⟨k, hk, rfl⟩]
      rw [W_single hj S1 fun i _ hi ne => by
        have : plc ks i = true := by simpa [ne] using hi
        obtain ⟨q, hq, rfl⟩ := plc_true.mp this
        exact red_zero e q hq, hd, w]
    have e0 : Wd n os (plc ks) ≠ 0 := by rw [← w]; exact W_ech e
    have i1 := W_int (n := n) (M := M) (S := fun i => plc ks i || decide (i = j)) (l := (v :: os).map fun o j => (N : Rat) * o j) fun r hr i hi => by
      obtain ⟨o, ho, rfl⟩ := List.mem_map.mp hr
      rcases List.mem_cons.mp ho with rfl | ho
      · exact hv i hi
      · exact b o ho i hi
    have i2 := W_int (n := n) (M := M) (S := plc ks) (l := os.map fun o j => (N : Rat) * o j) fun r hr i hi => by
      obtain ⟨o, ho, rfl⟩ := List.mem_map.mp hr
      exact b o ho i hi
    rw [W_scale, List.length_map, List.length_cons, l] at i1
    rw [W_scale, List.length_map, l] at i2
    have hs : sg (fun i => plc ks i || decide (i = j)) j * sg (fun i => plc ks i || decide (i = j)) j = 1 := by
      rcases sg_ne (S := fun i => plc ks i || decide (i = j)) (j := j) with q | q <;> rw [q] <;> grind
    have n0 : (N : Rat) ≠ 0 := by
      intro z
      have : N = 0 := by exact_mod_cast z
      omega
    have i3 : IntB ((n * M) ^ (ks.length + 1)) ((N : Rat) * ((N : Rat) ^ ks.length * Wd n os (plc ks))) := by
      have := (LP.int_of_nat (k := N)).mul i2
      refine this.mono ?_
      rw [Nat.pow_succ, Nat.mul_comm]
      exact Nat.mul_le_mul_left _ (Nat.le_trans hM (Nat.le_mul_of_pos_left _ (by omega)))
    have i4 : IntB ((n * M) ^ (ks.length + 1)) (redAll ks v j * ((N : Rat) * ((N : Rat) ^ ks.length * Wd n os (plc ks)))) := by
      have := (sg_int (S := fun i => plc ks i || decide (i = j)) (j := j)).mul i1
      rw [Nat.one_mul, e1] at this
      have q : redAll ks v j * ((N : Rat) * ((N : Rat) ^ ks.length * Wd n os (plc ks))) = sg (fun i => plc ks i || decide (i = j)) j * ((N : Rat) ^ (ks.length + 1) * (sg (fun i => plc ks i || decide (i = j)) j * (redAll ks v j * Wd n os (plc ks)))) := by
        generalize sg (fun i => plc ks i || decide (i = j)) j = g at hs
        have : (N : Rat) ^ (ks.length + 1) = (N : Rat) ^ ks.length * N := Rat.pow_succ _ _
        rw [this]
        generalize (N : Rat) ^ ks.length = y
        generalize Wd n os (plc ks) = z
        generalize redAll ks v j = x
        have : g * (y * N * (g * (x * z))) = (g * g) * (y * N * (x * z)) := by grind
        rw [this, hs]; grind
      rw [q]; exact this
    refine Fr.of_int i4 i3 fun z => ?_
    rcases Rat.mul_eq_zero.mp z with z | z
    · exact n0 z
    · rcases Rat.mul_eq_zero.mp z with z | z
      · have : ∀ k : Nat, (N : Rat) ^ k ≠ 0 := fun k => by
          induction k with
          | zero => rw [Rat.pow_zero]; decide
          | succ k ih =>
            rw [Rat.pow_succ]
            intro z
            rcases Rat.mul_eq_zero.mp z with z | z
            · exact ih z
            · exact n0 z
        exact this _ z
      · exact e0 z
/-- fewer rows than places: a place is free -/
theorem free_place {n : Nat} {ks : List KR} (h : ks.length < n) : ∃ f, f < n ∧ plc ks f = false := by
  refine Classical.byContradiction fun c => ?_
  have all : ∀ f, f < n → ∃ i, i < ks.length ∧ ∃ k, ks[i]? = some k ∧ k.1 = f := fun f hf => by
    cases q : plc ks f with
    | false => exact absurd ⟨f, hf, q⟩ c
    | true =>
      obtain ⟨k, hk, e⟩ := plc_true.mp q
      obtain ⟨i, hi⟩ := List.getElem?_of_mem hk
      exact ⟨i, (List.getElem?_eq_some_iff.mp hi).1, k, hi, e⟩
  let g : Nat → Nat := fun f => if hf : f < n then (all f hf).choose else 0
  obtain ⟨s, t, h1, h2, h3⟩ := pigeon ks.length g fun t ht => by
    have : g t = (all t (by omega)).choose := dif_pos (by omega)
    rw [this]; exact (all t (by omega)).choose_spec.1
  have gs : g s = (all s (by omega)).choose := dif_pos (by omega)
  have gt : g t = (all t (by omega)).choose := dif_pos (by omega)
  obtain ⟨a, ha, ea⟩ := (all s (by omega)).choose_spec.2
  obtain ⟨b, hb, eb⟩ := (all t (by omega)).choose_spec.2
  rw [← gs] at ha
  rw [← gt, ← h3, ha] at hb
  cases hb
  omega
/-- and never more rows than places -/
theorem ech_len {n : Nat} {ks : List KR} (e : Ech n ks) : ks.length ≤ n := by
  refine Classical.byContradiction fun c => ?_
  have at_ : ∀ {ks : List KR}, Ech n ks → ∀ (i : Nat) (k : KR), ks[i]? = some k → k.1 < n := by
    intro ks
    induction ks with
    | nil => intro _ i k h; simp at h
    | cons q ks ih =>
      intro e i k h
      cases i with
      | zero => simp only [List.getElem?_cons_zero, Option.some.injEq] at h; subst h; exact e.1.1
      | succ i => exact ih e.2 i k (by simpa using h)
  have ne : ∀ {ks : List KR}, Ech n ks → ∀ (i j : Nat) (k l : KR), i < j → ks[i]? = some k → ks[j]? = some l → k.1 ≠ l.1 := by
    intro ks
    induction ks with
    | nil => intro _ i j k l _ h; simp at h
    | cons q ks ih =>
      intro e i j k l hij h1 h2
      cases j with
      | zero => omega
      | succ j =>
        have h2 : ks[j]? = some l := by simpa using h2
        cases i with
        | zero =>
          simp only [List.getElem?_cons_zero, Option.some.injEq] at h1
          subst h1
          intro z
          have := e.1.2.2 l (List.mem_of_getElem? h2)
          rw [← z] at this
          exact e.1.2.1 this
        | succ i => exact ih e.2 i j k l (by omega) (by simpa using h1) h2
  have hx : ∀ i, i < ks.length → ∃ k, ks[i]? = some k := fun i hi => ⟨_, List.getElem?_eq_getElem hi⟩
  let g : Nat → Nat := fun i => match ks[i]? with | some k => k.1 | none => 0
  have ge : ∀ i k, ks[i]? = some k → g i = k.1 := fun i k h => by show (match ks[i]? with | some k => k.1 | none => 0) = _; rw [h]
  obtain ⟨s, t, h1, h2, h3⟩ := pigeon n g fun t ht => by
    obtain ⟨k, hk⟩ := hx t (by omega)
    rw [ge t k hk]; exact at_ e t k hk
  obtain ⟨a, ha⟩ := hx s (by omega)
  obtain ⟨b, hb⟩ := hx t (by omega)
  rw [ge s a ha, ge t b hb] at h3
  exact ne e s t a b h1 ha hb h3
theorem dot_upd {n p : Nat} {o x : Nat → Rat} {c : Rat} (hp : p < n) : dotR n o (fun j => if j = p then c else x j) = dotR n o x - o p * x p + o p * c := by
  unfold dotR
  rw [← Sm_ite (f := fun j => o j * x j) hp]
  exact Sm_eq fun j _ => by
    by_cases e : j = p
    · show o j * (if j = p then c else x j) = if j = p then o p * c else o j * x j
      rw [if_pos e, if_pos e, e]
    · show o j * (if j = p then c else x j) = if j = p then o p * c else o j * x j
      rw [if_neg e, if_neg e]
/-- a vector across all kept rows, 1 at a free place -/
theorem across {n f : Nat} (hf : f < n) : ∀ {ks : List KR}, Ech n ks → plc ks f = false → ∃ x : Nat → Rat, x f = 1 ∧ ∀ k, k ∈ ks → dotR n k.2 x = 0 := by
  have go : ∀ (ks : List KR), Ech n ks → plc ks f = false → ∀ x0 : Nat → Rat, x0 f = 1 → ∃ x : Nat → Rat, x f = 1 ∧ (∀ k, k ∈ ks → dotR n k.2 x = 0) ∧ ∀ o : Nat → Rat, (∀ k, k ∈ ks → o k.1 = 0) → dotR n o x = dotR n o x0 := by
    intro ks
    induction ks with
    | nil => intro _ _ x0 h0; exact ⟨x0, h0, fun _ h => absurd h List.not_mem_nil, fun _ _ => rfl⟩
    | cons k ks ih =>
      intro e hp x0 h0
      have hk1 := e.1.1
      have hk2 := e.1.2.1
      have nf : k.1 ≠ f := fun z => by
        have : plc (k :: ks) f = true := plc_true.mpr ⟨k, List.mem_cons_self .., z⟩
        rw [hp] at this; cases this
      have hp2 : plc ks f = false := by
        cases q : plc ks f with
        | false => rfl
        | true =>
          obtain ⟨l, hl, e2⟩ := plc_true.mp q
          have : plc (k :: ks) f = true := plc_true.mpr ⟨l, List.mem_cons_of_mem _ hl, e2⟩
          rw [hp] at this; cases this
      obtain ⟨x, a, b, d⟩ := ih e.2 hp2 (fun j => if j = k.1 then x0 k.1 - dotR n k.2 x0 / k.2 k.1 else x0 j) (by show (if f = k.1 then _ else x0 f) = 1; rw [if_neg (fun z => nf z.symm)]; exact h0)
      refine ⟨x, a, fun l hl => ?_, fun o ho => ?_⟩
      · rcases List.mem_cons.mp hl with hl | hl
        · subst hl
          rw [d l.2 e.1.2.2, dot_upd hk1]
          have : l.2 l.1 * (dotR n l.2 x0 / l.2 l.1) = dotR n l.2 x0 := by grind
          grind
        · exact b l hl
      · rw [d o fun l hl => ho l (List.mem_cons_of_mem _ hl), dot_upd hk1, ho k (List.mem_cons_self ..)]; grind
  intro ks e hp
  obtain ⟨x, a, b, _⟩ := go ks e hp (fun j => if j = f then 1 else 0) (if_pos rfl)
  exact ⟨x, a, b⟩
/-- the rows span: as many as places -/
theorem rank_full {p : LP} {s : SS} (I : p.Inv s) {ks : List KR} (e : Ech p.n ks) (h : ∀ x : Nat → Rat, (∀ k, k ∈ ks → dotR p.n k.2 x = 0) → ∀ k, k < p.n → dotR p.n (p.col (s.B k)) x = 0) : ks.length = p.n := by
  refine Nat.le_antisymm (ech_len e) (Nat.not_lt.mp fun c => ?_)
  obtain ⟨f, hf, hp⟩ := free_place c
  obtain ⟨x, x1, hx⟩ := across hf e hp
  have h0 := h x hx
  have : x f = 0 := by
    rw [← Sm_oneR (f := x) hf]
    rw [Sm_eq (g := fun j' => Sm p.n (fun k => s.L k f * (p.col (s.B k) j' * x j'))) fun j' hj' => by
      rw [← I.i2 f j' hf hj']
      rw [show x j' * Sm p.n (fun k => s.L k f * p.col (s.B k) j') = Sm p.n (fun k => x j' * (s.L k f * p.col (s.B k) j')) from Sm_mull.symm]
      exact Sm_eq fun k _ => by grind, Sm_swap (f := fun k j' => s.L k f * (p.col (s.B k) j' * x j'))]
    rw [Sm_eq (g := fun _ => 0) fun k hk => by
      rw [Sm_mull]
      have := h0 k hk
      unfold dotR at this
      rw [this]; grind, Sm_zero]
  rw [x1] at this
  exact absurd this (by decide)
end Dl
namespace Dl
/-! ### numbers in lowest terms -/
def can (q : Rat) : Q2 := (q.num, (q.den : Int))
theorem can_pos (q : Rat) : 0 < (can q).2 := by
  have := q.den_pos
  show 0 < (q.den : Int)
  omega
theorem qv_can (q : Rat) : qv (can q) = q := by
  show (q.num : Rat) / ((q.den : Int) : Rat) = q
  have := Rat.num_divInt_den q
  rw [Rat.divInt_eq_div] at this
  exact this
theorem can_cop (q : Rat) : Nat.gcd (can q).1.natAbs (can q).2.natAbs = 1 := by
  show Nat.gcd q.num.natAbs ((q.den : Int)).natAbs = 1
  rw [Int.natAbs_natCast]
  exact q.reduced
theorem can_lo (q : Rat) : lo (can q).1 (can q).2 = can q := lo_self (can_cop q)
/-- lowest terms are told by the worth -/
theorem can_qv {x : Q2} (h : 0 < x.2) (c : lo x.1 x.2 = x) : can (qv x) = x := by
  have cop : Nat.gcd x.1.natAbs x.2.natAbs = 1 := by rw [← c]; exact lo_cop h
  have e : qv x = Rat.mk' x.1 x.2.natAbs (by omega) cop := by
    rw [Rat.mk_eq_divInt, Rat.divInt_eq_div]
    show (x.1 : Rat) / (x.2 : Rat) = (x.1 : Rat) / (((x.2.natAbs : Nat) : Int) : Rat)
    rw [Int.natAbs_of_nonneg (by omega)]
  rw [e]
  show (x.1, ((x.2.natAbs : Nat) : Int)) = x
  rw [Int.natAbs_of_nonneg (by omega)]
theorem lo_can {t b : Int} (hb : 0 < b) : lo t b = can ((t : Rat) / (b : Rat)) := by
  rw [← qv_lo hb]
  exact (can_qv (lo_pos hb) (lo_lo hb)).symm
theorem can_inj {a b : Rat} (h : can a = can b) : a = b := by rw [← qv_can a, ← qv_can b, h]
theorem can_zero : can 0 = (0, 1) := rfl
theorem can_one : can 1 = (1, 1) := rfl
theorem can_neg (q : Rat) : can (-q) = (-(can q).1, (can q).2) := by
  show ((-q).num, ((-q).den : Int)) = _
  rw [Rat.neg_num, Rat.neg_den]; rfl
theorem can_num0 {q : Rat} : (can q).1 = 0 ↔ q = 0 := by
  constructor
  · intro h
    rw [← qv_can q]
    unfold qv
    rw [h]
    show (0 : Rat) / _ = 0
    grind
  · rintro rfl; rfl
theorem can_num_pos {q : Rat} : 0 < (can q).1 ↔ 0 < q := by
  have := qv_lt (x := (0, 1)) (y := can q) (by decide) (can_pos q)
  rw [qv_can] at this
  have e : qv (0, 1) = 0 := by show (0 : Rat) / 1 = 0; grind
  rw [e] at this
  rw [← this]
  show 0 < q.num ↔ 0 * (q.den : Int) < q.num * 1
  omega
theorem can_num_neg {q : Rat} : (can q).1 < 0 ↔ q < 0 := by
  have := qv_lt (x := can q) (y := (0, 1)) (can_pos q) (by decide)
  rw [qv_can] at this
  have e : qv (0, 1) = 0 := by show (0 : Rat) / 1 = 0; grind
  rw [e] at this
  rw [← this]
  show q.num < 0 ↔ q.num * 1 < 0 * (q.den : Int)
  omega
theorem fadd_can (a b : Rat) : fadd (can a) (can b) = can (a + b) := by
  have := qv_add (can_pos a) (can_pos b)
  rw [qv_can, qv_can] at this
  rw [← this]
  exact (can_qv (fadd_b (can_pos a) (can_pos b)).1 (lo_lo (Int.mul_pos (can_pos a) (can_pos b)))).symm
theorem fsub_can (a b : Rat) : fsub (can a) (can b) = can (a - b) := by
  have := qv_sub (can_pos a) (can_pos b)
  rw [qv_can, qv_can] at this
  rw [← this]
  exact (can_qv (fsub_b (can_pos a) (can_pos b)).1 (lo_lo (Int.mul_pos (can_pos a) (can_pos b)))).symm
theorem fmul_can (a b : Rat) : fmul (can a) (can b) = can (a * b) := by
  have := qv_mul (can_pos a) (can_pos b)
  rw [qv_can, qv_can] at this
  rw [← this]
  exact (can_qv (fmul_b (can_pos a) (can_pos b)).1 (lo_lo (Int.mul_pos (can_pos a) (can_pos b)))).symm
theorem fdot_can {X Y : Nat → Q2} {a b : Nat → Rat} {n : Nat} (h1 : ∀ k, k < n → X k = can (a k)) (h2 : ∀ k, k < n → Y k = can (b k)) : fdot X Y n = can (Sm n fun k => a k * b k) := by
  have p1 : ∀ k, k < n → 0 < (X k).2 := fun k hk => by rw [h1 k hk]; exact can_pos _
  have p2 : ∀ k, k < n → 0 < (Y k).2 := fun k hk => by rw [h2 k hk]; exact can_pos _
  have := qv_dot p1 p2
  rw [Sm_eq (g := fun k => a k * b k) fun k hk => by rw [h1 k hk, h2 k hk, qv_can, qv_can]] at this
  rw [← this]
  exact (can_qv (fdot_b p1 p2).1 (lo_lo (dtb_pos p1 p2).1)).symm
theorem lt_can {a b : Rat} : (can a).1 * (can b).2 < (can b).1 * (can a).2 ↔ a < b := by
  have := qv_lt (can_pos a) (can_pos b)
  rwa [qv_can, qv_can] at this
theorem le_can {a b : Rat} : (can a).1 * (can b).2 ≤ (can b).1 * (can a).2 ↔ a ≤ b := by
  have := qv_le (can_pos a) (can_pos b)
  rwa [qv_can, qv_can] at this
/-- a list of numbers by their worths -/
def cl (n : Nat) (f : Nat → Rat) : List Q2 := (List.range n).map fun k => can (f k)
theorem cl_len {n : Nat} {f : Nat → Rat} : (cl n f).length = n := by unfold cl; simp
theorem cl_at {n k : Nat} {f : Nat → Rat} (h : k < n) : (cl n f)[k]? = some (can (f k)) := by
  unfold cl
  rw [List.getElem?_map, List.getElem?_range h]; rfl
theorem cl_congr {n : Nat} {f g : Nat → Rat} (h : ∀ k, k < n → f k = g k) : cl n f = cl n g := List.map_congr_left fun k hk => by rw [h k (by simpa using hk)]
theorem cl_snoc {n : Nat} {f : Nat → Rat} : cl (n + 1) f = cl n f ++ [can (f n)] := by unfold cl; rw [List.range_succ, List.map_append]; rfl
theorem cl_set {n i : Nat} {f g : Nat → Rat} {y : Rat} (h : ∀ k, k < n → g k = if k = i then y else f k) : (cl n f).set i (can y) = cl n g := by
  unfold cl
  exact (range_map_set (f := fun k => can (f k)) fun k hk => by rw [h k hk]; split <;> rfl).symm
theorem cl_of {l : List Q2} (h : ∀ x, x ∈ l → 0 < x.2 ∧ lo x.1 x.2 = x) : l = cl l.length fun k => qv (l.getD k (0, 1)) := by
  refine List.ext_getElem? fun k => ?_
  by_cases hk : k < l.length
  · rw [cl_at hk, List.getElem?_eq_getElem hk, List.getD_eq_getElem?_getD, List.getElem?_eq_getElem hk]
    have := h l[k] (List.getElem_mem hk)
    rw [Option.getD_some, can_qv this.1 this.2]
  · rw [List.getElem?_eq_none (by omega), List.getElem?_eq_none (by rw [cl_len]; omega)]
theorem Fr.nm {D A : Nat} {q : Rat} (h : Fr D q) (k : D < 2 ^ A) : Nm A (can q) := by
  obtain ⟨h1, h2⟩ := h.num
  refine ⟨can_pos q, Nat.lt_of_le_of_lt h1 k, ?_⟩
  show ((q.den : Int)).natAbs < 2 ^ A
  rw [Int.natAbs_natCast]
  exact Nat.lt_of_le_of_lt h2 k
end Dl
namespace Dl
namespace LP
section
variable (p : LP) (h y : Nat → Rat)
def tk (j : Nat) : Rat := Sm p.m fun r => y r * p.a r j
def rest (j : Nat) : Rat := h j - p.tk y j
def mn (j : Nat) : Rat := if p.rest h y j * p.u j < p.rest h y j * p.l j then p.rest h y j * p.u j else p.rest h y j * p.l j
def tot (J : Nat) : Rat := (Sm p.m fun r => y r * p.b r) + Sm J (p.mn h y)
end
section
variable {p : LP} {h y : Nat → Rat} {s : SS} {N M Nb Mb : Nat}
theorem mn_or (j : Nat) : p.mn h y j = p.rest h y j * p.l j ∨ p.mn h y j = p.rest h y j * p.u j := by
  unfold mn
  split
  · exact .inr rfl
  · exact .inl rfl
theorem mn_le {j : Nat} {x : Rat} (h1 : p.l j ≤ x) (h2 : x ≤ p.u j) : p.mn h y j ≤ p.rest h y j * x := by
  unfold mn
  by_cases c : 0 ≤ p.rest h y j
  · have a := Rat.mul_nonneg c (b := x - p.l j) (by grind)
    split <;> grind
  · have a := Rat.mul_nonneg (a := - p.rest h y j) (b := p.u j - x) (by grind) (by grind)
    split <;> grind
theorem tot_le {x : Nat → Rat} (h1 : ∀ r, r < p.m → p.b r ≤ Sm p.n (fun j => p.a r j * x j)) (h2 : ∀ r, r < p.m → 0 ≤ y r) (h3 : ∀ j, j < p.n → p.l j ≤ x j ∧ x j ≤ p.u j) : p.tot h y p.n ≤ Sm p.n fun j => h j * x j :=
  weak_dual h1 h2 fun j hj => mn_le (h3 j hj).1 (h3 j hj).2
theorem Inv.tot_eq (I : p.Inv s) (k : p.Least s) (lu : ∀ j, j < p.n → p.l j ≤ p.u j) : p.tot p.g (p.y s) p.n = Sm p.n fun j => p.g j * p.v s j :=
  I.shown k lu fun j hj => ⟨mn_or j, mn_le (k.low j hj) (k.high j hj)⟩
theorem Inv.tot_pos (I : p.Inv s) {q : Nat} (hq : q < p.N) (ent : 0 < p.rc s q) (hs : ∀ k, k < p.n → p.sh s q k ≤ 0) (lu : ∀ j, j < p.n → p.l j ≤ p.u j) : 0 < p.tot (fun _ => 0) (p.ray s q) p.n :=
  I.shown0 hq ent hs lu fun j _ => mn_or (h := fun _ => 0) j
/-- sizes of what a sum of duals meets -/
theorem sums_fr (S : p.Size N M Nb Mb) {W : Rat} {D : Nat} (hW : IntB D W) (W0 : W ≠ 0) (hy : ∀ r, r < p.m → IntB D (y r * W)) (hh : ∀ j, j < p.n → IntB M ((N : Rat) * h j)) :
    (∀ r, r < p.m → Fr ((p.n + 1) * ((p.m + 1) * (D * M * Mb))) (y r)) ∧ (∀ j, j < p.n → Fr ((p.n + 1) * ((p.m + 1) * (D * M * Mb))) (p.tk y j) ∧ Fr ((p.n + 1) * ((p.m + 1) * (D * M * Mb))) (p.rest h y j)) ∧ ∀ J, J ≤ p.n → Fr ((p.n + 1) * ((p.m + 1) * (D * M * Mb))) (p.tot h y J) := by
  have M0 : 0 < M := Nat.lt_of_lt_of_le S.n0 S.nm
  have B0 : 0 < Mb := Nat.lt_of_lt_of_le S.b0 S.bm
  have n0 : (N : Rat) ≠ 0 := by
    intro z
    have : N = 0 := by exact_mod_cast z
    have := S.n0
    omega
  have b0 : (Nb : Rat) ≠ 0 := by
    intro z
    have : Nb = 0 := by exact_mod_cast z
    have := S.b0
    omega
  have w : IntB (D * M * Mb) (W * (N : Rat) * (Nb : Rat)) := (hW.mul (int_of_nat.mono S.nm)).mul (int_of_nat.mono S.bm)
  have w0 : W * (N : Rat) * (Nb : Rat) ≠ 0 := by
    intro z
    rcases Rat.mul_eq_zero.mp z with z | z
    · rcases Rat.mul_eq_zero.mp z with z | z
      · exact W0 z
      · exact n0 z
    · exact b0 z
  have up1 : D * M * Mb ≤ (p.m + 1) * (D * M * Mb) := Nat.le_mul_of_pos_left _ (Nat.succ_pos _)
  have up2 : (p.m + 1) * (D * M * Mb) ≤ (p.n + 1) * ((p.m + 1) * (D * M * Mb)) := Nat.le_mul_of_pos_left _ (Nat.succ_pos _)
  have fr : ∀ q : Rat, IntB ((p.n + 1) * ((p.m + 1) * (D * M * Mb))) (q * (W * (N : Rat) * (Nb : Rat))) → Fr ((p.n + 1) * ((p.m + 1) * (D * M * Mb))) q := fun q hq => Fr.of_int hq (w.mono (Nat.le_trans up1 up2)) w0
  have hb1 : IntB Mb (Nb : Rat) := int_of_nat.mono S.bm
  have hn1 : IntB M (N : Rat) := int_of_nat.mono S.nm
  have ey : ∀ r, r < p.m → IntB (D * M * Mb) (y r * (W * (N : Rat) * (Nb : Rat))) := fun r hr => by
    have := ((hy r hr).mul hn1).mul hb1
    have e : y r * (W * (N : Rat) * (Nb : Rat)) = y r * W * (N : Rat) * (Nb : Rat) := by grind
    rw [e]; exact this
  have et : ∀ j, j < p.n → IntB (p.m * (D * M * Mb)) (p.tk y j * (W * (N : Rat) * (Nb : Rat))) := fun j hj => by
    unfold tk
    rw [← Sm_mulr]
    refine IntB.sum fun r hr => ?_
    have := ((hy r hr).mul (S.col r j hr hj)).mul hb1
    have e : y r * p.a r j * (W * (N : Rat) * (Nb : Rat)) = y r * W * ((N : Rat) * p.a r j) * (Nb : Rat) := by grind
    rw [e]; exact this
  have eh : ∀ j, j < p.n → IntB (D * M * Mb) (h j * (W * (N : Rat) * (Nb : Rat))) := fun j hj => by
    have := (hW.mul (hh j hj)).mul hb1
    have e : h j * (W * (N : Rat) * (Nb : Rat)) = W * ((N : Rat) * h j) * (Nb : Rat) := by grind
    rw [e]; exact this
  have er0 : ∀ j, j < p.n → IntB ((p.m + 1) * (D * M)) (p.rest h y j * (W * (N : Rat))) := fun j hj => by
    have a : IntB (p.m * (D * M)) (p.tk y j * (W * (N : Rat))) := by
      unfold tk
      rw [← Sm_mulr]
      refine IntB.sum fun r hr => ?_
      have := (hy r hr).mul (S.col r j hr hj)
      have e : y r * p.a r j * (W * (N : Rat)) = y r * W * ((N : Rat) * p.a r j) := by grind
      rw [e]; exact this
    have b := hW.mul (hh j hj)
    have := b.add a.neg
    have e : p.rest h y j * (W * (N : Rat)) = W * ((N : Rat) * h j) + -(p.tk y j * (W * (N : Rat))) := by unfold rest; grind
    rw [e]
    refine this.mono ?_
    rw [Nat.succ_mul]; omega
  have er : ∀ j, j < p.n → IntB ((p.m + 1) * (D * M * Mb)) (p.rest h y j * (W * (N : Rat) * (Nb : Rat))) := fun j hj => by
    have := (er0 j hj).mul hb1
    have e : p.rest h y j * (W * (N : Rat) * (Nb : Rat)) = p.rest h y j * (W * (N : Rat)) * (Nb : Rat) := by grind
    rw [e]
    refine this.mono ?_
    rw [Nat.mul_assoc]; exact Nat.le_refl _
  have em : ∀ j, j < p.n → IntB ((p.m + 1) * (D * M * Mb)) (p.mn h y j * (W * (N : Rat) * (Nb : Rat))) := fun j hj => by
    have go : ∀ x : Rat, IntB Mb (x * (Nb : Rat)) → IntB ((p.m + 1) * (D * M * Mb)) (p.rest h y j * x * (W * (N : Rat) * (Nb : Rat))) := fun x hx => by
      have := (er0 j hj).mul hx
      have e : p.rest h y j * x * (W * (N : Rat) * (Nb : Rat)) = p.rest h y j * (W * (N : Rat)) * (x * (Nb : Rat)) := by grind
      rw [e]
      refine this.mono ?_
      rw [Nat.mul_assoc]; exact Nat.le_refl _
    rcases mn_or (p := p) (h := h) (y := y) j with e | e <;> rw [e]
    · exact go _ (S.l j hj)
    · exact go _ (S.u j hj)
  have e0 : IntB (p.m * (D * M * Mb)) ((Sm p.m fun r => y r * p.b r) * (W * (N : Rat) * (Nb : Rat))) := by
    rw [← Sm_mulr]
    refine IntB.sum fun r hr => ?_
    have := ((hy r hr).mul hn1).mul (S.b r hr)
    have e : y r * p.b r * (W * (N : Rat) * (Nb : Rat)) = y r * W * (N : Rat) * (p.b r * (Nb : Rat)) := by grind
    rw [e]; exact this
  refine ⟨fun r hr => fr _ ((ey r hr).mono (Nat.le_trans up1 up2)), fun j hj => ⟨fr _ ((et j hj).mono (Nat.le_trans (Nat.mul_le_mul_right _ (Nat.le_succ _)) up2)), fr _ ((er j hj).mono up2)⟩, fun J hJ => fr _ ?_⟩
  have a : IntB (J * ((p.m + 1) * (D * M * Mb))) (Sm J (p.mn h y) * (W * (N : Rat) * (Nb : Rat))) := by
    rw [← Sm_mulr]
    exact IntB.sum fun j hj => em j (by omega)
  have := e0.add a
  have e : p.tot h y J * (W * (N : Rat) * (Nb : Rat)) = (Sm p.m fun r => y r * p.b r) * (W * (N : Rat) * (Nb : Rat)) + Sm J (p.mn h y) * (W * (N : Rat) * (Nb : Rat)) := by unfold tot; grind
  rw [e]
  refine this.mono ?_
  have h1 : p.m * (D * M * Mb) ≤ (p.m + 1) * (D * M * Mb) := Nat.mul_le_mul_right _ (Nat.le_succ _)
  have h2 : J * ((p.m + 1) * (D * M * Mb)) ≤ p.n * ((p.m + 1) * (D * M * Mb)) := Nat.mul_le_mul_right _ hJ
  generalize (p.m + 1) * (D * M * Mb) = X at h1 h2 ⊢
  rw [Nat.succ_mul]; omega
theorem yF_int {B : Nat → Nat} {x : Nat → Rat} {W : Rat} {D r : Nat} : ∀ {n : Nat}, (∀ k, k < n → IntB D (x k * W)) → IntB D (yF B x n r * W)
  | 0, _ => by show IntB D (0 * W); rw [Rat.zero_mul]; exact IntB.zero
  | n + 1, h => by
    show IntB D ((if B n = r then x n else yF B x n r) * W)
    split
    · exact h n (by omega)
    · exact yF_int fun k hk => h k (by omega)
theorem Size.y_int (S : p.Size N M Nb Mb) (I : p.Inv2 (N : Rat) s) (r : Nat) : IntB ((p.n * M) ^ p.n) (p.y s r * Wd p.n (bl p (N : Rat) s.B) S0) :=
  yF_int fun k hk => S.coef I (y := p.g) (c := s.x) S.g (fun j hj => (I.inv.i3 j hj).symm) hk
theorem Size.ray_int (S : p.Size N M Nb Mb) (I : p.Inv2 (N : Rat) s) (q r : Nat) : IntB ((p.n * M) ^ p.n) (p.ray s q r * Wd p.n (bl p (N : Rat) s.B) S0) := by
  unfold ray
  split
  · rw [Rat.one_mul]; exact S.W
  · refine yF_int fun k hk => ?_
    have := (S.coef I (y := p.col q) (c := p.sh s q) (fun j hj => S.colI hj) (fun j hj => (I.inv.scol q hj).symm) hk).neg
    have e : -(p.sh s q k * Wd p.n (bl p (N : Rat) s.B) S0) = - p.sh s q k * Wd p.n (bl p (N : Rat) s.B) S0 := by grind
    rw [← e]; exact this
end
end LP
/-- the count of what is not zero is that of what is above it -/
theorem cnt_congr {f g : Nat → Bool} : ∀ {m : Nat}, (∀ r, r < m → f r = g r) → cnt f m = cnt g m
  | 0, _ => rfl
  | m + 1, h => by
    show cnt f m + _ = cnt g m + _
    rw [cnt_congr fun r hr => h r (by omega), h m (by omega)]
end Dl
namespace Dl
open PySem PySem.Spec PyProof.Rows L2
/-! ### lists and tuples alike -/
class VS (σ : Type) [A : Enc σ] (α : outParam Type) [Enc α] where
  l : σ → List α
  ix : ∀ {X : Cx} {a b : Expr} {δ : List Slot} {μ : List Cell} {pos : Pos} {P : α → List Cell → Prop}, (DE X a δ μ fun (xs : σ) μ1 => DE X b δ μ1 fun (i : Int) μ2 => ∃ y, atI (l xs) i = some y ∧ P y μ2) → PlainIx b → DE X (.Subscript a b pos) δ μ P
  len : ∀ {X : Cx} {a : Expr} {δ : List Slot} {μ : List Cell} {p pos : Pos} {P : Int → List Cell → Prop}, X.mg "len" = none → (DE X a δ μ fun (xs : σ) μ1 => P (l xs).length μ1) → Gl X "len" → starEach [a] X.env = (false, eval a X.env) :: starEach [] X.env → (backTo pos (starEach [] X.env)).any (·.1) = false → DE X (.Call (.Name "len" p) [a] [] pos) δ μ P
instance {α : Type} [Enc α] : VS (List α) α where
  l xs := xs
  ix h hs := de_ixL h hs
  len hm h hg he hpl := de_lenL hm h hg he hpl
instance {α : Type} [Enc α] : VS (Tup α) α where
  l xs := xs.l
  ix h hs := de_ixT h hs
  len hm h hg he hpl := de_lenT hm h hg he hpl
section
variable {X : Cx} {α β ρ : Type} [Enc α] [Enc β] [Enc ρ] {e a b : Expr} {δ : List Slot} {μ : List Cell} {pos p : Pos} {N B C : PN} {R : ρ → List Cell → Prop} {sts : List Stmt}
theorem de_ixS2 {σ : Type} [Enc σ] [S : VS σ α] {P : α → List Cell → Prop} (h : DE X a δ μ fun (xs : σ) μ1 => DE X b δ μ1 fun (i : Int) μ2 => ∃ y, atI (S.l xs) i = some y ∧ P y μ2) (hs : PlainIx b := by exact fun _ _ => rfl) : DE X (.Subscript a b pos) δ μ P := S.ix h hs
theorem de_lenS2 {σ : Type} [Enc σ] [S : VS σ α] {P : Int → List Cell → Prop} (hm : X.mg "len" = none) (h : DE X a δ μ fun (xs : σ) μ1 => P (S.l xs).length μ1) (hg : Gl X "len" := by rfl)
    (he : starEach [a] X.env = (false, eval a X.env) :: starEach [] X.env := by rfl) (hpl : (backTo pos (starEach [] X.env)).any (·.1) = false := by rfl) : DE X (.Call (.Name "len" p) [a] [] pos) δ μ P := S.len hm h hg he hpl
/-! ### cells that are no longer needed -/
theorem part_ste {K : PySem.W.Frag} {M : AS} {H : Hp} {μ ν μr : List Cell} (sp : Parts μ ν μr) : Ste M μ H M ν H :=
  ⟨Keep.refl, fun _ h => h, fun _ h => .inl h, fun a z => .inl ((foots_perm sp.perm a).mpr (foots_app.mpr (.inl z))), fun _ h _ _ => h⟩
theorem de_drop {P : α → List Cell → Prop} (h : DE X e δ μ fun x μ' => ∃ ν μr, Parts μ' ν μr ∧ P x ν) : DE X e δ μ P := fun M σ H E Q q => h M σ H E Q fun x μ' M' v H' p s hh r => by
  obtain ⟨ν, μr, sp, p⟩ := p
  exact q x ν M' v H' p (s.trans (part_ste (K := X.K) sp)) (hh.part sp) r
theorem db_part {ν μr : List Cell} (sp : Parts μ ν μr) (h : DB X sts δ ν N R B C) : DB X sts δ μ N R B C := fun M σ H E D n r b c => by
  have s2 : Ste M μ H M ν H := part_ste (K := X.K) sp
  exact h M σ H (E.cells (E.h.part sp)) D (fun _ _ _ _ _ p s => n _ _ _ _ _ p (s2.trans s)) (fun _ _ _ _ _ p s => r _ _ _ _ _ p (s2.trans s)) (fun _ _ _ _ _ p s => b _ _ _ _ _ p (s2.trans s)) (fun _ _ _ _ _ p s => c _ _ _ _ _ p (s2.trans s))
/-- found.insert(0, y) -/
theorem de_insert0 {apos p0 : Pos} {j : _} {P : Unit → List Cell → Prop} (i : Nat)
    (h : DE X a δ μ fun (x : Ref) μ1 => (∃ zs : List α, μ1[i]? = some (lst x.a zs)) ∧ DE X b δ μ1 fun (y : α) μ2 => ∃ xs : List α, μ2[i]? = some (lst x.a xs) ∧ xs.length < 10000 ∧ P () (μ2.set i (lst x.a (y :: xs))))
    (hbase : attributeBase a "insert" X.env (eval a X.env) = eval a X.env := by rfl)
    (hfew : ((backTo pos (starEach ((.Constant (.int 0) j p0) :: b :: []) X.env)).all (fun x => !x.1) && (backToKw pos (keywordEach [] X.env)).all (fun x => x.1.isSome)
      && decide (((.Constant (.int 0) j p0 : Expr) :: b :: []).length + ([] : List Keyword).length + (if ([] : List Keyword).isEmpty then 0 else 1) < 30)) = true := by rfl)
    (hline : (apos.endLine == pos.line) = true := by rfl) (hst : starEach [.Constant (.int 0) j p0, b] X.env = (false, eval (.Constant (.int 0) j p0) X.env) :: starEach [b] X.env := by rfl) (hst2 : starEach [b] X.env = (false, eval b X.env) :: starEach [] X.env := by rfl) (hplain : (backTo pos (starEach [b] X.env)).any (·.1) = false := by rfl) :
    DE X (.Call (.Attribute a "insert" apos) [.Constant (.int 0) j p0, b] [] pos) δ μ P :=
  of_pe (pe_bm PySem.F.plainAttrs_list PySem.F.slot_list_insert PySem.F.type_list_insert mt_insert (cE_pe a) (pa_cons pe_int (pa_cons (cE_pe b) pa_nil hst2) hst) hbase hfew hline hst hplain) fun M σ H E Q q => h M σ H E _ fun x μ1 M1 v H1 p1 s1 hh1 r1 => by
    obtain ⟨⟨zs, hz⟩, p1⟩ := p1
    cases r1
    obtain ⟨ws, ew, _⟩ := hh1.cell _ (List.mem_of_getElem? hz)
    refine ⟨.inl ⟨rfl, ws, .inl (.inl ew)⟩, ?_⟩
    refine p1 M1 σ H1 (E.step s1 hh1) _ fun y μ2 M2 w H2 p2 s2 hh2 r2 => ?_
    obtain ⟨xs, hx, hl, p⟩ := p2
    obtain ⟨e1, e2, e3⟩ := split_at hx
    obtain ⟨vs, ev, rv⟩ := hh2.cell _ (List.mem_of_getElem? hx)
    have hh2' := hh2
    rw [e1] at hh2'
    obtain ⟨s3, h3⟩ := put_cell hh2' (Paired.cons r2 rv)
    rw [← e1, ← e2] at s3
    rw [← e2] at h3
    exact ⟨x.a, vs, 0, w, rfl, rfl, ev, by rw [rv.length]; exact Nat.lt_of_lt_of_le hl (by decide), by decide, by decide, q () _ _ .non _ p ((s1.trans s2).trans s3) h3 rfl⟩
end
/-! ### numbers, vectors -/
theorem atI_cl {n : Nat} {f : Nat → Rat} {k : Nat} (h : k < n) : atI (cl n f) (k : Int) = some (can (f k)) := atI_nat (cl_at h)
def il (n : Nat) (B : Nat → Nat) : List Int := (List.range n).map fun k => ((B k : Nat) : Int)
def ll (n m : Nat) (L : Nat → Nat → Rat) : List (List Q2) := (List.range n).map fun k => cl m (L k)
theorem range_map_at {α : Type} {n k : Nat} {f : Nat → α} (h : k < n) : ((List.range n).map f)[k]? = some (f k) := by rw [List.getElem?_map, List.getElem?_range h]; rfl
theorem range_map_len {α : Type} {n : Nat} {f : Nat → α} : ((List.range n).map f).length = n := by simp
theorem range_map_snoc {α : Type} {n : Nat} {f : Nat → α} : (List.range (n + 1)).map f = (List.range n).map f ++ [f n] := by rw [List.range_succ, List.map_append]; rfl
theorem range_map_get {α : Type} {n k : Nat} {f : Nat → α} {x : α} (h : ((List.range n).map f)[k]? = some x) : k < n ∧ x = f k := by
  have hk : k < n := by have := (List.getElem?_eq_some_iff.mp h).1; rwa [range_map_len] at this
  refine ⟨hk, ?_⟩
  rw [range_map_at hk] at h
  exact (Option.some.inj h).symm
theorem atI_rm {α : Type} {n k : Nat} {f : Nat → α} (h : k < n) : atI ((List.range n).map f) (k : Int) = some (f k) := atI_nat (range_map_at h)
theorem range_map_congr {α : Type} {n : Nat} {f g : Nat → α} (h : ∀ k, k < n → f k = g k) : (List.range n).map f = (List.range n).map g := List.map_congr_left fun k hk => h k (by simpa using hk)
theorem rep_cl {n : Nat} : List.replicate n ((0 : Int), (1 : Int)) = cl n fun _ => 0 := by
  refine List.ext_getElem? fun k => ?_
  by_cases h : k < n
  · rw [cl_at h, List.getElem?_replicate, if_pos h]; rfl
  · rw [List.getElem?_eq_none (by rw [List.length_replicate]; omega), List.getElem?_eq_none (by rw [cl_len]; omega)]
theorem ixN_nat {n k : Nat} (h : k < n) : ixN n (k : Int) = some k := by
  unfold ixN
  have : (k : Int) < n := by omega
  simp [this]
/-! ### sizes -/
def Ok2 (x y : Q2) : Prop := (∃ A, A ≤ 40000000 ∧ Nm A x ∧ Nm A y) ∧ x.2 * y.2 < 2 ^ 9000
def OkC (x y : Q2) : Prop := ∃ A, A ≤ 40000000 ∧ Nm A x ∧ Nm A y
structure DotOk (X Y : Nat → Q2) (n : Nat) : Prop where
  le : n ≤ 100
  A : ∃ A, A ≤ 100000 ∧ (∀ k, k < n → Nm A (X k)) ∧ (∀ k, k < n → Nm A (Y k))
  b : (dtb X Y n).2 < 2 ^ 9000
theorem Ok2.mul {x y : Q2} (h : Ok2 x y) : CMulX x.1 y.2 ∧ CMulX y.1 x.2 ∧ CMulX x.2 y.2 ∧ CMulX x.1 y.1 ∧ 0 < x.2 * y.2 := by
  obtain ⟨⟨A, hA, h1, h2⟩, _⟩ := h
  exact ⟨mulx_of h1.t h2.b (by omega), mulx_of h2.t h1.b (by omega), mulx_of h1.b h2.b (by omega), mulx_of h1.t h2.t (by omega), Int.mul_pos h1.pos h2.pos⟩
theorem OkC.mul {x y : Q2} (h : OkC x y) : CMulX x.1 y.2 ∧ CMulX y.1 x.2 := by
  obtain ⟨A, hA, h1, h2⟩ := h
  exact ⟨mulx_of h1.t h2.b (by omega), mulx_of h2.t h1.b (by omega)⟩
theorem two_lt {x : Int} {A B : Nat} (h : x.natAbs < 2 ^ A) (hp : 0 < x) (k : A ≤ B) : x < 2 ^ B := by
  have h1 : x.natAbs < 2 ^ B := pow2_mono h k
  have h2 : ((x.natAbs : Nat) : Int) < ((2 ^ B : Nat) : Int) := Int.ofNat_lt.mpr h1
  rw [Int.natAbs_of_nonneg (by omega), Int.natCast_pow] at h2
  exact h2
theorem ok2_of {x y : Q2} {A B : Nat} (h1 : Nm A x) (h2 : Nm B y) (k : A + B ≤ 9000) : Ok2 x y :=
  ⟨⟨A + B, by omega, h1.mono (by omega), h2.mono (by omega)⟩, two_lt (natAbs_lt_mul h1.b h2.b) (Int.mul_pos h1.pos h2.pos) k⟩
theorem okC_of {x y : Q2} {A B : Nat} (h1 : Nm A x) (h2 : Nm B y) (k : A + B ≤ 9000) : OkC x y := ⟨A + B, by omega, h1.mono (by omega), h2.mono (by omega)⟩
theorem dot_ok {X Y : Nat → Q2} {n A B : Nat} (hn : n ≤ 100) (h1 : ∀ k, k < n → Nm A (X k)) (h2 : ∀ k, k < n → Nm B (Y k)) (hA : A + B ≤ 100000) (k : n * (A + B) < 9000) : DotOk X Y n := by
  refine ⟨hn, ⟨A + B, hA, fun k hk => (h1 k hk).mono (by omega), fun k hk => (h2 k hk).mono (by omega)⟩, ?_⟩
  have := Pn_two (f := fun k => (X k).2 * (Y k).2) (e := fun _ => A + B) (n := n) fun k hk => by
    obtain ⟨p, _, _, c, _⟩ := (h1 k hk).raw (h2 k hk)
    exact ⟨p, Int.le_of_lt (two_lt c p (Nat.le_refl _))⟩
  refine Int.lt_of_le_of_lt (dtb_pos (fun k hk => (h1 k hk).pos) fun k hk => (h2 k hk).pos).2 (Int.lt_of_le_of_lt this ?_)
  have e : ((List.range n).map fun _ => A + B).sum = n * (A + B) := by
    clear this k h1 h2 hn
    induction n with
    | zero => simp
    | succ n ih => rw [range_map_snoc, List.sum_append, ih]; simp [Nat.succ_mul]
  rw [e]
  exact Int.pow_lt_pow_of_lt (by decide) k
/-- few numbers that are not zero -/
theorem dot_few {X Y : Nat → Q2} {n A B c : Nat} (hn : n ≤ 100) (h1 : ∀ k, k < n → Nm A (X k)) (h2 : ∀ k, k < n → Nm B (Y k)) (hA : A + B ≤ 100000) (hc : cnt (fun k => !decide ((X k).1 = 0)) n ≤ c) (k : c * (A + B) < 9000) : DotOk X Y n := by
  refine ⟨hn, ⟨A + B, hA, fun k hk => (h1 k hk).mono (by omega), fun k hk => (h2 k hk).mono (by omega)⟩, ?_⟩
  have go : ∀ i, i ≤ n → (dtb X Y i).2 ≤ 2 ^ (cnt (fun k => !decide ((X k).1 = 0)) i * (A + B)) := by
    intro i
    induction i with
    | zero => intro _; show (1 : Int) ≤ 2 ^ (0 * (A + B)); rw [Nat.zero_mul]; decide
    | succ i ih =>
      intro hi
      have ih := ih (by omega)
      have p0 := (dtb_pos (X := X) (Y := Y) (n := i) (fun k hk => (h1 k (by omega)).pos) fun k hk => (h2 k (by omega)).pos).1
      show (dstep (dtb X Y i) (X i) (Y i)).2 ≤ 2 ^ ((cnt (fun k => !decide ((X k).1 = 0)) i + if (!decide ((X i).1 = 0)) = true then 1 else 0) * (A + B))
      unfold dstep
      by_cases z : (X i).1 = 0
      · have e1 : (if (!decide ((X i).1 = 0)) = true then 1 else 0) = 0 := if_neg (by simp [z])
        rw [if_neg (fun h => h.1 z), e1, Nat.add_zero]; exact ih
      · have e1 : (if (!decide ((X i).1 = 0)) = true then 1 else 0) = 1 := if_pos (by simp [z])
        rw [e1, Nat.succ_mul]
        obtain ⟨p, _, _, cc, _⟩ := (h1 i (by omega)).raw (h2 i (by omega))
        have q := two_lt cc p (Nat.le_refl _)
        split
        · rw [Int.pow_add]
          exact Int.mul_le_mul ih (Int.le_of_lt q) (Int.le_of_lt p) (Int.le_trans (Int.le_of_lt p0) ih)
        · refine Int.le_trans ih ?_
          by_cases e : A + B = 0
          · rw [e, Nat.add_zero]; exact Int.le_refl _
          · exact Int.le_of_lt (Int.pow_lt_pow_of_lt (by decide) (by omega))
  refine Int.lt_of_le_of_lt (go n (Nat.le_refl _)) (Int.pow_lt_pow_of_lt (by decide) ?_)
  exact Nat.lt_of_le_of_lt (Nat.mul_le_mul_right _ hc) k
theorem dot_turn {X Y : Nat → Q2} {n k : Nat} (ok : DotOk X Y n) (hk : k < n) : (CMulX (X k).2 (Y k).2 ∧ CMulX (dtb X Y k).1 ((X k).2 * (Y k).2) ∧ CMulX (X k).1 (Y k).1 ∧ CMulX ((X k).1 * (Y k).1) (dtb X Y k).2 ∧ CMulX (dtb X Y k).2 ((X k).2 * (Y k).2)) := by
  obtain ⟨A, hA, h1, h2⟩ := ok.A
  have hn := ok.le
  obtain ⟨p, a, b, c, d⟩ := (h1 k hk).raw (h2 k hk)
  have s := dtb_Nm (X := X) (Y := Y) (n := k) (A := A) (B := A) (fun i hi => h1 i (by omega)) fun i hi => h2 i (by omega)
  have s' : Nm (100 * 200002) (dtb X Y k) := s.mono (by
    have : k * (A + A + 1) ≤ 99 * 200001 := Nat.mul_le_mul (by omega) (by omega)
    omega)
  refine ⟨mulx_of (h1 k hk).b (h2 k hk).b (by omega), mulx_of s'.t c (by omega), mulx_of (h1 k hk).t (h2 k hk).t (by omega), mulx_of d s'.b (by omega), mulx_of s'.b c (by omega)⟩
theorem dot_end {X Y : Nat → Q2} {n : Nat} (ok : DotOk X Y n) : 0 < (dtb X Y n).2 ∧ (dtb X Y n).2 < 2 ^ 9000 := by
  obtain ⟨A, hA, h1, h2⟩ := ok.A
  obtain ⟨p, q⟩ := dtb_pos (X := X) (Y := Y) (n := n) (fun i hi => (h1 i hi).pos) fun i hi => (h2 i hi).pos
  exact ⟨p, ok.b⟩
theorem dstep_yes {s a b : Q2} (h1 : a.1 ≠ 0) (h2 : b.1 ≠ 0) : dstep s a b = (s.1 * (a.2 * b.2) + a.1 * b.1 * s.2, s.2 * (a.2 * b.2)) := if_pos ⟨h1, h2⟩
theorem dstep_no {s a b : Q2} (h : ¬ (a.1 ≠ 0 ∧ b.1 ≠ 0)) : dstep s a b = s := if_neg h
theorem add_one {x y : Q2} (h1 : x.2 = 1) (h2 : y.2 = 1) : fadd x y = (x.1 + y.1, 1) := by
  unfold fadd; rw [h1, h2, Int.mul_one, Int.mul_one]; exact lo_one _
theorem sub_one {x y : Q2} (h1 : x.2 = 1) (h2 : y.2 = 1) : fsub x y = (x.1 - y.1, 1) := by
  unfold fsub; rw [h1, h2, Int.mul_one, Int.mul_one]; exact lo_one _
theorem mul_one {x y : Q2} (h1 : x.2 = 1) (h2 : y.2 = 1) : fmul x y = (x.1 * y.1, 1) := by
  unfold fmul; rw [h1, h2]; exact lo_one _
theorem fadd_q {x y : Q2} (h1 : 0 < x.2) (h2 : 0 < y.2) : fadd x y = can (qv x + qv y) := by
  rw [← qv_add h1 h2]; exact (can_qv (fadd_b h1 h2).1 (lo_lo (Int.mul_pos h1 h2))).symm
theorem fsub_q {x y : Q2} (h1 : 0 < x.2) (h2 : 0 < y.2) : fsub x y = can (qv x - qv y) := by
  rw [← qv_sub h1 h2]; exact (can_qv (fsub_b h1 h2).1 (lo_lo (Int.mul_pos h1 h2))).symm
theorem fmul_q {x y : Q2} (h1 : 0 < x.2) (h2 : 0 < y.2) : fmul x y = can (qv x * qv y) := by
  rw [← qv_mul h1 h2]; exact (can_qv (fmul_b h1 h2).1 (lo_lo (Int.mul_pos h1 h2))).symm
theorem fdiv_q {x y : Q2} (h1 : 0 < x.2) (h2 : 0 < y.2) (h3 : 0 < y.1) : lo (x.1 * y.2) (x.2 * y.1) = can (qv x / qv y) := by
  rw [lo_can (Int.mul_pos h1 h3)]
  have n1 := cast_ne h1
  have n2 := cast_ne h2
  have n3 := cast_ne h3
  congr 1
  unfold qv
  simp only [Rat.intCast_mul]
  grind
/-! ### promises by worths -/
def phRatio : Pm Q2 := fun as μ P => ∃ t b : Int, as = [sl t, sl b] ∧ (0 < b ∧ b < 2 ^ 9000) ∧ P (lo t b) μ
def ph2R (f : Rat → Rat → Rat) : Pm Q2 := fun as μ P => ∃ (x y : Q2) (a b : Rat), as = [sl x, sl y] ∧ qv x = a ∧ qv y = b ∧ Ok2 x y ∧ P (can (f a b)) μ
def phCR (f : Rat → Rat → Bool) : Pm Bool := fun as μ P => ∃ (x y : Q2) (a b : Rat), as = [sl x, sl y] ∧ qv x = a ∧ qv y = b ∧ OkC x y ∧ P (f a b) μ
def phNeg : Pm Q2 := fun as μ P => ∃ a : Rat, as = [sl (can a)] ∧ True ∧ P (can (-a)) μ
def phDot : Pm Q2 := fun as μ P => ∃ (σ τ : Type) (A : Enc σ) (B : Enc τ) (S : VS σ Q2) (T : VS τ Q2) (xs : σ) (ys : τ) (n : Nat) (a b : Nat → Rat), as = [.val A xs, .val B ys] ∧ S.l xs = cl n a ∧ T.l ys = cl n b ∧
  DotOk (fun k => can (a k)) (fun k => can (b k)) n ∧ P (can (Sm n fun k => a k * b k)) μ
end Dl
namespace Dl
open PySem PySem.Spec PyProof.Rows L2
/-- the body of a for -/
def forB (s : Stmt) : List Stmt := match s with
  | .For _ _ b _ _ => b
  | _ => []
abbrev Row := Tup Q2 × Q2
abbrev St2 := Q2 × Q2
namespace LP
/-- sizes of what a sum of duals meets, few of them not zero -/
structure ShZ (p : LP) (h y : Nat → Rat) (Z : Nat) : Prop where
  yz : ∀ r, r < p.m → Nm Z (can (y r))
  few : cnt (fun r => !decide ((can (y r)).1 = 0)) p.m ≤ p.n + 2
  g : ∀ j, j < p.n → Nm Z (can (h j))
  tk : ∀ j, j < p.n → Nm Z (can (p.tk y j))
  rest : ∀ j, j < p.n → Nm Z (can (p.rest h y j))
  tot : ∀ J, J ≤ p.n → Nm Z (can (p.tot h y J))
variable (p : LP)
def golL : List Q2 := cl p.n p.g
def rowL (r : Nat) : Row := (⟨cl p.n (p.a r)⟩, can (p.b r))
def rowsL : List Row := (List.range p.m).map p.rowL
def stL : List St2 := (List.range p.n).map fun j => (can (p.l j), can (p.u j))
/-- sizes of all that a search meets -/
structure LpZ (N Z : Nat) : Prop where
  n12 : p.n ≤ 12
  m80 : p.m ≤ 80
  N0 : 0 < N
  z1 : (p.n + 2) * (2 * Z) < 9000
  z2 : 4 * Z ≤ 8900
  a : ∀ r j, r < p.m → j < p.n → Nm Z (can (p.a r j))
  b : ∀ r, r < p.m → Nm Z (can (p.b r))
  g : ∀ j, j < p.n → Nm Z (can (p.g j))
  l : ∀ j, j < p.n → Nm Z (can (p.l j))
  u : ∀ j, j < p.n → Nm Z (can (p.u j))
  L : ∀ s, p.Inv2 (N : Rat) s → ∀ k j, k < p.n → j < p.n → Nm Z (can (s.L k j))
  x : ∀ s, p.Inv2 (N : Rat) s → ∀ k, k < p.n → Nm Z (can (s.x k))
  sh : ∀ s, p.Inv2 (N : Rat) s → ∀ c k, k < p.n → Nm Z (can (p.sh s c k))
  v : ∀ s, p.Inv2 (N : Rat) s → ∀ j, j < p.n → Nm Z (can (p.v s j))
  sl : ∀ s, p.Inv2 (N : Rat) s → p.ShZ p.g (p.y s) Z
  sn : ∀ s q, p.Inv2 (N : Rat) s → q < p.N → (∀ k, k < p.n → p.sh s q k ≤ 0) → p.ShZ (fun _ => 0) (p.ray s q) Z
end LP
section
variable {p : LP} {N Z M Nb Mb : Nat}
theorem rowsL_len : p.rowsL.length = p.m := range_map_len
theorem stL_len : p.stL.length = p.n := range_map_len
theorem golL_len : p.golL.length = p.n := cl_len
theorem il_len {n : Nat} {B : Nat → Nat} : (il n B).length = n := range_map_len
theorem ll_len {n m : Nat} {L : Nat → Nat → Rat} : (ll n m L).length = n := range_map_len
theorem fr_of_int {M : Nat} {q : Rat} {k : Nat} (h : IntB M ((k : Rat) * q)) (h0 : 0 < k) (hk : k ≤ M) : Fr M q := by
  obtain ⟨t, e, ht⟩ := h
  refine ⟨t, k, by omega, ?_, ht, by rw [Int.natAbs_natCast]; exact hk⟩
  rw [← e]
  show q * ((k : Int) : Rat) = (k : Rat) * q
  rw [Rat.mul_comm]
  rfl
theorem nz_pos {y : Nat → Rat} {m : Nat} (h : ∀ r, r < m → 0 ≤ y r) : cnt (fun r => !decide ((can (y r)).1 = 0)) m = cnt (fun r => decide (0 < y r)) m := cnt_congr fun r hr => by
  have := h r hr
  by_cases c : y r = 0
  · rw [c]; decide
  · have a : ¬ (can (y r)).1 = 0 := fun z => c (can_num0.mp z)
    have b : 0 < y r := by grind
    simp [a, b]
theorem LP.Size.lpz (h : p.Size N M Nb Mb) (n12 : p.n ≤ 12) (m80 : p.m ≤ 80) (hQ : (p.n + 1) * ((p.m + 1) * ((p.n * M) ^ p.n * M * Mb)) < 2 ^ Z) (z1 : (p.n + 2) * (2 * Z) < 9000) (z2 : 4 * Z ≤ 8900) : p.LpZ N Z := by
  have M0 : 0 < M := Nat.lt_of_lt_of_le h.n0 h.nm
  have B0 : 0 < Mb := Nat.lt_of_lt_of_le h.b0 h.bm
  have D0 : 0 < (p.n * M) ^ p.n := by
    by_cases c : p.n = 0
    · rw [c, Nat.pow_zero]; decide
    · exact Nat.pow_pos (Nat.mul_pos (by omega) M0)
  have up : (p.n * M) ^ p.n * M * Mb ≤ (p.n + 1) * ((p.m + 1) * ((p.n * M) ^ p.n * M * Mb)) :=
    Nat.le_trans (Nat.le_mul_of_pos_left _ (Nat.succ_pos p.m)) (Nat.le_mul_of_pos_left _ (Nat.succ_pos p.n))
  have hw : (p.n * M) ^ p.n < 2 ^ Z := by
    refine Nat.lt_of_le_of_lt (Nat.le_trans ?_ up) hQ
    exact Nat.le_trans (Nat.le_mul_of_pos_right _ M0) (Nat.le_mul_of_pos_right _ B0)
  have hM : M < 2 ^ Z := by
    refine Nat.lt_of_le_of_lt (Nat.le_trans ?_ up) hQ
    exact Nat.le_trans (Nat.le_mul_of_pos_left _ D0) (Nat.le_mul_of_pos_right _ B0)
  have hb : Mb < 2 ^ Z := by
    refine Nat.lt_of_le_of_lt (Nat.le_trans ?_ up) hQ
    exact Nat.le_mul_of_pos_left _ (Nat.mul_pos D0 M0)
  have hA : (p.n + 1) * (Mb * (p.n * M) ^ p.n) < 2 ^ Z := by
    refine Nat.lt_of_le_of_lt (Nat.mul_le_mul_left _ ?_) hQ
    refine Nat.le_trans ?_ (Nat.le_mul_of_pos_left _ (Nat.succ_pos p.m))
    rw [Nat.mul_comm Mb]
    exact Nat.mul_le_mul_right _ (Nat.le_mul_of_pos_right _ M0)
  have cb : ∀ q : Rat, IntB Mb (q * (Nb : Rat)) → Nm Z (can q) := fun q hq => (fr_of_int (by rw [Rat.mul_comm]; exact hq) h.b0 h.bm).nm hb
  refine ⟨n12, m80, h.n0, z1, z2, fun r j hr hj => (fr_of_int (h.col r j hr hj) h.n0 h.nm).nm hM, fun r hr => cb _ (h.b r hr), fun j hj => (fr_of_int (h.g j hj) h.n0 h.nm).nm hM, fun j hj => cb _ (h.l j hj), fun j hj => cb _ (h.u j hj),
    fun s I k j hk hj => (h.L I hk hj).nm hw, fun s I k hk => (h.x I hk).nm hw, fun s I c k hk => (h.sh I hk).nm hw, fun s I j hj => (h.v I hj).nm hA, fun s I => ?_, fun s q I hq hs => ?_⟩
  · obtain ⟨a, b, c⟩ := LP.sums_fr h (h := p.g) (y := p.y s) h.W I.w (fun r _ => h.y_int I r) h.g
    refine ⟨fun r hr => (a r hr).nm hQ, ?_, fun j hj => (fr_of_int (h.g j hj) h.n0 h.nm).nm hM, fun j hj => (b j hj).1.nm hQ, fun j hj => (b j hj).2.nm hQ, fun J hJ => (c J hJ).nm hQ⟩
    rw [nz_pos fun r _ => I.inv.y_nn r]
    exact Nat.le_trans (cnt_yF p.n) (by omega)
  · obtain ⟨a, b, c⟩ := LP.sums_fr h (h := fun _ => 0) (y := p.ray s q) h.W I.w (fun r _ => h.ray_int I q r) fun j _ => by rw [Rat.mul_zero]; exact IntB.zero
    refine ⟨fun r hr => (a r hr).nm hQ, ?_, fun j hj => ?_, fun j hj => (b j hj).1.nm hQ, fun j hj => (b j hj).2.nm hQ, fun J hJ => (c J hJ).nm hQ⟩
    · rw [nz_pos fun r _ => I.inv.ray_nn hs r]
      exact Nat.le_trans cnt_ray (by omega)
    · exact (Fr.mono ⟨0, 1, by decide, by rw [Rat.zero_mul]; rfl, Nat.zero_le _, Nat.le_refl _⟩ (Nat.succ_le_of_lt M0)).nm hM
theorem LP.LpZ.zn (h : p.LpZ N Z) : p.n * (Z + Z) < 9000 := by
  have := h.z1
  rw [Nat.two_mul, Nat.add_mul] at this
  omega
theorem LP.LpZ.colN (h : p.LpZ N Z) {c j : Nat} (hc : c < p.m) (hj : j < p.n) : Nm Z (can (p.col c j)) := by
  unfold LP.col
  rw [if_pos hc]
  exact h.a c j hc hj
theorem LP.LpZ.cstN (h : p.LpZ N Z) {c : Nat} (hc : c < p.N) : Nm Z (can (p.cst c)) := by
  unfold LP.N at hc
  unfold LP.cst
  split
  · exact h.b c (by assumption)
  · split
    · exact h.l _ (by omega)
    · have := h.u (c - p.m - p.n) (by omega)
      rw [can_neg]
      exact ⟨this.pos, by show (-_ : Int).natAbs < _; rw [Int.natAbs_neg]; exact this.t, this.b⟩
theorem db_nil1 {X : Cx} {ρ : Type} [Enc ρ] {sts : List Stmt} {δ : List Slot} {μ : List Cell} {N B C B' C' : PN} {R R' : ρ → List Cell → Prop} (h : DB X sts δ μ N R B C) : DB X [] δ μ (fun δ' μ' => DB X sts δ' μ' N R B C) R' B' C' := db_nil h
/-! ### the tableau -/
def tabF (p : LP) (ca aa la : Addr) : Flds := [("rows", sl (Tup.mk p.rowsL)), ("stretches", sl (Tup.mk p.stL)), ("columns", sl (Ref.mk ca)), ("amounts", sl (Ref.mk aa)), ("lines", sl (Ref.mk la))]
abbrev tabO (C o dx ca aa la : Addr) (p : LP) : Cell := ObjC o dx C (tabF p ca aa la)
abbrev tabM (C o dx ca aa la : Addr) (p : LP) (s : SS) : List Cell := [tabO C o dx ca aa la p, lst ca (il p.n s.B), lst aa (cl p.n s.x), lst la (ll p.n p.n s.L)]
structure TabK (K : PySem.W.Frag) (C : Addr) : Prop where
  cls : Cls K C
  rows : NoAttr K C "rows"
  stretches : NoAttr K C "stretches"
  columns : NoAttr K C "columns"
  amounts : NoAttr K C "amounts"
  lines : NoAttr K C "lines"
theorem lk_rows {ca aa la : Addr} : (tabF p ca aa la).lookup ("rows" : Str) = some (sl (Tup.mk p.rowsL)) := rfl
theorem lk_stretches {ca aa la : Addr} : (tabF p ca aa la).lookup ("stretches" : Str) = some (sl (Tup.mk p.stL)) := rfl
theorem lk_columns {ca aa la : Addr} : (tabF p ca aa la).lookup ("columns" : Str) = some (sl (Ref.mk ca)) := rfl
theorem lk_amounts {ca aa la : Addr} : (tabF p ca aa la).lookup ("amounts" : Str) = some (sl (Ref.mk aa)) := rfl
theorem lk_lines {ca aa la : Addr} : (tabF p ca aa la).lookup ("lines" : Str) = some (sl (Ref.mk la)) := rfl
/-! ### what the steps of a search tell -/
def BrokenS (p : LP) (s : SS) : Option Int → Prop
  | none => ∀ c, c < p.N → p.rc s c ≤ 0
  | some i => ∃ q : Nat, i = q ∧ q < p.N ∧ 0 < p.rc s q ∧ ∀ c, c < q → p.rc s c ≤ 0
def LeavingS (p : LP) (s : SS) (q : Nat) : Option Int → Prop
  | none => ∀ k, k < p.n → p.sh s q k ≤ 0
  | some i => ∃ j : Nat, i = j ∧ j < p.n ∧ 0 < p.sh s q j ∧ ∀ k, k < p.n → 0 < p.sh s q k → s.x j * p.sh s q k < s.x k * p.sh s q j ∨ (s.x j * p.sh s q k = s.x k * p.sh s q j ∧ s.B j ≤ s.B k)
/-- the best place so far -/
def BestS (p : LP) (s : SS) (q k : Nat) : Option Int → Prop
  | none => ∀ i, i < k → p.sh s q i ≤ 0
  | some i => ∃ j : Nat, i = j ∧ j < k ∧ 0 < p.sh s q j ∧ ∀ i, i < k → 0 < p.sh s q i → s.x j * p.sh s q i < s.x i * p.sh s q j ∨ (s.x j * p.sh s q i = s.x i * p.sh s q j ∧ s.B j ≤ s.B i)
theorem cross_lt {a b x y : Rat} (ha : 0 < a) (hb : 0 < b) : x * b < y * a ↔ x / a < y / b := by
  have e1 : x / a * (a * b) = x * b := by grind
  have e2 : y / b * (a * b) = y * a := by grind
  rw [← e1, ← e2]
  exact Rat.mul_lt_mul_right (Rat.mul_pos ha hb)
theorem cross_eq {a b x y : Rat} (ha : 0 < a) (hb : 0 < b) : x * b = y * a ↔ x / a = y / b := by
  constructor
  · intro h; grind
  · intro h; grind
theorem best_keep {s : SS} {q k j : Nat} (hj : BestS p s q k (some (j : Int))) (h : p.sh s q k ≤ 0 ∨ s.x j * p.sh s q k < s.x k * p.sh s q j ∨ (s.x j * p.sh s q k = s.x k * p.sh s q j ∧ s.B j ≤ s.B k)) : BestS p s q (k + 1) (some (j : Int)) := by
  obtain ⟨j', e, h1, h2, h3⟩ := hj
  have e : j = j' := by omega
  subst e
  refine ⟨j, rfl, by omega, h2, fun i hi h0 => ?_⟩
  by_cases c : i = k
  · subst c
    rcases h with h | h
    · grind
    · exact h
  · exact h3 i (by omega) h0
theorem best_new {s : SS} {q k j : Nat} (hj : BestS p s q k (some (j : Int))) (h0 : 0 < p.sh s q k) (h : s.x k * p.sh s q j < s.x j * p.sh s q k ∨ (s.x k * p.sh s q j = s.x j * p.sh s q k ∧ s.B k ≤ s.B j)) : BestS p s q (k + 1) (some (k : Int)) := by
  obtain ⟨j', e, h1, h2, h3⟩ := hj
  have e : j = j' := by omega
  subst e
  refine ⟨k, rfl, by omega, h0, fun i hi hp => ?_⟩
  by_cases c : i = k
  · subst c; exact .inr ⟨rfl, Nat.le_refl _⟩
  · have a := h3 i (by omega) hp
    rw [cross_lt h2 hp, cross_eq h2 hp] at a
    rw [cross_lt h0 h2, cross_eq h0 h2] at h
    rw [cross_lt h0 hp, cross_eq h0 hp]
    rcases h with h | h <;> rcases a with a | a
    · exact .inl (by grind)
    · exact .inl (by grind)
    · exact .inl (by grind)
    · exact .inr ⟨by grind, by omega⟩
theorem best_first {s : SS} {q k : Nat} (hj : BestS p s q k none) (h0 : 0 < p.sh s q k) : BestS p s q (k + 1) (some (k : Int)) :=
  ⟨k, rfl, by omega, h0, fun i hi hp => by
    by_cases c : i = k
    · subst c; exact .inr ⟨rfl, Nat.le_refl _⟩
    · have := hj i (by omega); grind⟩
theorem best_none {s : SS} {q k : Nat} (hj : BestS p s q k none) (h0 : p.sh s q k ≤ 0) : BestS p s q (k + 1) none := fun i hi => by
  by_cases c : i = k
  · subst c; exact h0
  · exact hj i (by omega)
abbrev Ans := T4 Str Q2 (Tup Q2) (Tup Q2) ⊕ (Str × Tup Q2)
def ansL (p : LP) (s : SS) : Ans := .inl ⟨"least", can (Sm p.n fun j => p.g j * p.v s j), ⟨cl p.n (p.v s)⟩, ⟨cl p.m (p.y s)⟩⟩
def ansN (p : LP) (s : SS) (q : Nat) : Ans := .inr ("none", ⟨cl p.m (p.ray s q)⟩)
end
end Dl
namespace Dl
open PySem PySem.Spec PyProof.Rows L2
namespace LP
structure InZ (p : LP) (Z : Nat) : Prop where
  n30 : p.n ≤ 30
  m100 : p.m ≤ 100
  z1 : (p.n + 2) * (Z + Z) < 9000
  z2 : 4 * Z ≤ 8900
  a : ∀ r j, r < p.m → j < p.n → Nm Z (can (p.a r j))
  b : ∀ r, r < p.m → Nm Z (can (p.b r))
  l : ∀ j, j < p.n → Nm Z (can (p.l j))
  u : ∀ j, j < p.n → Nm Z (can (p.u j))
theorem InZ.zn {p : LP} {Z : Nat} (h : p.InZ Z) : p.n * (Z + Z) < 9000 := by
  have := h.z1
  rw [Nat.add_mul] at this
  omega
theorem LpZ.inz {p : LP} {N Z : Nat} (h : p.LpZ N Z) : p.InZ Z := ⟨Nat.le_trans h.n12 (by decide), Nat.le_trans h.m80 (by decide), by have := h.z1; rwa [Nat.two_mul] at this, h.z2, h.a, h.b, h.l, h.u⟩
/-- the point keeps all -/
structure Feas (p : LP) (x : Nat → Rat) : Prop where
  st : ∀ j, j < p.n → p.l j ≤ x j ∧ x j ≤ p.u j
  rows : ∀ r, r < p.m → p.b r ≤ Sm p.n fun j => p.a r j * x j
theorem Least.feas {p : LP} {s : SS} (k : p.Least s) : p.Feas (p.v s) := ⟨fun j hj => ⟨k.low j hj, k.high j hj⟩, k.rows⟩
end LP
/-- sizes of a row's sum -/
theorem dot_nm {n Z : Nat} {a b : Nat → Rat} (h1 : ∀ k, k < n → Nm Z (can (a k))) (h2 : ∀ k, k < n → Nm Z (can (b k))) : Nm (n * (Z + Z + 1) + 1) (can (Sm n fun k => a k * b k)) := by
  have := fdot_Nm (X := fun k => can (a k)) (Y := fun k => can (b k)) (n := n) h1 h2
  rwa [fdot_can (a := a) (b := b) (fun _ _ => rfl) fun _ _ => rfl] at this
section
variable {X : Cx} {i j : Nat} {x y : Str} {px py pt : Pos} {kt : _}
theorem pg_pair (hc : X.calm = true) (hN : X.N.Nodup) (hi : X.N[i]? = some x := by rfl) (hj : X.N[j]? = some y := by rfl)
    (hx : Loc X.env.scope x := by first | exact Or.inl rfl | exact Or.inr rfl) (hy : Loc X.env.scope y := by first | exact Or.inl rfl | exact Or.inr rfl)
    (hf : X.fn x = true ∨ X.env.scope.names.lookup x = some .local := by first | exact .inl rfl | exact .inr rfl) (hf2 : X.fn y = true ∨ X.env.scope.names.lookup y = some .local := by first | exact .inl rfl | exact .inr rfl)
    (hn : (assignEach [.Name x px, .Name y py] X.env).length = 2 := by rfl) (hst : (assignEach [.Name x px, .Name y py] X.env).findIdx? (·.1) = none := by rfl)
    (hs1 : (assignEach [.Name x px, .Name y py] X.env).map (·.2) = assign (.Name x px) X.env :: (assignEach [.Name y py] X.env).map (·.2) := by rfl) (hs2 : (assignEach [.Name y py] X.env).map (·.2) = assign (.Name y py) X.env :: (assignEach [] X.env).map (·.2) := by rfl) :
    PG X (.Tuple [.Name x px, .Name y py] kt pt) (gTup X.K 2 (gCons (gName i) (gCons (gName j) gNil))) :=
  pg_tup hc (pgs_cons (pg_name (i := i) hN hi hx hf) (pgs_cons (pg_name (i := j) hN hj hy hf2) pgs_nil hs2) hs1) hn hst
end
section
variable {X : Cx} {α : Type} [Enc α] {a : Expr} {δ : List Slot} {μ : List Cell} {pos : Pos}
/-- list(xs) of a list that stays: a new list that is to change -/
theorem de_listL {p : Pos} {P : Ref → List Cell → Prop} (hm : X.mg "list" = none) (h : DE X a δ μ fun (xs : List α) μ1 => ∀ l, P ⟨l⟩ (μ1 ++ [lst l xs])) (hg : Gl X "list" := by rfl)
    (he : starEach [a] X.env = (false, eval a X.env) :: starEach [] X.env := by rfl) (hpl : (backTo pos (starEach [] X.env)).any (·.1) = false := by rfl) : DE X (.Call (.Name "list" p) [a] [] pos) δ μ P :=
  of_pe (pe_callTy call_list_of hg hm (by decide +kernel) (pa_cons (cE_pe a) pa_nil he) (by decide) (by decide) he hpl) fun M σ H E Q q => h M σ H E _ fun xs μ1 M1 v1 H1 p1 s1 hh1 r1 => by
    obtain ⟨ad, vs, rfl, nm, rd, rp⟩ := r1
    refine ⟨ad, vs, rfl, .inl (.inl rd), fun c hc => ?_⟩
    obtain ⟨s2, h2⟩ := new_cell hh1 hc rp
    exact q ⟨c⟩ _ _ _ _ (p1 c) (s1.trans s2) h2 rfl
/-- the last cell's list is left as it is -/
theorem de_frzL {P : List α → List Cell → Prop} (h : DE X a δ μ fun (x : Ref) μ1 => ∃ μ0 xs, μ1 = μ0 ++ [lst x.a xs] ∧ P xs μ0) : DE X a δ μ P := fun M σ H E Q q => h M σ H E _ fun x μ1 M1 v H1 p1 s1 hh1 r1 => by
  obtain ⟨μ0, xs, rfl, p⟩ := p1
  obtain ⟨s2, h2, r2⟩ := freeze (μ' := []) hh1
  cases r1
  rw [List.append_nil] at s2 h2
  exact q xs _ _ _ _ p (s1.trans s2) h2 r2
def seqL (x : Tup α ⊕ List α) : List α := match x with
  | .inl t => t.l
  | .inr l => l
/-- list(xs) of a tuple or a list, left as it is -/
theorem de_listE {p : Pos} {P : List α → List Cell → Prop} (x : Tup α ⊕ List α) (hm : X.mg "list" = none) (h : DE X a δ μ fun (y : Tup α ⊕ List α) μ1 => y = x ∧ P (seqL x) μ1) (hg : Gl X "list" := by rfl)
    (he : starEach [a] X.env = (false, eval a X.env) :: starEach [] X.env := by rfl) (hpl : (backTo pos (starEach [] X.env)).any (·.1) = false := by rfl) : DE X (.Call (.Name "list" p) [a] [] pos) δ μ P := by
  cases x with
  | inl t => exact de_frzL (de_list hm (de_inl (h.mono fun y μ1 hy => ⟨t, hy.1, fun l => ⟨μ1, _, rfl, hy.2⟩⟩)) hg he hpl)
  | inr t => exact de_frzL (de_listL hm (de_inr (h.mono fun y μ1 hy => ⟨t, hy.1, fun l => ⟨μ1, _, rfl, hy.2⟩⟩)) hg he hpl)
end
/-! ### ranks -/
abbrev Vec := Tup Q2 ⊕ List Q2
/-- kept rows as the program holds them: the oldest first -/
def keptL (n : Nat) (ks : List KR) : List (Int × List Q2) := ks.reverse.map fun k => (((k.1 : Nat) : Int), cl n k.2)
theorem keptL_cons {n : Nat} {k : KR} {ks : List KR} : keptL n (k :: ks) = keptL n ks ++ [(((k.1 : Nat) : Int), cl n k.2)] := by
  unfold keptL
  rw [List.reverse_cons, List.map_append]; rfl
theorem keptL_len {n : Nat} {ks : List KR} : (keptL n ks).length = ks.length := by unfold keptL; simp
/-- the first i of the kept rows, the latest first -/
def firstK (ks : List KR) (i : Nat) : List KR := ks.drop (ks.length - i)
theorem firstK_zero {ks : List KR} : firstK ks 0 = [] := by unfold firstK; rw [Nat.sub_zero, List.drop_length]
theorem firstK_all {ks : List KR} : firstK ks ks.length = ks := by unfold firstK; rw [Nat.sub_self, List.drop_zero]
theorem firstK_step {n : Nat} {ks : List KR} {i : Nat} {x : Int × List Q2} (h : (keptL n ks)[i]? = some x) : ∃ k, firstK ks (i + 1) = k :: firstK ks i ∧ k ∈ ks ∧ x = (((k.1 : Nat) : Int), cl n k.2) := by
  have hi : i < ks.length := by
    have := (List.getElem?_eq_some_iff.mp h).1
    rwa [keptL_len] at this
  unfold keptL at h
  rw [List.getElem?_map, List.getElem?_reverse hi] at h
  have hj : ks.length - 1 - i < ks.length := by omega
  rw [List.getElem?_eq_getElem hj] at h
  refine ⟨ks[ks.length - 1 - i], ?_, List.getElem_mem hj, by simpa using h.symm⟩
  unfold firstK
  rw [show ks.length - (i + 1) = ks.length - 1 - i by omega, List.drop_eq_getElem_cons hj, show ks.length - 1 - i + 1 = ks.length - i by omega]
theorem firstK_len {ks : List KR} {i : Nat} (h : i ≤ ks.length) : (firstK ks i).length = i := by unfold firstK; rw [List.length_drop]; omega
theorem ech_drop {n : Nat} : ∀ {i : Nat} {ks : List KR}, Ech n ks → Ech n (ks.drop i)
  | 0, _, h => h
  | _ + 1, [], h => h
  | i + 1, _ :: ks, h => ech_drop (i := i) (ks := ks) h.2
/-- kept rows, each from a row of its own -/
def KpA (n N M : Nat) : List KR → Prop
  | [] => True
  | k :: ks => (∃ v : Nat → Rat, k.2 = redAll ks v ∧ (∀ j, j < n → IntB M ((N : Rat) * v j)) ∧ k.1 < n ∧ k.2 k.1 ≠ 0) ∧ KpA n N M ks
theorem KpA.kp {n N M : Nat} : ∀ {ks : List KR}, KpA n N M ks → Kp n N M ks
  | [], _ => Kp.nil
  | (p, r) :: ks, h => by
    obtain ⟨⟨v, e, a, b, c⟩, t⟩ := h
    have e : r = redAll ks v := e
    subst e
    exact (KpA.kp t).cons a b c
theorem KpA.drop {n N M : Nat} : ∀ {i : Nat} {ks : List KR}, KpA n N M ks → KpA n N M (ks.drop i)
  | 0, _, h => h
  | _ + 1, [], h => h
  | i + 1, _ :: ks, h => KpA.drop (i := i) (ks := ks) h.2
theorem KpA.size {n N M Z : Nat} {ks : List KR} {v : Nat → Rat} (h : KpA n N M ks) (hv : ∀ j, j < n → IntB M ((N : Rat) * v j)) (hN : 0 < N) (hM : N ≤ M) (hZ : (n * M) ^ (n + 1) < 2 ^ Z) {j : Nat} (hj : j < n) : Nm Z (can (redAll ks v j)) := by
  have := h.kp.size hv hN hM hj
  refine this.nm (Nat.lt_of_le_of_lt ?_ hZ)
  have l := ech_len h.kp.ech
  exact Nat.pow_le_pow_right (Nat.mul_pos (by omega) (by omega)) (by omega)
theorem KpA.rowZ {n N M Z : Nat} : ∀ {ks : List KR}, KpA n N M ks → 0 < N → N ≤ M → (n * M) ^ (n + 1) < 2 ^ Z → ∀ k, k ∈ ks → k.1 < n ∧ k.2 k.1 ≠ 0 ∧ ∀ j, j < n → Nm Z (can (k.2 j))
  | [], _, _, _, _, k, hk => absurd hk List.not_mem_nil
  | q :: ks, h, hN, hM, hZ, k, hk => by
    rcases List.mem_cons.mp hk with rfl | hk
    · obtain ⟨⟨v, e, a, b, c⟩, t⟩ := h
      refine ⟨b, c, fun j hj => ?_⟩
      rw [e]
      exact t.size a hN hM hZ hj
    · exact KpA.rowZ h.2 hN hM hZ k hk
/-- a quotient of two numbers, of either sign -/
theorem quo_can {r o : Rat} (h : o ≠ 0) : can ((((can r).1 * (can o).2 : Int) : Rat) / (((can r).2 * (can o).1 : Int) : Rat)) = can (r / o) := by
  have n1 := cast_ne (can_pos r)
  have n2 := cast_ne (can_pos o)
  have q1 := qv_can r
  have q2 := qv_can o
  unfold qv at q1 q2
  have o1 : ((can o).1 : Rat) ≠ 0 := fun z => h (by rw [← q2, z]; grind)
  congr 1
  rw [Rat.intCast_mul, Rat.intCast_mul]
  generalize ((can r).1 : Rat) = x1 at *
  generalize ((can o).1 : Rat) = x2 at *
  generalize ((can r).2 : Rat) = y1 at *
  generalize ((can o).2 : Rat) = y2 at *
  rw [← q1, ← q2]
  grind
theorem quo_nm {r o : Rat} {Z : Nat} (h : o ≠ 0) (h1 : Nm Z (can r)) (h2 : Nm Z (can o)) : Nm (Z + Z) (can (r / o)) := by
  rw [← quo_can h]
  have o1 : (can o).1 ≠ 0 := fun z => h (can_num0.mp z)
  have a := natAbs_lt_mul h1.t h2.b
  have b := natAbs_lt_mul h1.b h2.t
  have p := h1.pos
  generalize (can r).1 * (can o).2 = t at a
  have n0 : (can r).2 * (can o).1 ≠ 0 := by
    intro z
    rcases Int.mul_eq_zero.mp z with z | z
    · omega
    · exact o1 z
  generalize (can r).2 * (can o).1 = d at b n0
  by_cases c : 0 < d
  · rw [← lo_can c]; exact Nm.lo c a b
  · have e : (t : Rat) / (d : Rat) = ((-t : Int) : Rat) / ((-d : Int) : Rat) := by
      rw [Rat.intCast_neg, Rat.intCast_neg]; grind
    rw [e, ← lo_can (by omega)]
    exact Nm.lo (by omega) (by rw [Int.natAbs_neg]; exact a) (by rw [Int.natAbs_neg]; exact b)
section
variable {X : Cx} {α β γ ε : Type} [Enc α] [Enc β] [Enc γ] [Enc ε] {a : Expr} {δ : List Slot} {μ : List Cell} {pos p : Pos}
theorem de_len4 {P : Int → List Cell → Prop} (hm : X.mg "len" = none) (h : DE X a δ μ fun (xs : T4 α β γ ε) μ1 => P 4 μ1) (hg : Gl X "len" := by rfl)
    (he : starEach [a] X.env = (false, eval a X.env) :: starEach [] X.env := by rfl) (hpl : (backTo pos (starEach [] X.env)).any (·.1) = false := by rfl) : DE X (.Call (.Name "len" p) [a] [] pos) δ μ P :=
  de_cb call_len hm PySem.boot_len (da_cons (h.mono fun i μ1 q => da_nil ⟨_, q, fun M H vs r Q k => by
    cases r with
    | cons r1 r =>
      cases r
      obtain ⟨ad, v1, v2, v3, v4, rfl, rd, rp⟩ := r1
      exact ⟨_, 4, rfl, .inr ⟨_, rd, rfl⟩, k _ rfl⟩⟩) he) hg (by decide) (by decide) he hpl
end
/-! ### corners -/
namespace LP
/-- sizes of the rows too -/
structure LpA (p : LP) (N M Z : Nat) : Prop where
  z : p.LpZ N Z
  nm : N ≤ M
  col : ∀ r j, r < p.m → j < p.n → IntB M ((N : Rat) * p.a r j)
  rk : (p.n * M) ^ (p.n + 1) < 2 ^ Z
  lu : ∀ j, j < p.n → p.l j ≤ p.u j
def unitR (j : Nat) : Nat → Rat := fun k => if k = j then 1 else 0
theorem corner_span {p : LP} {s : SS} (I : p.Inv s) {vs : List (Nat → Rat)} (h1 : ∀ r, r < p.m → (Sm p.n fun j => p.a r j * p.v s j) = p.b r → p.a r ∈ vs) (h2 : ∀ j, j < p.n → (p.v s j = p.l j ∨ p.v s j = p.u j) → unitR j ∈ vs) {ks : List KR} (e : Ech p.n ks)
    (h : ∀ x : Nat → Rat, (∀ k, k ∈ ks → dotR p.n k.2 x = 0) → ∀ v, v ∈ vs → dotR p.n v x = 0) : ks.length = p.n := by
  refine rank_full I e fun x hx k hk => ?_
  have hs := h x hx
  have hb := I.bd k hk
  have ht := I.tight hk
  unfold LP.N at hb
  by_cases c1 : s.B k < p.m
  · rw [dv_row c1, cst_row c1] at ht
    have := hs _ (h1 _ c1 ht)
    unfold dotR at this ⊢
    rw [← this]
    refine Sm_eq fun j _ => ?_
    unfold col
    rw [if_pos c1]
  · by_cases c2 : s.B k < p.m + p.n
    · have hj : s.B k - p.m < p.n := by omega
      have e1 : p.m + (s.B k - p.m) = s.B k := by omega
      have a1 := dv_low (p := p) (s := s) hj
      have a2 := cst_low (p := p) hj
      rw [e1] at a1 a2
      rw [a1, a2] at ht
      have := hs _ (h2 _ hj (.inl ht))
      unfold dotR at this ⊢
      rw [← this]
      refine Sm_eq fun j _ => ?_
      unfold col unitR
      rw [if_neg c1, if_pos c2]
      by_cases z : s.B k - p.m = j
      · rw [if_pos z, if_pos z.symm]
      · rw [if_neg z, if_neg (fun w => z w.symm)]
    · have hj : s.B k - p.m - p.n < p.n := by omega
      have e1 : p.m + p.n + (s.B k - p.m - p.n) = s.B k := by omega
      have a1 := dv_high (p := p) (s := s) hj
      have a2 := cst_high (p := p) (j := s.B k - p.m - p.n)
      rw [e1] at a1 a2
      rw [a1, a2] at ht
      have := hs _ (h2 _ hj (.inr (by grind)))
      unfold dotR at this ⊢
      rw [Sm_eq (g := fun j => (-1) * (unitR (s.B k - p.m - p.n) j * x j)) fun j _ => by
        unfold col unitR
        rw [if_neg c1, if_neg c2]
        by_cases z : s.B k - p.m - p.n = j
        · rw [if_pos z, if_pos z.symm]; grind
        · rw [if_neg z, if_neg (fun w => z w.symm)]; grind, Sm_mull, this]
      grind
end LP
end Dl
namespace Dl
open PySem PySem.Spec PyProof.Rows L2
/-! ### numbers of a size: N times the number is whole, at most M -/
def Sz (N M : Nat) (q : Rat) : Prop := IntB M (q * (N : Rat))
theorem Sz.add {N M M' : Nat} {a b : Rat} (h : Sz N M a) (h' : Sz N M' b) : Sz N (M + M') (a + b) := by
  have := IntB.add h h'
  unfold Sz
  rw [show (a + b) * (N : Rat) = a * (N : Rat) + b * (N : Rat) by grind]; exact this
theorem Sz.neg {N M : Nat} {a : Rat} (h : Sz N M a) : Sz N M (-a) := by
  have := IntB.neg h
  unfold Sz
  rw [show (-a) * (N : Rat) = -(a * (N : Rat)) by grind]; exact this
theorem Sz.sub {N M M' : Nat} {a b : Rat} (h : Sz N M a) (h' : Sz N M' b) : Sz N (M + M') (a - b) := by
  have := h.add h'.neg
  rw [show a - b = a + -b by grind]; exact this
theorem Sz.mono {N M M' : Nat} {a : Rat} (h : Sz N M a) (k : M ≤ M') : Sz N M' a := IntB.mono h k
theorem Sz.mul {N N' M M' : Nat} {a b : Rat} (h : Sz N M a) (h' : Sz N' M' b) : Sz (N * N') (M * M') (a * b) := by
  have := IntB.mul h h'
  unfold Sz
  rw [show (a * b) * ((N * N' : Nat) : Rat) = a * (N : Rat) * (b * (N' : Rat)) by rw [Rat.natCast_mul]; grind]; exact this
theorem Sz.scale {N M : Nat} {a : Rat} (h : Sz N M a) (k : Nat) : Sz (N * k) (M * k) a := by
  have := IntB.mul h (LP.int_of_nat (k := k))
  unfold Sz
  rw [show a * ((N * k : Nat) : Rat) = a * (N : Rat) * (k : Rat) by rw [Rat.natCast_mul]; grind]; exact this
theorem Sz.zero {N M : Nat} : Sz N M 0 := by unfold Sz; rw [Rat.zero_mul]; exact IntB.zero
theorem Sz.nat {N k : Nat} : Sz N (k * N) (k : Rat) := by
  have := (LP.int_of_nat (k := k)).mul (LP.int_of_nat (k := N))
  exact this
theorem Sz.int {N k : Nat} {t : Int} (h : t.natAbs ≤ k) : Sz N (k * N) (t : Rat) := by
  have := IntB.mul ⟨t, rfl, h⟩ (LP.int_of_nat (k := N))
  exact this
theorem Sz.quot {N M : Nat} {t b : Int} (k : Nat) (hb : 0 < b) (h : b * (k : Int) = (N : Int)) (ht : t.natAbs * k ≤ M) : Sz N M ((t : Rat) / (b : Rat)) := by
  refine ⟨t * (k : Int), ?_, by rw [Int.natAbs_mul, Int.natAbs_natCast]; exact ht⟩
  have e : (N : Rat) = (b : Rat) * ((k : Int) : Rat) := by
    have : ((N : Int) : Rat) = ((b * (k : Int) : Int) : Rat) := by rw [h]
    rw [Rat.intCast_mul] at this
    exact this
  have n := cast_ne hb
  rw [e, Rat.intCast_mul]
  grind
theorem Sz.nm {N M Z : Nat} {a : Rat} (h : Sz N M a) (h0 : 0 < N) (h1 : N < 2 ^ Z) (h2 : M < 2 ^ Z) : Nm Z (can a) := by
  have n0 : (N : Rat) ≠ 0 := by
    intro z
    have : N = 0 := by exact_mod_cast z
    omega
  have f : Fr (max N M) a := Fr.of_int (IntB.mono h (Nat.le_max_right _ _)) (LP.int_of_nat.mono (Nat.le_max_left _ _)) n0
  exact f.nm (by rcases Nat.le_total N M with e | e
                 · rw [Nat.max_eq_right e]; exact h2
                 · rw [Nat.max_eq_left e]; exact h1)
theorem Sz.left {N M : Nat} {a : Rat} (h : Sz N M a) : IntB M ((N : Rat) * a) := by rw [Rat.mul_comm]; exact h
/-! ### lists by their items -/
theorem cl_exists {P : Rat → Prop} {ys : List Q2} (h : ∀ x, x ∈ ys → ∃ q, x = can q ∧ P q) : ∃ d : Nat → Rat, ys = cl ys.length d ∧ ∀ i, i < ys.length → P (d i) := by
  refine ⟨fun i => qv (ys.getD i (0, 1)), ?_, fun i hi => ?_⟩
  · exact cl_of fun x hx => by
      obtain ⟨q, rfl, _⟩ := h x hx
      exact ⟨can_pos q, can_lo q⟩
  · obtain ⟨q, e, p⟩ := h ys[i] (List.getElem_mem hi)
    show P (qv (ys.getD i (0, 1)))
    rw [List.getD_eq_getElem?_getD, List.getElem?_eq_getElem hi, Option.getD_some, e, qv_can]; exact p
theorem cl_mem {P : Rat → Prop} {n : Nat} {d : Nat → Rat} (h : ∀ i, i < n → P (d i)) : ∀ x, x ∈ cl n d → ∃ q, x = can q ∧ P q := fun x hx => by
  unfold cl at hx
  obtain ⟨i, hi, rfl⟩ := List.mem_map.mp hx
  exact ⟨d i, rfl, h i (by simpa using hi)⟩
theorem mem_snoc {α : Type} {P : α → Prop} {ys : List α} {y : α} (h : ∀ x, x ∈ ys → P x) (hy : P y) : ∀ x, x ∈ ys ++ [y] → P x := fun x hx => by
  rcases List.mem_append.mp hx with hx | hx
  · exact h x hx
  · rw [List.mem_singleton.mp hx]; exact hy
/-- rows by their numbers -/
abbrev MR := (Nat → Rat) × Rat
def rowsOf (n : Nat) (L : List MR) : List Row := L.map fun r => (⟨cl n r.1⟩, can r.2)
def mrAt (L : List MR) (r : Nat) : MR := L.getD r (fun _ => 0, 0)
def stOf (n : Nat) (l u : Nat → Rat) : List St2 := (List.range n).map fun j => (can (l j), can (u j))
/-- the linear program of these -/
def mkP (n : Nat) (L : List MR) (l u g : Nat → Rat) : LP := ⟨n, L.length, fun r => (mrAt L r).1, fun r => (mrAt L r).2, l, u, g⟩
theorem mrAt_mem {L : List MR} {r : Nat} (h : r < L.length) : mrAt L r ∈ L := by
  unfold mrAt
  rw [List.getD_eq_getElem?_getD, List.getElem?_eq_getElem h]
  exact List.getElem_mem h
theorem mem_mrAt {L : List MR} {x : MR} (h : x ∈ L) : ∃ r, r < L.length ∧ mrAt L r = x := by
  obtain ⟨r, hr⟩ := List.getElem?_of_mem h
  refine ⟨r, (List.getElem?_eq_some_iff.mp hr).1, ?_⟩
  unfold mrAt
  rw [List.getD_eq_getElem?_getD, hr]; rfl
section
variable {n : Nat} {L : List MR} {l u g : Nat → Rat}
theorem mkP_rows : (mkP n L l u g).rowsL = rowsOf n L := by
  refine List.ext_getElem? fun r => ?_
  by_cases h : r < L.length
  · rw [show (mkP n L l u g).rowsL = (List.range L.length).map (mkP n L l u g).rowL from rfl, range_map_at h]
    unfold rowsOf
    rw [List.getElem?_map, List.getElem?_eq_getElem h]
    have : mrAt L r = L[r] := by unfold mrAt; rw [List.getD_eq_getElem?_getD, List.getElem?_eq_getElem h]; rfl
    show some ((⟨cl n (mrAt L r).1⟩, can (mrAt L r).2) : Row) = _
    rw [this]; rfl
  · rw [List.getElem?_eq_none (by rw [rowsL_len]; exact Nat.not_lt.mp h), List.getElem?_eq_none (by unfold rowsOf; rw [List.length_map]; omega)]
theorem rowsOf_len : (rowsOf n L).length = L.length := List.length_map ..
theorem rowsOf_app {L' : List MR} : rowsOf n (L ++ L') = rowsOf n L ++ rowsOf n L' := List.map_append ..
theorem rowsOf_at {r : Nat} {x : Row} (h : (rowsOf n L)[r]? = some x) : ∃ y, L[r]? = some y ∧ x = (⟨cl n y.1⟩, can y.2) := by
  unfold rowsOf at h
  rw [List.getElem?_map] at h
  cases e : L[r]? with
  | none => rw [e] at h; cases h
  | some y => rw [e] at h; exact ⟨y, rfl, (Option.some.inj h).symm⟩
theorem rowsOf_drop {i : Nat} : (rowsOf n L).drop i = rowsOf n (L.drop i) := by unfold rowsOf; rw [List.map_drop]
theorem rowsOf_take {i : Nat} : (rowsOf n L).take i = rowsOf n (L.take i) := by unfold rowsOf; rw [List.map_take]
theorem rowsOf_rev : (rowsOf n L).reverse = rowsOf n L.reverse := by unfold rowsOf; rw [List.map_reverse]
theorem mem_turn {α : Type} {L : List α} {i : Nat} {x : α} : x ∈ L.drop i ++ L.take i ↔ x ∈ L := by
  rw [List.mem_append]
  constructor
  · rintro (h | h)
    · exact List.mem_of_mem_drop h
    · exact List.mem_of_mem_take h
  · intro h
    rw [← List.take_append_drop i L] at h
    exact (List.mem_append.mp h).symm
theorem len_turn {α : Type} {L : List α} {i : Nat} (h : i ≤ L.length) : (L.drop i ++ L.take i).length = L.length := by
  rw [List.length_append, List.length_drop, List.length_take]; omega
theorem feas_of {x : Nat → Rat} (h1 : ∀ j, j < n → l j ≤ x j ∧ x j ≤ u j) (h2 : ∀ r, r ∈ L → r.2 ≤ Sm n fun j => r.1 j * x j) : (mkP n L l u g).Feas x := ⟨h1, fun r hr => h2 _ (mrAt_mem hr)⟩
theorem feas_row {x : Nat → Rat} (h : (mkP n L l u g).Feas x) {r : MR} (hr : r ∈ L) : r.2 ≤ Sm n fun j => r.1 j * x j := by
  obtain ⟨k, hk, e⟩ := mem_mrAt hr
  have := h.rows k hk
  rw [← e]; exact this
end
theorem pow_up {n n0 M : Nat} (h : n ≤ n0) (hM : 0 < M) (h0 : 0 < n0) : (n * M) ^ n ≤ (n0 * M) ^ n0 :=
  Nat.le_trans (Nat.pow_le_pow_left (Nat.mul_le_mul_right _ h) n) (Nat.pow_le_pow_right (Nat.mul_pos h0 hM) h)
/-- sizes for the judgement, by bounds -/
theorem lpa_of {p : LP} {N M Nb Mb n0 m0 Z : Nat} (S : p.Size N M Nb Mb) (hn : p.n ≤ n0) (hm : p.m ≤ m0) (n12 : n0 ≤ 12) (m80 : m0 ≤ 80) (n1 : 0 < n0) (hQ : (n0 + 1) * ((m0 + 1) * ((n0 * M) ^ n0 * M * Mb)) < 2 ^ Z) (z1 : (n0 + 2) * (2 * Z) < 9000) (z2 : 4 * Z ≤ 8900) (lu : ∀ j, j < p.n → p.l j ≤ p.u j) : p.LpA N M Z := by
  have M0 : 0 < M := Nat.lt_of_lt_of_le S.n0 S.nm
  have B0 : 0 < Mb := Nat.lt_of_lt_of_le S.b0 S.bm
  have up := pow_up hn M0 n1
  have q1 : (p.n + 1) * ((p.m + 1) * ((p.n * M) ^ p.n * M * Mb)) ≤ (n0 + 1) * ((m0 + 1) * ((n0 * M) ^ n0 * M * Mb)) :=
    Nat.mul_le_mul (by omega) (Nat.mul_le_mul (by omega) (Nat.mul_le_mul_right _ (Nat.mul_le_mul_right _ up)))
  refine ⟨S.lpz (by omega) (by omega) (Nat.lt_of_le_of_lt q1 hQ) (Nat.lt_of_le_of_lt (Nat.mul_le_mul_right _ (by omega)) z1) z2, S.nm, S.col, ?_, lu⟩
  refine Nat.lt_of_le_of_lt ?_ hQ
  have a1 : (p.n * M) ^ (p.n + 1) ≤ (n0 * M) ^ n0 * (n0 * M) := by
    rw [Nat.pow_succ]
    exact Nat.mul_le_mul up (Nat.mul_le_mul_right _ hn)
  refine Nat.le_trans a1 ?_
  have a2 : (n0 * M) ^ n0 * (n0 * M) = n0 * ((n0 * M) ^ n0 * M) := by
    rw [Nat.mul_left_comm]
  rw [a2]
  exact Nat.mul_le_mul (by omega) (Nat.le_trans (Nat.le_mul_of_pos_right _ B0) (Nat.le_mul_of_pos_left _ (by omega)))
/-- where a point keeps all, the answer is the least; where none does, there is none -/
theorem not_ray {p : LP} {N : Nat} {s : SS} (I : p.Inv2 (N : Rat) s) {c : Nat} (hc : c < p.N) (ent : 0 < p.rc s c) (hs : ∀ k, k < p.n → p.sh s c k ≤ 0) (lu : ∀ j, j < p.n → p.l j ≤ p.u j) {x : Nat → Rat} (h : p.Feas x) : False := by
  have a := I.inv.tot_pos hc ent hs lu
  have b := LP.tot_le (p := p) (h := fun _ => 0) (y := p.ray s c) h.rows (fun r _ => I.inv.ray_nn hs r) h.st
  rw [Sm_eq (n := p.n) (f := fun j => (0 : Rat) * x j) (g := fun _ => 0) fun j _ => by grind, Sm_zero] at b
  grind
theorem least_le {p : LP} {N : Nat} {s : SS} (I : p.Inv2 (N : Rat) s) (L : p.Least s) (lu : ∀ j, j < p.n → p.l j ≤ p.u j) {x : Nat → Rat} (h : p.Feas x) : (Sm p.n fun j => p.g j * p.v s j) ≤ Sm p.n fun j => p.g j * x j := by
  rw [← I.inv.tot_eq L lu]
  exact LP.tot_le h.rows (fun r _ => I.inv.y_nn r) h.st
end Dl
namespace Dl
open PySem PySem.Spec PyProof.Rows L2
/-! ### lists of three and five, of several kinds, that stay as they are -/
structure L3 (α β γ : Type) where
  x0 : α
  x1 : β
  x2 : γ
instance {α β γ : Type} [A0 : Enc α] [A1 : Enc β] [A2 : Enc γ] : Enc (L3 α β γ) where
  R K M H v x := ∃ a v0 v1 v2, v = .ref a ∧ ¬ M a ∧ Rd H a (.lst [v0, v1, v2]) ∧ A0.R K M H v0 x.x0 ∧ A1.R K M H v1 x.x1 ∧ A2.R K M H v2 x.x2
  mono k h := by
    obtain ⟨a, v0, v1, v2, e, n, s, r0, r1, r2⟩ := h
    refine ⟨a, v0, v1, v2, e, n, ?_, A0.mono k r0, A1.mono k r1, A2.mono k r2⟩
    rcases s with s | ⟨o, s⟩
    · exact .inl (k _ _ s (.inl n))
    · exact .inr ⟨o, k _ _ s (.inr trivial)⟩
  set k h := by
    obtain ⟨a, v0, v1, v2, e, n, s, r0, r1, r2⟩ := h
    refine ⟨a, v0, v1, v2, e, fun z => ?_, s, A0.set k r0, A1.set k r1, A2.set k r2⟩
    rcases k a z with z | z
    · exact n z
    · rcases s with s | ⟨o, s⟩
      · rw [z] at s; cases s
      · rw [z] at s; cases s
section
variable {X : Cx} {α β γ ρ : Type} [A0 : Enc α] [A1 : Enc β] [A2 : Enc γ] [Enc ρ] {e e0 e1 e2 : Expr} {δ : List Slot} {μ : List Cell} {pos : Pos} {N B C : PN} {R : ρ → List Cell → Prop}
theorem de_lst3 {P : L3 α β γ → List Cell → Prop} (h : DE X e0 δ μ fun (y0 : α) μ1 => DE X e1 δ μ1 fun (y1 : β) μ2 => DE X e2 δ μ2 fun (y2 : γ) μ3 => P ⟨y0, y1, y2⟩ μ3)
    (h0 : starEach [e0, e1, e2] X.env = (false, eval e0 X.env) :: starEach [e1, e2] X.env := by rfl) (h1 : starEach [e1, e2] X.env = (false, eval e1 X.env) :: starEach [e2] X.env := by rfl) (h2 : starEach [e2] X.env = (false, eval e2 X.env) :: starEach [] X.env := by rfl) : DE X (.List [e0, e1, e2] pos) δ μ P :=
  of_pe (pe_lst (pa_cons (cE_pe e0) (pa_cons (cE_pe e1) (pa_cons (cE_pe e2) pa_nil h2) h1) h0)) fun M σ H E Q q => h M σ H E _ fun y0 μ1 M1 u0 H1 p0 s0 hh0 r0 => p0 M1 σ H1 (E.step s0 hh0) _ fun y1 μ2 M2 u1 H2 p1 s1 hh1 r1 => p1 M2 σ H2 (E.step (s0.trans s1) hh1) _ fun y2 μ3 M3 u2 H3 p2 s2 hh2 r2 => ⟨by show 3 ≤ sizeLine; decide, fun p hp => by
    have sL := foot_alloc hh2 hp (.lst [u0, u1, u2])
    refine q ⟨y0, y1, y2⟩ μ3 M3 _ _ p2 (((s0.trans s1).trans s2).trans sL) (hh2.alloc hp _) ⟨p, u0, u1, u2, rfl, fun z => hh2.al _ z hp, .inl upd_same, ?_, ?_, ?_⟩
    · exact tr ((s1.trans s2).trans sL) hh0 r0
    · exact tr (s2.trans sL) hh1 r1
    · exact tr sL hh2 r2⟩
theorem wg_l3 {K : PySem.W.Frag} {i0 i1 i2 : Nat} {x : L3 α β γ} : WG K (gLst K 3 (gCons (gName i0) (gCons (gName i1) (gCons (gName i2) gNil)))) (.val inferInstance x) δ (((δ.set i0 (.val A0 x.x0)).set i1 (.val A1 x.x1)).set i2 (.val A2 x.x2)) :=
  ⟨fun M μ σ H v E r Q k => by
    obtain ⟨a, v0, v1, v2, rfl, nm, hs, r0, r1, r2⟩ := r
    exact ⟨a, [v0, v1, v2], rfl, .inl hs, rfl, v0, [v1, v2], rfl, v1, [v2], rfl, v2, [], rfl, rfl, k _ (((E.put (s := .val A0 x.x0) r0).put (s := .val A1 x.x1) r1).put (s := .val A2 x.x2) r2)⟩⟩
theorem ds_unpackL3 {i0 i1 i2 : Nat} {z0 z1 z2 : Str} {p0 p1 p2 pt : Pos} {kt : _} (hc : X.calm = true) (hN : X.N.Nodup) (h : DE X e δ μ fun (v : L3 α β γ) μ' => N (((δ.set i0 (.val A0 v.x0)).set i1 (.val A1 v.x1)).set i2 (.val A2 v.x2)) μ')
    (hs : swapsWithSole [.Tuple [.Name z0 p0, .Name z1 p1, .Name z2 p2] kt pt] e pos.line X.env = pure false := by rfl) (hw : swappedStores [.Tuple [.Name z0 p0, .Name z1 p1, .Name z2 p2] kt pt] e X.env = pure none := by rfl)
    (h1 : (assignEach [.Tuple [.Name z0 p0, .Name z1 p1, .Name z2 p2] kt pt] X.env).map (·.2) = [assign (.Tuple [.Name z0 p0, .Name z1 p1, .Name z2 p2] kt pt) X.env] := by rfl)
    (n0 : X.N[i0]? = some z0 := by rfl) (n1 : X.N[i1]? = some z1 := by rfl) (n2 : X.N[i2]? = some z2 := by rfl)
    (x0 : Loc X.env.scope z0 := by first | exact Or.inl rfl | exact Or.inr rfl) (x1 : Loc X.env.scope z1 := by first | exact Or.inl rfl | exact Or.inr rfl) (x2 : Loc X.env.scope z2 := by first | exact Or.inl rfl | exact Or.inr rfl)
    (f0 : X.fn z0 = true ∨ X.env.scope.names.lookup z0 = some .local := by first | exact .inl rfl | exact .inr rfl) (f1 : X.fn z1 = true ∨ X.env.scope.names.lookup z1 = some .local := by first | exact .inl rfl | exact .inr rfl) (f2 : X.fn z2 = true ∨ X.env.scope.names.lookup z2 = some .local := by first | exact .inl rfl | exact .inr rfl)
    (hn : (assignEach [.Name z0 p0, .Name z1 p1, .Name z2 p2] X.env).length = 3 := by rfl) (hst : (assignEach [.Name z0 p0, .Name z1 p1, .Name z2 p2] X.env).findIdx? (·.1) = none := by rfl)
    (g0 : (assignEach [.Name z0 p0, .Name z1 p1, .Name z2 p2] X.env).map (·.2) = assign (.Name z0 p0) X.env :: (assignEach [.Name z1 p1, .Name z2 p2] X.env).map (·.2) := by rfl) (g1 : (assignEach [.Name z1 p1, .Name z2 p2] X.env).map (·.2) = assign (.Name z1 p1) X.env :: (assignEach [.Name z2 p2] X.env).map (·.2) := by rfl) (g2 : (assignEach [.Name z2 p2] X.env).map (·.2) = assign (.Name z2 p2) X.env :: (assignEach [] X.env).map (·.2) := by rfl) :
    DS X (.Assign [.Tuple [.Name z0 p0, .Name z1 p1, .Name z2 p2] kt pt] e pos) δ μ N R B C :=
  of_ps (ps_asg (cE_pe e) (pg_lst hc (pgs_cons (pg_name (i := i0) hN n0 x0 f0) (pgs_cons (pg_name (i := i1) hN n1 x1 f1) (pgs_cons (pg_name (i := i2) hN n2 x2 f2) pgs_nil g2) g1) g0) hn hst) hs hw h1) fun M σ H E D n r b c => h M σ H E _ fun v μ' M' w H' p s hh rr =>
    wg_l3.run M' μ' σ H' w (E.step s hh) rr _ fun σ' E' => n _ μ' M' σ' H' p s E'
end
structure L5 (α β γ ε ζ : Type) where
  x0 : α
  x1 : β
  x2 : γ
  x3 : ε
  x4 : ζ
instance {α β γ ε ζ : Type} [A0 : Enc α] [A1 : Enc β] [A2 : Enc γ] [A3 : Enc ε] [A4 : Enc ζ] : Enc (L5 α β γ ε ζ) where
  R K M H v x := ∃ a v0 v1 v2 v3 v4, v = .ref a ∧ ¬ M a ∧ Rd H a (.lst [v0, v1, v2, v3, v4]) ∧ A0.R K M H v0 x.x0 ∧ A1.R K M H v1 x.x1 ∧ A2.R K M H v2 x.x2 ∧ A3.R K M H v3 x.x3 ∧ A4.R K M H v4 x.x4
  mono k h := by
    obtain ⟨a, v0, v1, v2, v3, v4, e, n, s, r0, r1, r2, r3, r4⟩ := h
    refine ⟨a, v0, v1, v2, v3, v4, e, n, ?_, A0.mono k r0, A1.mono k r1, A2.mono k r2, A3.mono k r3, A4.mono k r4⟩
    rcases s with s | ⟨o, s⟩
    · exact .inl (k _ _ s (.inl n))
    · exact .inr ⟨o, k _ _ s (.inr trivial)⟩
  set k h := by
    obtain ⟨a, v0, v1, v2, v3, v4, e, n, s, r0, r1, r2, r3, r4⟩ := h
    refine ⟨a, v0, v1, v2, v3, v4, e, fun z => ?_, s, A0.set k r0, A1.set k r1, A2.set k r2, A3.set k r3, A4.set k r4⟩
    rcases k a z with z | z
    · exact n z
    · rcases s with s | ⟨o, s⟩
      · rw [z] at s; cases s
      · rw [z] at s; cases s
section
variable {X : Cx} {α β γ ε ζ ρ : Type} [A0 : Enc α] [A1 : Enc β] [A2 : Enc γ] [A3 : Enc ε] [A4 : Enc ζ] [Enc ρ] {e e0 e1 e2 e3 e4 : Expr} {δ : List Slot} {μ : List Cell} {pos : Pos} {N B C : PN} {R : ρ → List Cell → Prop}
theorem de_lst5 {P : L5 α β γ ε ζ → List Cell → Prop} (h : DE X e0 δ μ fun (y0 : α) μ1 => DE X e1 δ μ1 fun (y1 : β) μ2 => DE X e2 δ μ2 fun (y2 : γ) μ3 => DE X e3 δ μ3 fun (y3 : ε) μ4 => DE X e4 δ μ4 fun (y4 : ζ) μ5 => P ⟨y0, y1, y2, y3, y4⟩ μ5)
    (h0 : starEach [e0, e1, e2, e3, e4] X.env = (false, eval e0 X.env) :: starEach [e1, e2, e3, e4] X.env := by rfl) (h1 : starEach [e1, e2, e3, e4] X.env = (false, eval e1 X.env) :: starEach [e2, e3, e4] X.env := by rfl) (h2 : starEach [e2, e3, e4] X.env = (false, eval e2 X.env) :: starEach [e3, e4] X.env := by rfl) (h3 : starEach [e3, e4] X.env = (false, eval e3 X.env) :: starEach [e4] X.env := by rfl) (h4 : starEach [e4] X.env = (false, eval e4 X.env) :: starEach [] X.env := by rfl) : DE X (.List [e0, e1, e2, e3, e4] pos) δ μ P :=
  of_pe (pe_lst (pa_cons (cE_pe e0) (pa_cons (cE_pe e1) (pa_cons (cE_pe e2) (pa_cons (cE_pe e3) (pa_cons (cE_pe e4) pa_nil h4) h3) h2) h1) h0)) fun M σ H E Q q => h M σ H E _ fun y0 μ1 M1 u0 H1 p0 s0 hh0 r0 => p0 M1 σ H1 (E.step s0 hh0) _ fun y1 μ2 M2 u1 H2 p1 s1 hh1 r1 => p1 M2 σ H2 (E.step (s0.trans s1) hh1) _ fun y2 μ3 M3 u2 H3 p2 s2 hh2 r2 => p2 M3 σ H3 (E.step ((s0.trans s1).trans s2) hh2) _ fun y3 μ4 M4 u3 H4 p3 s3 hh3 r3 => p3 M4 σ H4 (E.step (((s0.trans s1).trans s2).trans s3) hh3) _ fun y4 μ5 M5 u4 H5 p4 s4 hh4 r4 => ⟨by show 5 ≤ sizeLine; decide, fun p hp => by
    have sL := foot_alloc hh4 hp (.lst [u0, u1, u2, u3, u4])
    refine q ⟨y0, y1, y2, y3, y4⟩ μ5 M5 _ _ p4 (((((s0.trans s1).trans s2).trans s3).trans s4).trans sL) (hh4.alloc hp _) ⟨p, u0, u1, u2, u3, u4, rfl, fun z => hh4.al _ z hp, .inl upd_same, ?_, ?_, ?_, ?_, ?_⟩
    · exact tr ((((s1.trans s2).trans s3).trans s4).trans sL) hh0 r0
    · exact tr (((s2.trans s3).trans s4).trans sL) hh1 r1
    · exact tr ((s3.trans s4).trans sL) hh2 r2
    · exact tr (s4.trans sL) hh3 r3
    · exact tr sL hh4 r4⟩
theorem wg_l5 {K : PySem.W.Frag} {i0 i1 i2 i3 i4 : Nat} {x : L5 α β γ ε ζ} : WG K (gLst K 5 (gCons (gName i0) (gCons (gName i1) (gCons (gName i2) (gCons (gName i3) (gCons (gName i4) gNil)))))) (.val inferInstance x) δ (((((δ.set i0 (.val A0 x.x0)).set i1 (.val A1 x.x1)).set i2 (.val A2 x.x2)).set i3 (.val A3 x.x3)).set i4 (.val A4 x.x4)) :=
  ⟨fun M μ σ H v E r Q k => by
    obtain ⟨a, v0, v1, v2, v3, v4, rfl, nm, hs, r0, r1, r2, r3, r4⟩ := r
    exact ⟨a, [v0, v1, v2, v3, v4], rfl, .inl hs, rfl, v0, [v1, v2, v3, v4], rfl, v1, [v2, v3, v4], rfl, v2, [v3, v4], rfl, v3, [v4], rfl, v4, [], rfl, rfl, k _ (((((E.put (s := .val A0 x.x0) r0).put (s := .val A1 x.x1) r1).put (s := .val A2 x.x2) r2).put (s := .val A3 x.x3) r3).put (s := .val A4 x.x4) r4)⟩⟩
theorem ds_unpackL5 {i0 i1 i2 i3 i4 : Nat} {z0 z1 z2 z3 z4 : Str} {p0 p1 p2 p3 p4 pt : Pos} {kt : _} (hc : X.calm = true) (hN : X.N.Nodup) (h : DE X e δ μ fun (v : L5 α β γ ε ζ) μ' => N (((((δ.set i0 (.val A0 v.x0)).set i1 (.val A1 v.x1)).set i2 (.val A2 v.x2)).set i3 (.val A3 v.x3)).set i4 (.val A4 v.x4)) μ')
    (hs : swapsWithSole [.Tuple [.Name z0 p0, .Name z1 p1, .Name z2 p2, .Name z3 p3, .Name z4 p4] kt pt] e pos.line X.env = pure false := by rfl) (hw : swappedStores [.Tuple [.Name z0 p0, .Name z1 p1, .Name z2 p2, .Name z3 p3, .Name z4 p4] kt pt] e X.env = pure none := by rfl)
    (h1 : (assignEach [.Tuple [.Name z0 p0, .Name z1 p1, .Name z2 p2, .Name z3 p3, .Name z4 p4] kt pt] X.env).map (·.2) = [assign (.Tuple [.Name z0 p0, .Name z1 p1, .Name z2 p2, .Name z3 p3, .Name z4 p4] kt pt) X.env] := by rfl)
    (n0 : X.N[i0]? = some z0 := by rfl) (n1 : X.N[i1]? = some z1 := by rfl) (n2 : X.N[i2]? = some z2 := by rfl) (n3 : X.N[i3]? = some z3 := by rfl) (n4 : X.N[i4]? = some z4 := by rfl)
    (x0 : Loc X.env.scope z0 := by first | exact Or.inl rfl | exact Or.inr rfl) (x1 : Loc X.env.scope z1 := by first | exact Or.inl rfl | exact Or.inr rfl) (x2 : Loc X.env.scope z2 := by first | exact Or.inl rfl | exact Or.inr rfl) (x3 : Loc X.env.scope z3 := by first | exact Or.inl rfl | exact Or.inr rfl) (x4 : Loc X.env.scope z4 := by first | exact Or.inl rfl | exact Or.inr rfl)
    (f0 : X.fn z0 = true ∨ X.env.scope.names.lookup z0 = some .local := by first | exact .inl rfl | exact .inr rfl) (f1 : X.fn z1 = true ∨ X.env.scope.names.lookup z1 = some .local := by first | exact .inl rfl | exact .inr rfl) (f2 : X.fn z2 = true ∨ X.env.scope.names.lookup z2 = some .local := by first | exact .inl rfl | exact .inr rfl) (f3 : X.fn z3 = true ∨ X.env.scope.names.lookup z3 = some .local := by first | exact .inl rfl | exact .inr rfl) (f4 : X.fn z4 = true ∨ X.env.scope.names.lookup z4 = some .local := by first | exact .inl rfl | exact .inr rfl)
    (hn : (assignEach [.Name z0 p0, .Name z1 p1, .Name z2 p2, .Name z3 p3, .Name z4 p4] X.env).length = 5 := by rfl) (hst : (assignEach [.Name z0 p0, .Name z1 p1, .Name z2 p2, .Name z3 p3, .Name z4 p4] X.env).findIdx? (·.1) = none := by rfl)
    (g0 : (assignEach [.Name z0 p0, .Name z1 p1, .Name z2 p2, .Name z3 p3, .Name z4 p4] X.env).map (·.2) = assign (.Name z0 p0) X.env :: (assignEach [.Name z1 p1, .Name z2 p2, .Name z3 p3, .Name z4 p4] X.env).map (·.2) := by rfl) (g1 : (assignEach [.Name z1 p1, .Name z2 p2, .Name z3 p3, .Name z4 p4] X.env).map (·.2) = assign (.Name z1 p1) X.env :: (assignEach [.Name z2 p2, .Name z3 p3, .Name z4 p4] X.env).map (·.2) := by rfl) (g2 : (assignEach [.Name z2 p2, .Name z3 p3, .Name z4 p4] X.env).map (·.2) = assign (.Name z2 p2) X.env :: (assignEach [.Name z3 p3, .Name z4 p4] X.env).map (·.2) := by rfl) (g3 : (assignEach [.Name z3 p3, .Name z4 p4] X.env).map (·.2) = assign (.Name z3 p3) X.env :: (assignEach [.Name z4 p4] X.env).map (·.2) := by rfl) (g4 : (assignEach [.Name z4 p4] X.env).map (·.2) = assign (.Name z4 p4) X.env :: (assignEach [] X.env).map (·.2) := by rfl) :
    DS X (.Assign [.Tuple [.Name z0 p0, .Name z1 p1, .Name z2 p2, .Name z3 p3, .Name z4 p4] kt pt] e pos) δ μ N R B C :=
  of_ps (ps_asg (cE_pe e) (pg_lst hc (pgs_cons (pg_name (i := i0) hN n0 x0 f0) (pgs_cons (pg_name (i := i1) hN n1 x1 f1) (pgs_cons (pg_name (i := i2) hN n2 x2 f2) (pgs_cons (pg_name (i := i3) hN n3 x3 f3) (pgs_cons (pg_name (i := i4) hN n4 x4 f4) pgs_nil g4) g3) g2) g1) g0) hn hst) hs hw h1) fun M σ H E D n r b c => h M σ H E _ fun v μ' M' w H' p s hh rr =>
    wg_l5.run M' μ' σ H' w (E.step s hh) rr _ fun σ' E' => n _ μ' M' σ' H' p s E'
end
end Dl
namespace Dl
open PySem PySem.Spec PyProof.Rows L2
section
variable {X : Cx} {α β γ ρ : Type} [Enc α] [Enc β] [Enc γ] [Enc ρ] {e a b tg iter elt : Expr} {es ifs : List Expr} {δ : List Slot} {μ : List Cell}
  {N B C : PN} {R : ρ → List Cell → Prop} {sts body : List Stmt} {pos p : Pos} {scope : Scope} {own : List (Str × Nat)} {g : TG}
/-- [.. for x in t], t a tuple: a new list that is to change -/
theorem de_lcTN {A : Enc α} {tg : Expr} (hc : X.calm = true) (hN : X.N.Nodup) (ok : BlkOk X.N X.env.scope scope own) (dg : α → List Slot → List Slot) (hg : ∀ (s : Shared) (H : Hp) (C : Addr) (cl : List (Str × Addr)) (fp : List Addr), PG (blk X scope s H C cl fp) tg g) (hw : ∀ x : α, WB X.K g (own.map (·.2)) (.val A x) (dg x)) (hl : ifs.length ≤ 1)
    {P : Ref → List Cell → Prop} (h : DE X iter δ μ fun (xs : Tup α) μ1 => ∃ J : Nat → List β → List Cell → Prop, J 0 [] μ1 ∧
      (∀ k x ys μ', xs.l[k]? = some x → J k ys μ' → Turns X scope elt ifs (dg x (wipeD δ (own.map (·.2)))) μ' (fun (y : β) μ3 => ys.length < 10000 ∧ J (k + 1) (ys ++ [y]) μ3) (fun μ3 => J (k + 1) ys μ3)) ∧ (∀ ys μ', J xs.l.length ys μ' → ∀ D, P ⟨D⟩ (μ' ++ [lst D ys])))
    (hs : ∀ x, foldedSetIterable iter X.env x = pure x := by intro _; rfl) : DE X (.ListComp elt [⟨tg, iter, ifs, 0⟩] scope pos) δ μ P :=
  of_pe (pe_lc hc hN (pi_tup (cE_pe iter)) ok hg (pts_of hl) cB_pe hs) (we_lcTN dg hw h)
/-- for over a list that may change, kept aside: the other cells may change in the body -/
theorem ds_forC2 {A : Enc α} {g : TG} (hp : PassesOwn (model X.prog X.w) X.A X.env X.xe) (hc : X.calm = true) (hgt : PG X tg g) (dg : α → List Slot → List Slot) (hg : ∀ x δ', WG X.K g (.val A x) δ' (dg x δ'))
    (h : DE X e δ μ fun (x : Ref) μ1 => ∃ (c : Nat) (xs : List α), μ1[c]? = some (lst x.a xs) ∧ ∃ Inv : Nat → PN, Inv 0 δ (μ1.eraseIdx c) ∧ (∀ k x δ' μ', xs[k]? = some x → Inv k δ' μ' → DB (ρ := ρ) X body (dg x δ') μ' (Inv (k + 1)) (fun _ _ => False) (fun _ _ => False) (Inv (k + 1))) ∧ (∀ δ' μ', Inv xs.length δ' μ' → N δ' (μ' ++ [lst x.a xs])))
    (hs3 : ∀ x, foldedSetIterable e X.env x = pure x := by intro _; rfl) :
    DS X (.For tg e body [] pos) δ μ N R B C :=
  of_ps (ps_for hp hc (pi_list (cE_pe e)) hgt (cSs_pss body) hs3) fun M σ H E D nk rk bk ck => h M σ H E _ fun x μ1 M1 v H1 p1 s1 h1 r1 => by
    obtain ⟨c, xs, hx, Inv, i0, ih, ie⟩ := p1
    cases r1
    obtain ⟨vs, ev, rp⟩ := h1.cell _ (List.mem_of_getElem? hx)
    have hl := rp.length
    have sp := parts_at hx
    have hr := h1.part sp
    have nf : ¬ foots (μ1.eraseIdx c) x.a := fun ⟨d, hd, ha⟩ => by
      have dj : (μ1.eraseIdx c ++ [lst x.a xs]).Pairwise fun c d => ∀ a, a ∈ c.foot → a ∉ d.foot := (h1.perm sp.perm).dj
      exact (List.pairwise_append.mp dj).2.2 d hd _ (List.mem_singleton.mpr rfl) x.a ha (by show x.a ∈ [x.a]; simp)
    have E1 : EnvOk X.K M1 (μ1.eraseIdx c) δ σ H1 := (E.step s1 h1).cells hr
    refine ⟨x.a, rfl, ⟨vs, .inl (.inl ev)⟩, ?_⟩
    refine for_list (xs := vs) (fun i σ' H' => ∃ M' δ' μ', Inv i δ' μ' ∧ Ste M1 (μ1.eraseIdx c) H1 M' μ' H' ∧ EnvOk X.K M' μ' δ' σ' H') ⟨M1, δ, _, i0, Ste.refl, E1⟩ ?_ ?_ ?_
    · rintro i σ' H' hi ⟨M', δ', μ', hI, s, E'⟩
      exact .inl (.inl (s.keep _ _ ev (.inl nf)))
    · rintro i y σ' H' hi ⟨M', δ', μ', hI, s, E'⟩
      have hi' : i < xs.length := by rw [← hl]; exact (List.getElem?_eq_some_iff.mp hi).1
      obtain ⟨y', e1, ry⟩ := paired_get rp (List.getElem?_eq_getElem hi')
      rw [hi] at e1; cases e1
      refine (hg xs[i] δ').run M' _ σ' H' y E' (Dl.tr (A := A) s hr ry) _ fun σ2 E2 => ?_
      refine ih i _ δ' μ' (List.getElem?_eq_getElem hi') hI M' σ2 H' E2 _ (fun δ2 μ2 M2 σ3 H2 p s3 E3 => ?_) (fun _ _ _ _ _ z => z.elim) (fun _ _ _ _ _ z => z.elim) (fun δ2 μ2 M2 σ3 H2 p s3 E3 => ?_)
      · exact ⟨M2, δ2, μ2, p, s.trans s3, E3⟩
      · exact ⟨M2, δ2, μ2, p, s.trans s3, E3⟩
    · rintro σ' H' ⟨M', δ', μ', hI, s, E'⟩
      rw [hl] at hI
      obtain ⟨s4, h4⟩ := frame h1 sp s E'.h
      exact nk _ _ _ _ _ (ie _ _ hI) (s1.trans s4) (E'.cells h4)
end
section
variable {X : Cx} {α : Type} [Enc α] {a b : Expr} {δ : List Slot} {μ : List Cell} {pos : Pos}
/-- p[i] of a pair of one kind -/
theorem de_ixPr {P : α → List Cell → Prop} (h : DE X a δ μ fun (x : α × α) μ1 => DE X b δ μ1 fun (i : Int) μ2 => ∃ y, ((i = 0 ∧ y = x.1) ∨ (i = 1 ∧ y = x.2)) ∧ P y μ2) (hs : PlainIx b := by exact fun _ _ => rfl) : DE X (.Subscript a b pos) δ μ P :=
  of_pe (pe_ix ix_tup (cE_pe a) (cE_pe b) hs) fun M σ H E Q q => h M σ H E _ fun x μ1 M1 v1 H1 p1 s1 hh1 r1 => p1 M1 σ H1 (E.step s1 hh1) _ fun i μ2 M2 w H2 p2 s2 hh2 r2 => by
    obtain ⟨ad, u1, u2, rfl, hq, e1, e2⟩ := tr s2 hh1 r1
    cases r2
    obtain ⟨y, ⟨rfl, rfl⟩ | ⟨rfl, rfl⟩, p⟩ := p2
    · exact ⟨ad, [u1, u2], 0, u1, rfl, rfl, hq, rfl, q x.1 μ2 M2 u1 H2 p (s1.trans s2) hh2 e1⟩
    · exact ⟨ad, [u1, u2], 1, u2, rfl, rfl, hq, rfl, q x.2 μ2 M2 u2 H2 p (s1.trans s2) hh2 e2⟩
end
end Dl
namespace Dl
open PySem PySem.Spec PyProof.Rows L2
section
variable {X : Cx} {α β ρ : Type} [Enc α] [Enc β] [Enc ρ] {e a b tg iter elt : Expr} {es ifs : List Expr} {δ : List Slot} {μ : List Cell}
  {N B C : PN} {R : ρ → List Cell → Prop} {sts body : List Stmt} {pos p : Pos} {scope : Scope} {own : List (Str × Nat)} {g : TG}
/-- a comprehension over a list that may change later, into a new list that is to change -/
theorem we_lcCN {A : Enc α} (dg : α → List Slot → List Slot) (hw : ∀ x : α, WB X.K g (own.map (·.2)) (.val A x) (dg x))
    {P : Ref → List Cell → Prop} (h : DE X iter δ μ fun (x : Ref) μ1 => ∃ (c : Nat) (xs : List α), μ1[c]? = some (lst x.a xs) ∧ ∃ J : Nat → List β → Prop, J 0 [] ∧
      (∀ k x ys, xs[k]? = some x → J k ys → Turns X scope elt ifs (dg x (wipeD δ (own.map (·.2)))) (μ1.eraseIdx c) (fun (y : β) μ3 => ys.length < 10000 ∧ (μ3 = μ1.eraseIdx c ∧ J (k + 1) (ys ++ [y]))) (fun μ3 => μ3 = μ1.eraseIdx c ∧ J (k + 1) ys)) ∧ (∀ ys, J xs.length ys → ∀ D, P ⟨D⟩ (μ1.eraseIdx c ++ [lst D ys] ++ [lst x.a xs]))) :
    WE X.K (tLc (iList X.K (cE X iter)) g (ttOf X scope ifs) (cB X scope elt) (own.map (·.2))) δ μ P := fun M σ H E Q q => h M σ H E _ fun x μ1 M1 v H1 p1 s1 hh1 r1 => by
  obtain ⟨c, xs, hc, J, j0, jh, je⟩ := p1
  cases r1
  obtain ⟨vs, ev, rp⟩ := hh1.cell _ (List.mem_of_getElem? hc)
  have hl := rp.length
  have sp := parts_at hc
  have hr := hh1.part sp
  have nf : ¬ foots (μ1.eraseIdx c) x.a := fun ⟨d, hd, ha⟩ => by
    have dj : (μ1.eraseIdx c ++ [lst x.a xs]).Pairwise fun c d => ∀ a, a ∈ c.foot → a ∉ d.foot := (hh1.perm sp.perm).dj
    exact (List.pairwise_append.mp dj).2.2 d hd _ (List.mem_singleton.mpr rfl) x.a ha (by show x.a ∈ [x.a]; simp)
  refine ⟨x.a, rfl, ⟨vs, .inl (.inl ev)⟩, fun D hD => ?_⟩
  obtain ⟨s2, h2⟩ := new_cell (A := inferInstanceAs (Enc β)) (xs := ([] : List β)) hr hD .nil
  have E1 : EnvOk X.K M1 (μ1.eraseIdx c) δ σ H1 := (E.step s1 hh1).cells hr
  refine lc_list (xs := vs) (fun i H' => ∃ M' ys, J i ys ∧ Ste M1 (μ1.eraseIdx c) H1 M' (μ1.eraseIdx c ++ [lst D ys]) H' ∧ Holds X.K M' (μ1.eraseIdx c ++ [lst D ys]) H') ⟨_, [], j0, s2, h2⟩ ?_ ?_ ?_
  · rintro i H' hi ⟨M', ys, hJ, s, hh⟩
    exact .inl (.inl (s.keep _ _ ev (.inl nf)))
  · rintro i y H' hi ⟨M', ys, hJ, s, hh⟩
    have hi' : i < xs.length := by rw [← hl]; exact (List.getElem?_eq_some_iff.mp hi).1
    obtain ⟨y', e1, ry⟩ := paired_get rp (List.getElem?_eq_getElem hi')
    rw [hi] at e1; cases e1
    refine (hw xs[i]).run δ M' _ σ H' y (E1.step s hh) (Dl.tr (A := A) s hr ry) _ fun σ2 E2 ew => ⟨ew, ?_⟩
    refine turn_ok (J := fun ys μ3 => μ3 = μ1.eraseIdx c ∧ J (i + 1) ys) (jh i _ ys (List.getElem?_eq_getElem hi') hJ) s E2 fun ys' μ3 M3 H3 pj s3 h3 => ?_
    obtain ⟨rfl, pj⟩ := pj
    exact ⟨M3, ys', pj, s3, h3⟩
  · rintro H' ⟨M', ys, hJ, s, hh⟩
    rw [hl] at hJ
    obtain ⟨s4, h4⟩ := frame hh1 sp s hh
    exact q ⟨D⟩ _ _ _ _ (je _ hJ D) (s1.trans s4) h4 rfl
theorem de_lcCN {A : Enc α} (hc : X.calm = true) (hN : X.N.Nodup) (ok : BlkOk X.N X.env.scope scope own) (dg : α → List Slot → List Slot) (hg : ∀ (s : Shared) (H : Hp) (C : Addr) (cl : List (Str × Addr)) (fp : List Addr), PG (blk X scope s H C cl fp) tg g) (hw : ∀ x : α, WB X.K g (own.map (·.2)) (.val A x) (dg x)) (hl : ifs.length ≤ 1)
    {P : Ref → List Cell → Prop} (h : DE X iter δ μ fun (x : Ref) μ1 => ∃ (c : Nat) (xs : List α), μ1[c]? = some (lst x.a xs) ∧ ∃ J : Nat → List β → Prop, J 0 [] ∧
      (∀ k x ys, xs[k]? = some x → J k ys → Turns X scope elt ifs (dg x (wipeD δ (own.map (·.2)))) (μ1.eraseIdx c) (fun (y : β) μ3 => ys.length < 10000 ∧ (μ3 = μ1.eraseIdx c ∧ J (k + 1) (ys ++ [y]))) (fun μ3 => μ3 = μ1.eraseIdx c ∧ J (k + 1) ys)) ∧ (∀ ys, J xs.length ys → ∀ D, P ⟨D⟩ (μ1.eraseIdx c ++ [lst D ys] ++ [lst x.a xs])))
    (hs : ∀ x, foldedSetIterable iter X.env x = pure x := by intro _; rfl) : DE X (.ListComp elt [⟨tg, iter, ifs, 0⟩] scope pos) δ μ P :=
  of_pe (pe_lc hc hN (pi_list (cE_pe iter)) ok hg (pts_of hl) cB_pe hs) (we_lcCN dg hw h)
theorem ds_lcCN {A : Enc α} {i : Nat} {y : Str} {py spos : Pos} (hc : X.calm = true) (hN : X.N.Nodup) (ok : BlkOk X.N X.env.scope scope own) (dg : α → List Slot → List Slot) (hg : ∀ (s : Shared) (H : Hp) (C : Addr) (cl : List (Str × Addr)) (fp : List Addr), PG (blk X scope s H C cl fp) tg g) (hw : ∀ x : α, WB X.K g (own.map (·.2)) (.val A x) (dg x)) (hl : ifs.length ≤ 1)
    (h : DE X iter δ μ fun (x : Ref) μ1 => ∃ (c : Nat) (xs : List α), μ1[c]? = some (lst x.a xs) ∧ ∃ J : Nat → List β → Prop, J 0 [] ∧
      (∀ k x ys, xs[k]? = some x → J k ys → Turns X scope elt ifs (dg x (wipeD δ (own.map (·.2)))) (μ1.eraseIdx c) (fun (y : β) μ3 => ys.length < 10000 ∧ (μ3 = μ1.eraseIdx c ∧ J (k + 1) (ys ++ [y]))) (fun μ3 => μ3 = μ1.eraseIdx c ∧ J (k + 1) ys)) ∧ (∀ ys, J xs.length ys → ∀ D, N (δ.set i (sl (Ref.mk D))) (μ1.eraseIdx c ++ [lst D ys] ++ [lst x.a xs])))
    (hsw : swapsWith (.ListComp elt [⟨tg, iter, ifs, 0⟩] scope pos) (some (.Name y py)) spos.line X.env = pure true) (hy : X.N[i]? = some y := by rfl) (hyl : X.env.scope.names.lookup y = some .local := by rfl)
    (hs : ∀ x, foldedSetIterable iter X.env x = pure x := by intro _; rfl) : DS X (.Assign [.Name y py] (.ListComp elt [⟨tg, iter, ifs, 0⟩] scope pos) spos) δ μ N R B C :=
  of_ps (ps_setLc hc hN hy hyl hsw (pi_list (cE_pe iter)) ok hg (pts_of hl) cB_pe hs) fun M σ H E D n r b c => we_lcCN (P := fun x μ' => N (δ.set i (sl x)) μ') dg hw h M σ H E _ fun x μ' M' v H' p s hh rr => n _ μ' M' _ H' p s ((E.step s hh).put rr)
end
end Dl
namespace Dl
open PySem PySem.Spec PyProof.Rows L2
section
variable {X : Cx} {α β ρ : Type} [Enc α] [Enc β] [Enc ρ] {e a b : Expr} {δ : List Slot} {μ : List Cell} {pos p : Pos}
/-- one tuple and another -/
theorem de_catTup {P : Tup α → List Cell → Prop} (h : DE X a δ μ fun (x : Tup α) μ1 => DE X b δ μ1 fun (y : Tup α) μ2 => x.l.length + y.l.length ≤ 10000 ∧ P ⟨x.l ++ y.l⟩ μ2) : DE X (.BinOp a .Add b pos) δ μ P :=
  of_pe (pe_op op_catA (cE_pe a) (cE_pe b)) fun M σ H E Q q => h M σ H E _ fun x μ1 M1 v1 H1 p1 s1 hh1 r1 => p1 M1 σ H1 (E.step s1 hh1) _ fun y μ2 M2 w H2 p2 s2 hh2 r2 => by
    obtain ⟨hl, p⟩ := p2
    obtain ⟨a1, vs, rfl, sa, ra⟩ := tr s2 hh1 r1
    obtain ⟨a2, ws, rfl, sb, rb⟩ := r2
    have app : ∀ {vs : List V} {xs : List α}, Paired (Enc.R X.K M2 H2) vs xs → Paired (Enc.R X.K M2 H2) (vs ++ ws) (xs ++ y.l) := by
      intro vs xs r
      induction r with
      | nil => exact rb
      | cons r t ih => exact .cons r ih
    have rr := app ra
    refine ⟨a1, a2, vs, ws, rfl, rfl, sa, sb, by rw [ra.length, rb.length]; exact Nat.le_trans hl (by decide), fun e => ?_, fun e1 e2 => ?_, fun e1 e2 p' hp => ?_⟩
    · subst e
      exact q ⟨x.l ++ y.l⟩ μ2 M2 _ H2 p (s1.trans s2) hh2 ⟨a2, ws, rfl, sb, rr⟩
    · subst e2
      rw [List.append_nil] at rr
      exact q ⟨x.l ++ y.l⟩ μ2 M2 _ H2 p (s1.trans s2) hh2 ⟨a1, vs, rfl, sa, rr⟩
    · have s3 := foot_alloc hh2 hp (.tup (vs ++ ws))
      exact q ⟨x.l ++ y.l⟩ μ2 M2 _ _ p ((s1.trans s2).trans s3) (hh2.alloc hp _) ⟨p', vs ++ ws, rfl, SqT.of upd_same, paired_map (fun _ _ r => tr s3 hh2 r) rr⟩
/-- a tuple of one -/
theorem de_tup1 {k : Nat} {P : Tup α → List Cell → Prop} (h : DE X a δ μ fun (x : α) μ1 => P ⟨[x]⟩ μ1) (h1 : starEach [a] X.env = (false, eval a X.env) :: starEach [] X.env := by rfl) : DE X (.Tuple [a] k pos) δ μ P :=
  de_tupN (da_cons (h.mono fun x μ1 p => da_nil ⟨[x], rfl, by show 1 ≤ 1000; decide, p⟩) h1)
end
namespace LP
section
variable {p : LP} {N M Nb Mb : Nat} {s : SS}
/-- the numbers of a point have one bottom together -/
theorem Size.vcom (h : p.Size N M Nb Mb) (I : p.Inv2 (N : Rat) s) : ∃ D : Nat, 0 < D ∧ D ≤ (p.n * M) ^ p.n ∧ ∀ j, j < p.n → IntB (p.n * (Mb * (p.n * M) ^ p.n)) (p.v s j * ((Nb * D : Nat) : Rat)) := by
  obtain ⟨t, et, ht⟩ := h.W (B := s.B) (S := S0)
  have t0 : t ≠ 0 := by
    intro z
    rw [z] at et
    exact I.w et
  refine ⟨t.natAbs, by omega, ht, fun j hj => ?_⟩
  have e : IntB (p.n * (Mb * (p.n * M) ^ p.n)) (p.v s j * ((Nb : Rat) * Wd p.n (bl p (N : Rat) s.B) S0)) := by
    unfold LP.v
    rw [← Sm_mulr]
    refine IntB.sum fun k hk => ?_
    have := (h.cstI (I.inv.bd k hk)).mul (h.LI I hk hj)
    have e : p.cst (s.B k) * s.L k j * ((Nb : Rat) * Wd p.n (bl p (N : Rat) s.B) S0) = p.cst (s.B k) * (Nb : Rat) * (s.L k j * Wd p.n (bl p (N : Rat) s.B) S0) := by grind
    rw [e]; exact this
  rw [et] at e
  rw [Rat.natCast_mul]
  rcases Int.natAbs_eq t with h1 | h1
  · have e2 : (t : Rat) = ((t.natAbs : Nat) : Rat) := by
      rw [h1, Int.natAbs_natCast]; exact Rat.intCast_natCast _
    rw [← e2]; exact e
  · have e2 : (t : Rat) = -((t.natAbs : Nat) : Rat) := by
      have : (t : Rat) = ((-((t.natAbs : Nat) : Int) : Int) : Rat) := by rw [← h1]
      rw [this, Rat.intCast_neg]; rfl
    have := e.neg
    rw [e2] at this
    rw [show p.v s j * ((Nb : Rat) * ((t.natAbs : Nat) : Rat)) = -(p.v s j * ((Nb : Rat) * -((t.natAbs : Nat) : Rat))) by grind]
    exact this
end
section
variable {p : LP} {h y : Nat → Rat}
/-- rows without a dual need not hold -/
theorem tot_le0 {x : Nat → Rat} (h1 : ∀ r, r < p.m → 0 < y r → p.b r ≤ Sm p.n (fun j => p.a r j * x j)) (h2 : ∀ r, r < p.m → 0 ≤ y r) (h3 : ∀ j, j < p.n → p.l j ≤ x j ∧ x j ≤ p.u j) : p.tot h y p.n ≤ Sm p.n fun j => h j * x j := by
  have := tot_le (p := ⟨p.n, p.m, fun r j => if 0 < y r then p.a r j else 0, fun r => if 0 < y r then p.b r else 0, p.l, p.u, p.g⟩) (h := h) (y := y) (x := x) (fun r hr => by
    show (if 0 < y r then p.b r else 0) ≤ Sm p.n fun j => (if 0 < y r then p.a r j else 0) * x j
    by_cases c : 0 < y r
    · simp only [if_pos c]; exact h1 r hr c
    · simp only [if_neg c]
      rw [Sm_eq (g := fun _ => 0) fun j _ => by grind, Sm_zero]; exact Rat.le_refl) h2 h3
  have z : ∀ r, r < p.m → ¬ 0 < y r → y r = 0 := fun r hr c => by have := h2 r hr; grind
  have e : ∀ j, (⟨p.n, p.m, fun r j => if 0 < y r then p.a r j else 0, fun r => if 0 < y r then p.b r else 0, p.l, p.u, p.g⟩ : LP).tk y j = p.tk y j := fun j => Sm_eq fun r hr => by
    show y r * (if 0 < y r then p.a r j else 0) = y r * p.a r j
    by_cases c : 0 < y r
    · rw [if_pos c]
    · rw [z r hr c]; grind
  have e2 : (⟨p.n, p.m, fun r j => if 0 < y r then p.a r j else 0, fun r => if 0 < y r then p.b r else 0, p.l, p.u, p.g⟩ : LP).tot h y p.n = p.tot h y p.n := by
    unfold tot
    congr 1
    · exact Sm_eq fun r hr => by
        show y r * (if 0 < y r then p.b r else 0) = y r * p.b r
        by_cases c : 0 < y r
        · rw [if_pos c]
        · rw [z r hr c]; grind
    · exact Sm_eq fun j _ => by unfold mn rest; rw [e j]
  rw [e2] at this
  exact this
end
end LP
end Dl
namespace Dl
open PySem PySem.Spec PyProof.Rows L2
/-! ### calls on cells in the midst of others -/
theorem mid_perm {pre mid post : List Cell} : (pre ++ mid ++ post).Perm (mid ++ (pre ++ post)) := by
  rw [← List.append_assoc]
  exact List.Perm.append_right post List.perm_append_comm
section
variable {X : Cx} {ρ : Type} [Enc ρ] {e o : Expr} {es : List Expr} {δ : List Slot} {μ : List Cell} {P : ρ → List Cell → Prop} {k : Nat} {ps : List Str} {Φ : Pm ρ} {x m : Str} {C : Addr} {p pos apos : Pos} {f : Addr} {fd : FuncData}
theorem frame_mid {K : PySem.W.Frag} {M M' : AS} {H H' : Hp} {pre mid post μ' : List Cell} (h : Holds K M (pre ++ mid ++ post) H) (s : Ste M mid H M' μ' H') (h' : Holds K M' μ' H') : Ste M (pre ++ mid ++ post) H M' (pre ++ μ' ++ post) H' ∧ Holds K M' (pre ++ μ' ++ post) H' := by
  obtain ⟨s3, h3⟩ := frame h ⟨mid_perm⟩ s h'
  exact ⟨s3.perm mid_perm.symm, h3.perm mid_perm.symm⟩
theorem de_c1M (c : Cal X.prog X.w X.K X.mg X.base x k ps Φ) {k' : Nat} (hr : Room k' X.A) (hk : k ≤ k')
    (h : DA X (e :: es) δ μ fun as μ1 => ∃ pre mid post, μ1 = pre ++ mid ++ post ∧ Φ as mid fun y μ' => P y (pre ++ μ' ++ post)) (hg : Gl X x := by rfl) (hdb : (x == ("__debug__" : Str)) = false := by decide)
    (he : starEach (e :: es) X.env = (false, eval e X.env) :: starEach es X.env := by rfl) (hpl : (backTo pos (starEach es X.env)).any (·.1) = false := by rfl) : DE X (.Call (.Name x p) (e :: es) [] pos) δ μ P := by
  obtain ⟨f, fd, F, hm, hkp, hb⟩ := c.ex
  exact of_pe (pe_call F (hr.mono hk) hg hm hkp hb .nil pass0 (cA_pa _) hdb he hpl) fun M σ H E Q q => h M σ H E _ fun as μ1 M1 vs H1 p1 s1 h1 r1 => by
    obtain ⟨pre, mid, post, rfl, ph⟩ := p1
    refine ⟨M1, mid, as, _, h1.part ⟨mid_perm⟩, by rw [List.append_nil]; exact r1, ph, fun y μ' M' v H' py s2 h2 r2 => ?_⟩
    obtain ⟨s3, h3⟩ := frame_mid h1 s2 h2
    exact q y _ M' v H' py (s1.trans s3) h3 r2
theorem we_methM {to : TE} {ta : TA} {sp : Sp} (hsp : sp = spO X.K Φ) (h : WE X.K to δ μ fun (x : Ref) μ1 => (∃ (c : Nat) (dx : Addr) (fs : Flds), μ1[c]? = some (ObjC x.a dx C fs) ∧ fs.lookup m = none) ∧
      WA X.K ta δ μ1 fun as μ2 => ∃ pre mid post, μ2 = pre ++ mid ++ post ∧ Φ (sl x :: as) mid fun y μ' => P y (pre ++ μ' ++ post)) : WE X.K (tMeth C m sp [] E0 to ta) δ μ P := fun M σ H E Q q => h M σ H E _ fun x μ1 M1 v H1 p1 s1 h1 r1 => by
  obtain ⟨⟨c, dx, fs, hc, hl⟩, p1⟩ := p1
  cases r1
  obtain ⟨vs, e1, e2, ne, rf⟩ := h1.cell _ (List.mem_of_getElem? hc)
  refine ⟨x.a, dx, vs, rfl, e1, FldR.none rf hl, p1 M1 σ H1 (E.step s1 h1) _ fun as μ2 M2 vs2 H2 p2 s2 h2 r2 => ?_⟩
  obtain ⟨pre, mid, post, rfl, ph⟩ := p2
  rw [hsp, List.append_nil]
  refine ⟨M2, mid, sl x :: as, _, h2.part ⟨mid_perm⟩, .cons rfl r2, ph, fun y μ' M' v H' py s3 h3 r3 => ?_⟩
  obtain ⟨s4, h4⟩ := frame_mid h2 s3 h3
  exact q y _ M' v H' py ((s1.trans s2).trans s4) h4 r3
/-- o.m(e, ..) -/
theorem de_mtM (c : MetD X.prog X.w X.K X.mg X.base C m k ps Φ) {k' : Nat} (hr : Room k' X.A) (hk : k ≤ k') {pl : Sem Bool}
    (h : DE X o δ μ fun (x : Ref) μ1 => (∃ (i : Nat) (dx : Addr) (fs : Flds), μ1[i]? = some (ObjC x.a dx C fs) ∧ fs.lookup m = none) ∧ DA X (e :: es) δ μ1 fun as μ2 => ∃ pre mid post, μ2 = pre ++ mid ++ post ∧ Φ (sl x :: as) mid fun y μ' => P y (pre ++ μ' ++ post))
    (hst : starEach (e :: es) X.env = (false, eval e X.env) :: starEach es X.env := by rfl) (hpl : (backTo pos (starEach es X.env)).any (·.1) = false := by rfl)
    (ht : eval (.Call (.Attribute o m apos) (e :: es) [] pos) X.env = (do
      let ov ← eval o X.env
      standAt apos.atName
      let (f, first) ← holding [ov] (getMethod ov m pl)
      callWith pos f first (backTo pos (starEach (e :: es) X.env)) (backToKw pos (keywordEach [] X.env))) := by rfl) : DE X (.Call (.Attribute o m apos) (e :: es) [] pos) δ μ P := by
  obtain ⟨f, fd, hc, hm, F, b⟩ := c.ex
  exact of_pe (pe_meth (pl := pl) (cE_pe o) hc hm F (hr.mono hk) b .nil pass0 (cA_pa _) hst hpl ht) (we_methM rfl h)
/-- o.m() -/
theorem de_mt0M (c : MetD X.prog X.w X.K X.mg X.base C m k ps Φ) {k' : Nat} (hr : Room k' X.A) (hk : k ≤ k') {pl : Sem Bool}
    (h : DE X o δ μ fun (x : Ref) μ1 => (∃ (i : Nat) (dx : Addr) (fs : Flds), μ1[i]? = some (ObjC x.a dx C fs) ∧ fs.lookup m = none) ∧ ∃ pre mid post, μ1 = pre ++ mid ++ post ∧ Φ [sl x] mid fun y μ' => P y (pre ++ μ' ++ post))
    (ht : eval (.Call (.Attribute o m apos) [] [] pos) X.env = (do
      let ov ← eval o X.env
      standAt apos.atName
      let (f, first) ← holding [ov] (getMethod ov m pl)
      callWith pos f first (backTo pos (starEach [] X.env)) (backToKw pos (keywordEach [] X.env))) := by rfl) : DE X (.Call (.Attribute o m apos) [] [] pos) δ μ P := by
  obtain ⟨f, fd, hc, hm, F, b⟩ := c.ex
  refine of_pe (pe_meth0 (pl := pl) (cE_pe o) hc hm F (hr.mono hk) b .nil pass0 ht) (we_methM rfl fun M σ H E Q q => h M σ H E Q fun x μ' M' v H' p => q x μ' M' v H' ⟨p.1, fun M σ H E Q q => q [] μ' M [] H p.2 Ste.refl E.h .nil⟩)
end
/-! ### texts -/
section
variable {X : Cx} {α β ρ : Type} [A : Enc α] [Enc β] [Enc ρ] {e a b c tg : Expr} {es : List Expr} {δ : List Slot} {μ : List Cell} {PB : Bool → List Cell → Prop} {N B C : PN} {R : ρ → List Cell → Prop} {st : Stmt} {body : List Stmt} {pos pos' p : Pos}
theorem de_addS {P : Str → List Cell → Prop} (h : DE X a δ μ fun (x : Str) μ1 => DE X b δ μ1 fun (y : Str) μ2 => x.length + y.length ≤ 10000 ∧ P (x ++ y) μ2) : DE X (.BinOp a .Add b pos) δ μ P :=
  of_pe (pe_op op_add_str (cE_pe a) (cE_pe b)) fun M σ H E Q q => h M σ H E _ fun x μ1 M1 v1 H1 p1 s1 hh1 r1 => p1 M1 σ H1 (E.step s1 hh1) _ fun y μ2 M2 w H2 p2 s2 hh2 r2 => by
    cases r1; cases r2
    exact ⟨x, y, rfl, rfl, Nat.le_trans p2.1 (by decide), q _ μ2 M2 _ H2 p2.2 (s1.trans s2) hh2 rfl⟩
theorem de_strI {P : Str → List Cell → Prop} (hm : X.mg "str" = none) (h : DE X a δ μ fun (i : Int) μ1 => i.natAbs.log2 < 1920 ∧ P (toString i : String) μ1) (hg : Gl X "str" := by rfl)
    (he : starEach [a] X.env = (false, eval a X.env) :: starEach [] X.env := by rfl) (hpl : (backTo pos (starEach [] X.env)).any (·.1) = false := by rfl) : DE X (.Call (.Name "str" p) [a] [] pos) δ μ P :=
  de_ct call_str_int hm (by decide +kernel) (da_cons (h.mono fun i μ1 q => da_nil ⟨_, q.2, fun M H vs r Q k => by
    cases r with
    | cons r1 r =>
      cases r
      cases r1
      exact ⟨i, rfl, q.1, k _ rfl⟩⟩) he) hg (by decide) (by decide) he hpl
theorem de_globS {x z : Str} {t : Tok} {pos : Pos} {P : Str → List Cell → Prop} (hm : X.mg x = some (.str z t)) (q : P z μ) (hg : Gl X x := by rfl) (hd : (x == ("__debug__" : Str)) = false := by decide) : DE X (.Name x pos) δ μ P :=
  de_c (pe_glob (v := .str z) hg hm ⟨t, rfl⟩ hd) (fun _ _ _ => rfl) q
/-- a constant of the module: a tuple of texts -/
theorem paired_strs {K : PySem.W.Frag} {M : AS} {H : Hp} : ∀ xs : List Str, Paired (Enc.R K M H) (xs.map V.str) xs
  | [] => .nil
  | _ :: xs => .cons rfl (paired_strs xs)
theorem de_globTS {x : Str} {a : Addr} {zs : List Str} {P : Tup Str → List Cell → Prop} (hm : X.mg x = some (.ref a)) (hs : ∀ H, SqT X.K H a (zs.map V.str)) (q : P ⟨zs⟩ μ) (hg : Gl X x := by rfl) (hd : (x == ("__debug__" : Str)) = false := by decide) : DE X (.Name x pos) δ μ P :=
  of_pe (pe_glob (v := .ref a) hg hm rfl hd) fun M σ H E Q k => k ⟨zs⟩ μ M _ H q Ste.refl E.h ⟨a, _, rfl, hs H, paired_strs zs⟩
/-! ### x in xs, flat items -/
class Flat (α : Type) [Enc α] [DecidableEq α] : Prop where
  fl : ∀ {K M H v} {x : α}, Enc.R K M H v x → flatV v = true
  eq : ∀ {K M H v w} {x y : α}, Enc.R K M H v x → Enc.R K M H w y → eqV v w = decide (x = y)
instance : Flat Int := ⟨fun h => by cases h; rfl, fun h k => by cases h; cases k; rfl⟩
instance : Flat Str := ⟨fun h => by cases h; rfl, fun h k => by cases h; cases k; rename_i x y; show (x == y) = decide (x = y); by_cases e : x = y <;> simp [e]⟩
theorem flat_all [DecidableEq α] [Flat α] {K : PySem.W.Frag} {M : AS} {H : Hp} : ∀ {vs : List V} {xs : List α}, Paired (A.R K M H) vs xs → vs.all flatV = true
  | _, _, .nil => rfl
  | _, _, .cons r t => by rw [List.all_cons, Flat.fl r, flat_all t]; rfl
theorem flat_in [DecidableEq α] [Flat α] {K : PySem.W.Frag} {M : AS} {H : Hp} {v : V} {x : α} (rx : A.R K M H v x) : ∀ {vs : List V} {xs : List α}, Paired (A.R K M H) vs xs → inV v vs = decide (x ∈ xs)
  | _, _, .nil => by simp [inV]
  | _, _, .cons (b := y) r t => by
    have := flat_in rx t
    unfold inV at this ⊢
    rw [List.any_cons, this, Flat.eq r rx]
    by_cases e : x = y
    · simp [e]
    · simp [e, Ne.symm e]
theorem we_inL [DecidableEq α] [Flat α] {r : R2} (hr : r = rIn X.K false) (h : DE X a δ μ fun (x : α) μ1 => DE X b δ μ1 fun (xs : List α) μ2 => PB (decide (x ∈ xs)) μ2) : WE X.K (tOp r (cE X a) (cE X b)) δ μ PB := fun M σ H E Q q => h M σ H E _ fun x μ1 M1 v1 H1 p1 s1 hh1 r1 => p1 M1 σ H1 (E.step s1 hh1) _ fun xs μ2 M2 w H2 p2 s2 hh2 r2 => by
  subst hr
  have r1' := tr s2 hh1 r1
  obtain ⟨ad, vs, rfl, nm, rd, rp⟩ := r2
  refine ⟨ad, vs, rfl, .inl (.inl rd), Flat.fl r1', flat_all rp, ?_⟩
  exact q _ μ2 M2 _ H2 p2 (s1.trans s2) hh2 (by show V.bl _ = V.bl _; rw [← flat_in r1' rp]; rfl)
theorem we_inT [DecidableEq α] [Flat α] {r : R2} (hr : r = rIn X.K false) (h : DE X a δ μ fun (x : α) μ1 => DE X b δ μ1 fun (xs : Tup α) μ2 => PB (decide (x ∈ xs.l)) μ2) : WE X.K (tOp r (cE X a) (cE X b)) δ μ PB := fun M σ H E Q q => h M σ H E _ fun x μ1 M1 v1 H1 p1 s1 hh1 r1 => p1 M1 σ H1 (E.step s1 hh1) _ fun xs μ2 M2 w H2 p2 s2 hh2 r2 => by
  subst hr
  have r1' := tr s2 hh1 r1
  obtain ⟨ad, vs, rfl, rd, rp⟩ := r2
  refine ⟨ad, vs, rfl, .inr rd, Flat.fl r1', flat_all rp, ?_⟩
  exact q _ μ2 M2 _ H2 p2 (s1.trans s2) hh2 (by show V.bl _ = V.bl _; rw [← flat_in r1' rp]; rfl)
theorem dt_inL [DecidableEq α] [Flat α] (h : DE X a δ μ fun (x : α) μ1 => DE X b δ μ1 fun (xs : List α) μ2 => PB (decide (x ∈ xs)) μ2) (h1 : behindInMarks .In b = false := by rfl) : DT X (.Compare a [.In] [b] pos) δ μ PB :=
  of_pt (pt_cmpR op_in_seq (cE_pe a) (cE_pe b) h1) fun M σ H E Q q => we_inL rfl h M σ H E _ fun x μ' M' v H' p s hh r => ⟨x, r, q x μ' M' H' p s hh⟩
theorem dt_inT [DecidableEq α] [Flat α] (h : DE X a δ μ fun (x : α) μ1 => DE X b δ μ1 fun (xs : Tup α) μ2 => PB (decide (x ∈ xs.l)) μ2) (h1 : behindInMarks .In b = false := by rfl) : DT X (.Compare a [.In] [b] pos) δ μ PB :=
  of_pt (pt_cmpR op_in_seq (cE_pe a) (cE_pe b) h1) fun M σ H E Q q => we_inT rfl h M σ H E _ fun x μ' M' v H' p s hh r => ⟨x, r, q x μ' M' H' p s hh⟩
/-! ### for over a text -/
theorem ds_forS {g : TG} (hp : PassesOwn (model X.prog X.w) X.A X.env X.xe) (hc : X.calm = true) (hgt : PG X tg g) (dg : Str → List Slot → List Slot) (hg : ∀ (x : Str) δ', WG X.K g (sl x) δ' (dg x δ'))
    (h : DE X e δ μ fun (z : Str) μ1 => ∃ Inv : Nat → PN, Inv 0 δ μ1 ∧ (∀ (k c : Nat) δ' μ', z.cps[k]? = some c → Inv k δ' μ' → DB X body (dg ⟨#[c]⟩ δ') μ' (Inv (k + 1)) R N (Inv (k + 1))) ∧ (∀ δ' μ', Inv z.cps.size δ' μ' → N δ' μ'))
    (hs3 : ∀ x, foldedSetIterable e X.env x = pure x := by intro _; rfl) :
    DS X (.For tg e body [] pos) δ μ N R B C :=
  of_ps (ps_for hp hc (pi_str (cE_pe e)) hgt (cSs_pss body) hs3) fun M σ H E D nk rk bk ck => h M σ H E _ fun z μ1 M1 v H1 p1 s1 h1 r1 => by
    obtain ⟨Inv, i0, ih, ie⟩ := p1
    cases r1
    refine ⟨z, rfl, fun i m σ' H' => m = z.cps.size - i ∧ i ≤ z.cps.size ∧ ∃ M' μ' δ', Inv i δ' μ' ∧ Ste M1 μ1 H1 M' μ' H' ∧ EnvOk X.K M' μ' δ' σ' H', ⟨_, rfl, Nat.zero_le _, M1, μ1, δ, i0, Ste.refl, E.step s1 h1⟩, ?_⟩
    rintro i m σ' H' ⟨rfl, hi, M', μ', δ', hI, s, E'⟩
    by_cases hlt : i < z.cps.size
    · refine .inr ⟨hlt, fun σ2 H2 => ∃ M' μ' δ', Inv (i + 1) δ' μ' ∧ Ste M1 μ1 H1 M' μ' H2 ∧ EnvOk X.K M' μ' δ' σ2 H2, fun σ2 H2 q => ⟨z.cps.size - (i + 1), by omega, rfl, hlt, q⟩, fun x H2 y => ?_⟩
      obtain ⟨rfl, c, hcx, rfl⟩ := y
      refine (hg ⟨#[c]⟩ δ').run M' μ' σ' _ _ E' rfl _ fun σ2 E2 => ?_
      exact run_body (M0 := M1) (μ0 := μ1) (H0 := H1) (ih i c δ' μ' hcx hI) s E2 (fun δ' μ' M' σ' H' p s E => nk δ' μ' M' σ' H' p (s1.trans s) E) (fun x μ' M' v H' p s h r => rk x μ' M' v H' p (s1.trans s) h r) fun _ μ2 M2 _ _ p s2 E2 => ⟨M2, μ2, _, p, s2, E2⟩
    · have e : i = z.cps.size := by omega
      subst e
      exact .inl ⟨Nat.le_refl _, nk _ _ _ _ _ (ie _ _ hI) (s1.trans s) E'⟩
/-! ### all(..) -/
theorem paired_bls {K : PySem.W.Frag} {M : AS} {H : Hp} : ∀ {vs : List V} {xs : List Bool}, Paired (Enc.R K M H) vs xs → vs = xs.map V.bl
  | _, _, .nil => rfl
  | _, _, .cons r t => by cases r; rw [paired_bls t]; rfl
theorem de_all (hc : X.calm = true) (hm : X.mg "all" = none) (h : DE X a δ μ fun (xs : List Bool) μ1 => PB (xs.all id) μ1) (hg : Gl X "all" := by rfl)
    (he : starEach [a] X.env = (false, eval a X.env) :: starEach [] X.env := by rfl) (hpl : (backTo pos (starEach [] X.env)).any (·.1) = false := by rfl) : DE X (.Call (.Name "all" p) [a] [] pos) δ μ PB :=
  de_cb (cr_all hc) hm (by decide +kernel) (da_cons (h.mono fun xs μ1 q => da_nil ⟨_, q, fun M H vs r Q k => by
    cases r with
    | cons r1 r =>
      cases r
      obtain ⟨ad, vs, rfl, _, rd, rp⟩ := r1
      have e := paired_bls rp
      subst e
      exact ⟨ad, xs, rfl, .inl rd, k _ rfl⟩⟩) he) hg (by decide) (by decide) he hpl
/-! ### truth of lists -/
theorem dt_lstC (c : Nat) (h : DE X a δ μ fun (x : Ref) μ1 => ∃ xs : List α, μ1[c]? = some (lst x.a xs) ∧ PB (!xs.isEmpty) μ1) (he : ∀ whole, isTrue a X.env whole = (do let v ← whole; standAt a.pos; holding [v] (truthy v)) := by intro _; rfl) : DT X a δ μ PB :=
  of_pt (pt_truth (cE_pe a) he) fun M σ H E Q q => h M σ H E _ fun x μ1 M1 v H1 p1 s1 h1 r1 => by
    obtain ⟨xs, hc, p⟩ := p1
    cases r1
    obtain ⟨vs, ev, rp⟩ := h1.cell _ (List.mem_of_getElem? hc)
    refine ⟨!xs.isEmpty, .inl ⟨vs, .inl (.inl ev), ?_⟩, q _ μ1 M1 H1 p s1 h1⟩
    cases rp <;> rfl
theorem dt_lst (h : DE X a δ μ fun (xs : List α) μ1 => PB (!xs.isEmpty) μ1) (he : ∀ whole, isTrue a X.env whole = (do let v ← whole; standAt a.pos; holding [v] (truthy v)) := by intro _; rfl) : DT X a δ μ PB :=
  of_pt (pt_truth (cE_pe a) he) fun M σ H E Q q => h M σ H E _ fun xs μ1 M1 v H1 p1 s1 h1 r1 => by
    obtain ⟨ad, vs, rfl, _, rd, rp⟩ := r1
    refine ⟨!xs.isEmpty, .inl ⟨vs, .inl rd, ?_⟩, q _ μ1 M1 H1 p1 s1 h1⟩
    cases rp <;> rfl
/-! ### xs.pop() -/
theorem paired_dropLast {α β : Type} {F : α → β → Prop} : ∀ {vs : List α} {xs : List β}, Paired F vs xs → Paired F vs.dropLast xs.dropLast
  | _, _, .nil => .nil
  | _, _, .cons _ .nil => .nil
  | _, _, .cons r (.cons r2 t) => .cons r (paired_dropLast (.cons r2 t))
theorem de_pop {apos : Pos} {P : α → List Cell → Prop} (c : Nat) (h : DE X a δ μ fun (x : Ref) μ1 => ∃ xs : List α, μ1[c]? = some (lst x.a xs) ∧ ∃ y, xs[xs.length - 1]? = some y ∧ P y (μ1.set c (lst x.a xs.dropLast)))
    (hbase : attributeBase a "pop" X.env (eval a X.env) = eval a X.env := by rfl) (hline : (apos.endLine == pos.line) = true := by rfl) : DE X (.Call (.Attribute a "pop" apos) [] [] pos) δ μ P :=
  of_pe (pe_bm0 PySem.F.plainAttrs_list PySem.F.slot_list_pop PySem.F.type_list_pop mt_pop (cE_pe a) hbase hline) fun M σ H E Q q => h M σ H E _ fun x μ1 M1 v H1 p1 s1 hh1 r1 => by
    obtain ⟨xs, hx, y, hy, p⟩ := p1
    cases r1
    obtain ⟨vs, ev, rv⟩ := hh1.cell _ (List.mem_of_getElem? hx)
    refine ⟨.inl ⟨rfl, vs, .inl (.inl ev)⟩, ?_⟩
    obtain ⟨v1, e1, r1⟩ := paired_get rv hy
    obtain ⟨q1, q2, q3⟩ := split_at hx
    have hh2 := hh1
    rw [q1] at hh2
    obtain ⟨s3, h3⟩ := put_cell hh2 (paired_dropLast rv)
    rw [← q1, ← q2] at s3
    rw [← q2] at h3
    exact ⟨x.a, vs, v1, rfl, rfl, ev, by rw [rv.length]; exact e1, q y _ _ v1 _ p (s1.trans s3) h3 (Dl.tr (A := A) s3 hh1 r1)⟩
/-! ### parts of tuples -/
theorem we_slT {r : V → Option Int → Option Int → Hp → VK → Prop} (hr : r = rSlA X.K) {M : AS} {H : Hp} {σ : L2.St} {v : V} {xs : Tup α} {lo hi : Option Int} {Q : VK} {M0 : AS} {H0 : Hp} {ys : List α} (hh : Holds X.K M μ H) (rx : Enc.R X.K M H v xs) (s0 : Ste M0 δμ H0 M μ H)
    (he : ∀ vs : List V, Paired (A.R X.K M H) vs xs.l → Paired (A.R X.K M H) (cutV vs lo hi) ys)
    (q : ∀ (x : Tup α) μ' M' v H', x.l = ys → μ' = μ → Ste M0 δμ H0 M' μ' H' → Holds X.K M' μ' H' → Enc.R X.K M' H' v x → Q v H') : r v lo hi H Q := by
  subst hr
  obtain ⟨ad, vs, rfl, sq, rp⟩ := rx
  have rc := he vs rp
  refine ⟨ad, vs, rfl, sq, fun hw => ?_, fun _ p hp => ?_⟩
  · have e : cutV vs lo hi = vs := by
      unfold cutV
      rw [hw.1, hw.2, List.drop_zero, Nat.sub_zero, List.take_length]
    rw [e] at rc
    exact q ⟨ys⟩ μ M _ H rfl rfl s0 hh ⟨ad, vs, rfl, sq, rc⟩
  · have s3 := foot_alloc hh hp (.tup (cutV vs lo hi))
    exact q ⟨ys⟩ μ M _ _ rfl rfl (s0.trans s3) (hh.alloc hp _) ⟨p, _, rfl, SqT.of upd_same, paired_map (fun _ _ r => tr s3 hh r) rc⟩
/-- t[i:] of a tuple -/
theorem de_sliceFromT {P : Tup α → List Cell → Prop} {p2 : Pos} (h : DE X a δ μ fun (x : Tup α) μ1 => DE X b δ μ1 fun (i : Int) μ2 => (0 ≤ i ∧ i ≤ x.l.length) ∧ P ⟨x.l.drop i.toNat⟩ μ2) : DE X (.Subscript a (.Slice (some b) none none p2) pos) δ μ P :=
  of_pe (pe_slice sl_tupA (cE_pe a) (po_some (cE_pe b)) po_none) fun M σ H E Q q => h M σ H E _ fun x μ1 M1 v1 H1 p1 s1 hh1 r1 => p1 M1 σ H1 (E.step s1 hh1) _ fun i μ2 M2 w H2 p2 s2 hh2 r2 => by
    obtain ⟨⟨i0, i1⟩, p⟩ := p2
    cases r2
    obtain ⟨n, rfl⟩ := Int.eq_ofNat_of_zero_le i0
    refine ⟨(n : Int), rfl, we_slT (ys := x.l.drop n) rfl (σ := σ) hh2 (tr s2 hh1 r1) (s1.trans s2) (fun vs rp => ?_) fun y μ' M' v H' e1 e2 s hh r => ?_⟩
    · rw [cut_from vs n (by rw [rp.length]; omega)]; exact paired_drop rp
    · subst e2; cases y; cases e1; exact q _ _ M' v H' p s hh r
/-- t[:i] -/
theorem de_sliceToT {P : Tup α → List Cell → Prop} {p2 : Pos} (h : DE X a δ μ fun (x : Tup α) μ1 => DE X b δ μ1 fun (i : Int) μ2 => 0 ≤ i ∧ P ⟨x.l.take i.toNat⟩ μ2) : DE X (.Subscript a (.Slice none (some b) none p2) pos) δ μ P :=
  of_pe (pe_slice sl_tupA (cE_pe a) po_none (po_some (cE_pe b))) fun M σ H E Q q => h M σ H E _ fun x μ1 M1 v1 H1 p1 s1 hh1 r1 => p1 M1 σ H1 (E.step s1 hh1) _ fun i μ2 M2 w H2 p2 s2 hh2 r2 => by
    obtain ⟨i0, p⟩ := p2
    cases r2
    obtain ⟨n, rfl⟩ := Int.eq_ofNat_of_zero_le i0
    refine ⟨(n : Int), rfl, we_slT (ys := x.l.take n) rfl (σ := σ) hh2 (tr s2 hh1 r1) (s1.trans s2) (fun vs rp => ?_) fun y μ' M' v H' e1 e2 s hh r => ?_⟩
    · rw [cut_to]; exact paired_take rp
    · subst e2; cases y; cases e1; exact q _ _ M' v H' p s hh r
/-! ### a <= b < c -/
theorem dt_le_lt (h : DE X a δ μ fun (x : Int) μ1 => DE X b δ μ1 fun (y : Int) μ2 => (x ≤ y → DE X c δ μ2 fun (z : Int) μ3 => PB (decide (y < z)) μ3) ∧ (¬ x ≤ y → PB false μ2))
    (hm : lastMarks [.LtE, .Lt] [b, c] = false := by with_unfolding_all rfl) : DT X (.Compare a [.LtE, .Lt] [b, c] pos) δ μ PB :=
  of_pt (pt_chain op_le op_lt (cE_pe a) (cE_pe b) (cE_pe c) hm) fun M σ H E Q q => h M σ H E _ fun x μ1 M1 v1 H1 p1 s1 hh1 r1 => p1 M1 σ H1 (E.step s1 hh1) _ fun y μ2 M2 v2 H2 p2 s2 hh2 r2 => by
    cases r1; cases r2
    refine ⟨x, y, rfl, rfl, decide (x ≤ y), rfl, ?_⟩
    by_cases c : x ≤ y
    · rw [decide_eq_true c, if_pos rfl]
      refine p2.1 c M2 σ H2 (E.step (s1.trans s2) hh2) _ fun z μ3 M3 v3 H3 p3 s3 hh3 r3 => ?_
      cases r3
      exact ⟨y, z, rfl, rfl, _, rfl, q _ μ3 M3 H3 p3 ((s1.trans s2).trans s3) hh3⟩
    · rw [decide_eq_false c, if_neg (by simp)]
      exact ⟨_, rfl, q _ μ2 M2 H2 (p2.2 c) (s1.trans s2) hh2⟩
end
end Dl
namespace Dl
open PySem PySem.Spec PyProof.Rows L2
/-! ### problems -/
/-- a letter: name, kind, low and high end -/
abbrev L4 := T4 Str Str Q2 Q2
structure Prb where
  letters : List L4
  nodes : List Nd
  ranges : List (Q2 × Q2)
  conds : List Int
  goal : Int
def prbF (x : Prb) : Flds := [("letters", sl (Tup.mk x.letters)), ("nodes", sl (Tup.mk x.nodes)), ("ranges", sl (Tup.mk x.ranges)), ("conditions", sl (Tup.mk x.conds)), ("goal", sl x.goal)]
instance : Enc Prb where
  R K M H v x := ∃ a dx vs, v = .ref a ∧ ¬ M a ∧ H a = some (.ins (He.ga K "Problem") dx vs) ∧ FldR K M H vs (prbF x)
  mono k h := by
    obtain ⟨a, dx, vs, e, n, s, r⟩ := h
    exact ⟨a, dx, vs, e, n, k _ _ s (.inl n), r.map fun _ _ z => z.mono k⟩
  set k h := by
    obtain ⟨a, dx, vs, e, n, s, r⟩ := h
    refine ⟨a, dx, vs, e, fun z => ?_, s, r.map fun _ _ z => z.set k⟩
    rcases k a z with z | z
    · exact n z
    · rw [z] at s; cases s
section
variable {K : PySem.W.Frag} {M : AS} {μ μ' : List Cell} {H : Hp} {a dx : Addr}
/-- an instance that nobody changes any more -/
theorem freeze_any {c : Cell} (h : Holds K M (μ ++ c :: μ') H) : Ste M (μ ++ c :: μ') H (fun b => M b ∧ b ∉ c.foot) (μ ++ μ') H ∧ Holds K (fun b => M b ∧ b ∉ c.foot) (μ ++ μ') H ∧ c.holds K (fun b => M b ∧ b ∉ c.foot) H := by
  have dj := List.pairwise_append.mp h.dj
  have dj2 := List.pairwise_cons.mp dj.2.1
  have ff : ∀ b, foots (μ ++ μ') b → foots (μ ++ c :: μ') b := fun b z => by
    rw [foots_mid]
    exact (foots_app.mp z).imp id .inr
  have na : ∀ b, b ∈ c.foot → ¬ foots (μ ++ μ') b := fun b hb z => by
    rcases foots_app.mp z with ⟨d, hd, ha⟩ | ⟨d, hd, ha⟩
    · exact dj.2.2 d hd c (by simp) b ha hb
    · exact dj2.1 d hd b hb ha
  have st : ∀ b, (M b ∧ b ∉ c.foot) → M b ∨ H b = none := fun b z => .inl z.1
  refine ⟨⟨Keep.refl, fun _ n => n, st, fun b z => .inl (ff b z), fun b z _ n => ⟨z, fun e => n (foots_mid.mpr (.inr (.inl e)))⟩⟩, ⟨fun d hd => d.set st (h.cell d ?_), fun b z => ⟨h.inM b (ff b z), fun e => na b e z⟩, fun b z => h.al b z.1, ?_⟩, c.set st (h.cell c (by simp))⟩
  · rcases List.mem_append.mp hd with hd | hd
    · exact List.mem_append_left _ hd
    · exact List.mem_append_right _ (List.mem_cons_of_mem _ hd)
  · exact List.pairwise_append.mpr ⟨dj.1, dj2.2, fun d hd e he => dj.2.2 d hd e (List.mem_cons_of_mem _ he)⟩
end
section
variable {X : Cx} {α β γ ε ρ : Type} [A : Enc α] [B : Enc β] [G : Enc γ] [E' : Enc ε] [Enc ρ] {e a kx vx iter tg : Expr} {f : Str} {δ : List Slot} {μ : List Cell} {N BB CC : PN} {R : ρ → List Cell → Prop} {pos p : Pos} {scope : Scope} {own : List (Str × Nat)} {g : TG}
theorem de_frzP {P : Prb → List Cell → Prop} (c : Nat) (h : DE X e δ μ fun (x : Ref) μ1 => ∃ dx y, μ1[c]? = some (ObjC x.a dx (He.ga X.K "Problem") (prbF y)) ∧ P y (μ1.eraseIdx c)) : DE X e δ μ P :=
  fun M σ H E Q q => h M σ H E _ fun x μ1 M1 v H1 p1 s1 hh1 r1 => by
    obtain ⟨dx, y, hc, p⟩ := p1
    obtain ⟨e1, e2, e3⟩ := split_at hc
    rw [e1] at hh1 s1
    obtain ⟨s2, h2, r2⟩ := freeze_any hh1
    cases r1
    rw [e3] at p
    obtain ⟨vs, q1, q2, q3, q4⟩ := r2
    exact q y _ _ _ _ p (s1.trans s2) h2 ⟨x.a, dx, vs, rfl, fun z => z.2 (by show x.a ∈ [x.a, dx]; simp), q1, q4⟩
/-- p.f, p a problem -/
theorem de_pfld {P : α → List Cell → Prop} (hcl : Cls X.K (He.ga X.K "Problem")) (hna : NoAttr X.K (He.ga X.K "Problem") f) (h : DE X e δ μ fun (x : Prb) μ1 => ∃ v, (prbF x).lookup f = some (.val A v) ∧ P v μ1)
    (hb : attributeBase e f X.env (eval e X.env) = eval e X.env := by rfl) : DE X (.Attribute e f pos) δ μ P :=
  of_pe (pe_fld (cE_pe e) hb) fun M σ H E Q q => h M σ H E _ fun x μ1 M1 v H1 p1 s1 hh1 r1 => by
    obtain ⟨y, hl, p⟩ := p1
    obtain ⟨ad, dx, vs, rfl, nm, e1, r⟩ := r1
    obtain ⟨u, lu, ru⟩ := FldR.get r hl
    exact ⟨ad, _, dx, vs, u, rfl, e1, hcl, hna, lu, q y μ1 M1 u H1 p s1 hh1 ru⟩
/-! ### dict comprehensions over a range, over a list that may change -/
theorem de_dcR {i0 : Nat} {x0 : Str} {px pos' : Pos} (hc : X.calm = true) (hN : X.N.Nodup) (ok : BlkOk X.N X.env.scope scope own) (hi0 : i0 ∈ own.map (·.2)) (hg : ∀ (s : Shared) (H : Hp) (C : Addr) (cl : List (Str × Addr)) (fp : List Addr), PG (blk X scope s H C cl fp) (.Name x0 px) (gName i0)) (hm : X.mg "range" = none)
    {P : Ref → List Cell → Prop} (h : DE X a δ μ fun (n : Int) μ1 => (n < 2 ^ 62 ∧ -(2 ^ 62) ≤ n) ∧ ∃ J : Nat → IKv β → List Cell → Prop, J 0 [] μ1 ∧
      (∀ (k : Nat) kvs μ', (k : Int) < n → J k kvs μ' → TurnD X scope kx vx ((wipeD δ (own.map (·.2))).set i0 (sl (k : Int))) μ' fun i (y : β) μ3 => kvs.length < 10000 ∧ J (k + 1) (putI kvs i y) μ3) ∧ (∀ kvs μ', J n.toNat kvs μ' → ∀ D, P ⟨D⟩ (μ' ++ [DkC D B kvs])))
    (hgl : Gl X "range" := by rfl) (hs1 : starEach [a] X.env = [(false, eval a X.env)] := by rfl) (hs2 : starEach [a] X.env = (false, eval a X.env) :: starEach [] X.env := by rfl)
    (hs : ∀ x, foldedSetIterable (.Call (.Name "range" p) [a] [] pos') X.env x = pure x := by intro _; rfl) : DE X (.DictComp kx vx [⟨.Name x0 px, .Call (.Name "range" p) [a] [] pos', [], 0⟩] scope pos) δ μ P :=
  of_pe (pe_dc hc hN (pi_range1 hgl hm (pa_cons (cE_pe a) pa_nil hs2) hs1) ok hg (pts_of (ifs := []) (Nat.zero_le _)) cB_pe cB_pe hs) fun M σ H E Q q => h M σ H E _ fun n μ1 M1 v H1 p1 s1 hh1 r1 => by
    obtain ⟨⟨n1, n2⟩, J, j0, jh, je⟩ := p1
    cases r1
    refine ⟨n, rfl, n2, n1, fun D hD => ?_⟩
    obtain ⟨s2, h2⟩ := new_any (c := DkC D B ([] : IKv β)) (H' := upd H1 D (.dK [])) hh1 (fun r hr => by rw [List.mem_singleton.mp (show r ∈ [D] from hr)]; exact hD) (fun b o' e => by rw [upd_ne (ne_of_none e hD)]; exact e)
      (fun r hr => by rw [List.mem_singleton.mp (show r ∈ [D] from hr), upd_same]; exact fun z => nomatch z) ⟨[], upd_same, .nil⟩
    have E1 := E.step s1 hh1
    refine ⟨fun i m H' => m = n.toNat - i ∧ i ≤ n.toNat ∧ ∃ M' μ' kvs, J i kvs μ' ∧ Ste M1 μ1 H1 M' (μ' ++ [DkC D B kvs]) H' ∧ Holds X.K M' (μ' ++ [DkC D B kvs]) H', ⟨n.toNat, by simp, Nat.zero_le _, _, μ1, [], j0, s2, h2⟩, ?_⟩
    rintro i m H' ⟨rfl, hi, M', μ', kvs, hJ, s, hh⟩
    by_cases hlt : i < n.toNat
    · refine .inr ⟨hlt, fun H' => ∃ M' μ' kvs, J (i + 1) kvs μ' ∧ Ste M1 μ1 H1 M' (μ' ++ [DkC D B kvs]) H' ∧ Holds X.K M' (μ' ++ [DkC D B kvs]) H', fun H'' q => ⟨n.toNat - (i + 1), by omega, rfl, hlt, q⟩, fun x H'' y => ?_⟩
      obtain ⟨e, y⟩ := y
      subst e
      subst y
      refine (wb_name (s := sl (i : Int)) hi0).run δ M' _ σ _ _ (E1.step s hh) (by show V.int (0 + (i : Int)) = V.int i; rw [Int.zero_add]) _ fun σ2 E2 ew => ⟨ew, ?_⟩
      refine tt_nil ?_
      refine iteT ?_
      exact (turn_dc (Nx := fun H' => ∃ M' μ' kvs, J (i + 1) kvs μ' ∧ Ste M1 μ1 H1 M' (μ' ++ [DkC D B kvs]) H' ∧ Holds X.K M' (μ' ++ [DkC D B kvs]) H') (J := fun kvs μ3 => J (i + 1) kvs μ3) (jh i kvs μ' (by omega) hJ) s E2 fun kvs' μ3 M3 H3 pj s3 h3 => ⟨M3, μ3, kvs', pj, s3, h3⟩)
    · have e : i = n.toNat := by omega
      subst e
      exact .inl ⟨Nat.le_refl _, q ⟨D⟩ _ _ _ _ (je _ _ hJ D) (s1.trans s) hh rfl⟩
/-- over a list that may change later: the cells stay as they are -/
theorem de_dcC (hc : X.calm = true) (hN : X.N.Nodup) (ok : BlkOk X.N X.env.scope scope own) (dg : α → List Slot → List Slot) (hg : ∀ (s : Shared) (H : Hp) (C : Addr) (cl : List (Str × Addr)) (fp : List Addr), PG (blk X scope s H C cl fp) tg g) (hw : ∀ x : α, WB X.K g (own.map (·.2)) (.val A x) (dg x))
    {P : Ref → List Cell → Prop} (h : DE X iter δ μ fun (x : Ref) μ1 => ∃ (c : Nat) (xs : List α), μ1[c]? = some (lst x.a xs) ∧ ∃ J : Nat → IKv β → Prop, J 0 [] ∧
      (∀ k x kvs, xs[k]? = some x → J k kvs → TurnD X scope kx vx (dg x (wipeD δ (own.map (·.2)))) μ1 fun i (y : β) μ3 => kvs.length < 10000 ∧ (μ3 = μ1 ∧ J (k + 1) (putI kvs i y))) ∧ (∀ kvs, J xs.length kvs → ∀ D, P ⟨D⟩ (μ1 ++ [DkC D B kvs])))
    (hs : ∀ x, foldedSetIterable iter X.env x = pure x := by intro _; rfl) : DE X (.DictComp kx vx [⟨tg, iter, [], 0⟩] scope pos) δ μ P :=
  of_pe (pe_dc hc hN (pi_list (cE_pe iter)) ok hg (pts_of (ifs := []) (Nat.zero_le _)) cB_pe cB_pe hs) fun M σ H E Q q => h M σ H E _ fun x μ1 M1 v H1 p1 s1 hh1 r1 => by
    obtain ⟨c, xs, hx, J, j0, jh, je⟩ := p1
    cases r1
    obtain ⟨vs, ev, rp⟩ := hh1.cell _ (List.mem_of_getElem? hx)
    have hl := rp.length
    refine ⟨x.a, rfl, ⟨vs, .inl (.inl ev)⟩, fun D hD => ?_⟩
    obtain ⟨s2, h2⟩ := new_any (c := DkC D B ([] : IKv β)) (H' := upd H1 D (.dK [])) hh1 (fun r hr => by rw [List.mem_singleton.mp (show r ∈ [D] from hr)]; exact hD) (fun b o' e => by rw [upd_ne (ne_of_none e hD)]; exact e)
      (fun r hr => by rw [List.mem_singleton.mp (show r ∈ [D] from hr), upd_same]; exact fun z => nomatch z) ⟨[], upd_same, .nil⟩
    have E1 := E.step s1 hh1
    refine ⟨fun i m H' => m = xs.length - i ∧ i ≤ xs.length ∧ ∃ M' kvs, J i kvs ∧ Ste M1 μ1 H1 M' (μ1 ++ [DkC D B kvs]) H' ∧ Holds X.K M' (μ1 ++ [DkC D B kvs]) H', ⟨xs.length, by simp, Nat.zero_le _, _, [], j0, s2, h2⟩, ?_⟩
    rintro i m H' ⟨rfl, hi, M', kvs, hJ, s, hh⟩
    obtain ⟨ws, ew, rq⟩ := hh.cell (lst x.a xs) (List.mem_append_left _ (List.mem_of_getElem? hx))
    have sq : SqL X.K H' x.a ws := .inl (.inl ew)
    have hw' := rq.length
    by_cases hlt : i < xs.length
    · refine .inr ⟨⟨ws, ws[i], sq, by simp [show i < ws.length by omega]⟩, fun H' => ∃ M' kvs, J (i + 1) kvs ∧ Ste M1 μ1 H1 M' (μ1 ++ [DkC D B kvs]) H' ∧ Holds X.K M' (μ1 ++ [DkC D B kvs]) H', fun H'' q => ⟨xs.length - (i + 1), by omega, rfl, hlt, q⟩, fun y H'' z => ?_⟩
      obtain ⟨e, z⟩ := z
      subst e
      have hx' := z ws sq
      obtain ⟨x', e1, ry⟩ := paired_get rq (List.getElem?_eq_getElem hlt)
      rw [hx'] at e1; cases e1
      refine (hw xs[i]).run δ M' _ σ _ y (E1.step s hh) ry _ fun σ2 E2 ew => ⟨ew, ?_⟩
      refine tt_nil ?_
      refine iteT ?_
      exact (turn_dc (Nx := fun H' => ∃ M' kvs, J (i + 1) kvs ∧ Ste M1 μ1 H1 M' (μ1 ++ [DkC D B kvs]) H' ∧ Holds X.K M' (μ1 ++ [DkC D B kvs]) H') (J := fun kvs μ3 => μ3 = μ1 ∧ J (i + 1) kvs) (jh i _ kvs (List.getElem?_eq_getElem hlt) hJ) s E2 fun kvs' μ3 M3 H3 pj s3 h3 => by
        obtain ⟨rfl, pj⟩ := pj
        exact ⟨M3, kvs', pj, s3, h3⟩)
    · have e : i = xs.length := by omega
      subst e
      exact .inl ⟨⟨ws, sq, by omega⟩, q ⟨D⟩ _ _ _ _ (je _ hJ D) (s1.trans s) hh rfl⟩
/-! ### three and four names at once -/
theorem pg_three {i j k : Nat} {x y z : Str} {px py pz pt : Pos} {kt : _} (hc : X.calm = true) (hN : X.N.Nodup) (hi : X.N[i]? = some x := by rfl) (hj : X.N[j]? = some y := by rfl) (hk : X.N[k]? = some z := by rfl)
    (hx : Loc X.env.scope x := by first | exact Or.inl rfl | exact Or.inr rfl) (hy : Loc X.env.scope y := by first | exact Or.inl rfl | exact Or.inr rfl) (hz : Loc X.env.scope z := by first | exact Or.inl rfl | exact Or.inr rfl)
    (f1 : X.fn x = true ∨ X.env.scope.names.lookup x = some .local := by first | exact .inl rfl | exact .inr rfl) (f2 : X.fn y = true ∨ X.env.scope.names.lookup y = some .local := by first | exact .inl rfl | exact .inr rfl) (f3 : X.fn z = true ∨ X.env.scope.names.lookup z = some .local := by first | exact .inl rfl | exact .inr rfl)
    (hn : (assignEach [.Name x px, .Name y py, .Name z pz] X.env).length = 3 := by rfl) (hst : (assignEach [.Name x px, .Name y py, .Name z pz] X.env).findIdx? (·.1) = none := by rfl)
    (hs1 : (assignEach [.Name x px, .Name y py, .Name z pz] X.env).map (·.2) = assign (.Name x px) X.env :: (assignEach [.Name y py, .Name z pz] X.env).map (·.2) := by rfl) (hs2 : (assignEach [.Name y py, .Name z pz] X.env).map (·.2) = assign (.Name y py) X.env :: (assignEach [.Name z pz] X.env).map (·.2) := by rfl) (hs3 : (assignEach [.Name z pz] X.env).map (·.2) = assign (.Name z pz) X.env :: (assignEach [] X.env).map (·.2) := by rfl) :
    PG X (.Tuple [.Name x px, .Name y py, .Name z pz] kt pt) (gTup X.K 3 (gCons (gName i) (gCons (gName j) (gCons (gName k) gNil)))) :=
  pg_tup hc (pgs_cons (pg_name (i := i) hN hi hx f1) (pgs_cons (pg_name (i := j) hN hj hy f2) (pgs_cons (pg_name (i := k) hN hk hz f3) pgs_nil hs3) hs2) hs1) hn hst
theorem wg_three {K : PySem.W.Frag} {i j k : Nat} {x : T3 α β γ} : WG K (gTup K 3 (gCons (gName i) (gCons (gName j) (gCons (gName k) gNil)))) (.val inferInstance x) δ (((δ.set i (.val A x.x0)).set j (.val B x.x1)).set k (.val G x.x2)) :=
  ⟨fun M μ σ H v E r Q q => by
    obtain ⟨a, v0, v1, v2, rfl, hs, r0, r1, r2⟩ := r
    exact ⟨a, [v0, v1, v2], rfl, hs, rfl, v0, [v1, v2], rfl, v1, [v2], rfl, v2, [], rfl, rfl, q _ (((E.put (s := .val A x.x0) r0).put (s := .val B x.x1) r1).put (s := .val G x.x2) r2)⟩⟩
theorem wg_four {K : PySem.W.Frag} {i j k l : Nat} {x : T4 α β γ ε} : WG K (gTup K 4 (gCons (gName i) (gCons (gName j) (gCons (gName k) (gCons (gName l) gNil))))) (.val inferInstance x) δ ((((δ.set i (.val A x.x0)).set j (.val B x.x1)).set k (.val G x.x2)).set l (.val E' x.x3)) :=
  ⟨fun M μ σ H v E r Q q => by
    obtain ⟨a, v0, v1, v2, v3, rfl, hs, r0, r1, r2, r3⟩ := r
    exact ⟨a, [v0, v1, v2, v3], rfl, hs, rfl, v0, [v1, v2, v3], rfl, v1, [v2, v3], rfl, v2, [v3], rfl, v3, [], rfl, rfl, q _ ((((E.put (s := .val A x.x0) r0).put (s := .val B x.x1) r1).put (s := .val G x.x2) r2).put (s := .val E' x.x3) r3)⟩⟩
/-- x, y, z = e, e a tuple of three -/
theorem ds_unpack3 {i j k : Nat} {x y z : Str} {px py pz pt : Pos} {kt : _} (hN : X.N.Nodup) (hg : PG X (.Tuple [.Name x px, .Name y py, .Name z pz] kt pt) (gTup X.K 3 (gCons (gName i) (gCons (gName j) (gCons (gName k) gNil)))))
    (h : DE X e δ μ fun (v : T3 α β γ) μ' => N (((δ.set i (.val A v.x0)).set j (.val B v.x1)).set k (.val G v.x2)) μ')
    (hs : swapsWithSole [.Tuple [.Name x px, .Name y py, .Name z pz] kt pt] e pos.line X.env = pure false := by rfl) (hw : swappedStores [.Tuple [.Name x px, .Name y py, .Name z pz] kt pt] e X.env = pure none := by rfl)
    (h1 : (assignEach [.Tuple [.Name x px, .Name y py, .Name z pz] kt pt] X.env).map (·.2) = [assign (.Tuple [.Name x px, .Name y py, .Name z pz] kt pt) X.env] := by rfl) :
    DS X (.Assign [.Tuple [.Name x px, .Name y py, .Name z pz] kt pt] e pos) δ μ N R BB CC :=
  of_ps (ps_asg (cE_pe e) hg hs hw h1) fun M σ H E D n r b c => h M σ H E _ fun v μ' M' w H' p s hh rr => wg_three.run M' μ' σ H' w (E.step s hh) rr _ fun σ' E' => n _ μ' M' σ' H' p s E'
end
end Dl
namespace Dl
open PySem PySem.Spec PyProof.Rows L2
section
variable {X : Cx} {α ρ : Type} [A : Enc α] [Enc ρ] {a b o i value : Expr} {δ : List Slot} {μ : List Cell} {PB : Bool → List Cell → Prop} {N B C : PN} {R : ρ → List Cell → Prop} {pos pos' : Pos}
/-- tuple(xs), xs a list that may change and stays -/
theorem de_tupleC {p : Pos} {P : Tup α → List Cell → Prop} (c : Nat) (hm : X.mg "tuple" = none) (h : DE X a δ μ fun (x : Ref) μ1 => ∃ xs : List α, μ1[c]? = some (lst x.a xs) ∧ P ⟨xs⟩ μ1) (hg : Gl X "tuple" := by rfl)
    (he : starEach [a] X.env = (false, eval a X.env) :: starEach [] X.env := by rfl) : DE X (.Call (.Name "tuple" p) [a] [] pos) δ μ P :=
  of_pe (pe_tupleOf hg hm (cE_pe a) he) fun M σ H E Q q => h M σ H E _ fun x μ1 M1 v1 H1 p1 s1 hh1 r1 => by
    obtain ⟨xs, hx, p⟩ := p1
    cases r1
    obtain ⟨vs, ev, rv⟩ := hh1.cell _ (List.mem_of_getElem? hx)
    refine .inl ⟨x.a, vs, rfl, .inl (.inl ev), fun c' hc' => ?_⟩
    have s2 := foot_alloc hh1 hc' (.tup vs)
    exact q ⟨xs⟩ μ1 M1 _ _ p (s1.trans s2) (hh1.alloc hc' _) ⟨c', vs, rfl, SqT.of upd_same, paired_map (fun _ _ r => tr s2 hh1 r) rv⟩
/-- k not in d -/
theorem dt_inotin (hu : X.A.units + 64 < cLine) (c : Nat) (h : DE X a δ μ fun (x : Int) μ1 => DE X b δ μ1 fun (y : Ref) μ2 => ∃ kvs : IKv α, μ2[c]? = some (DkC y.a A kvs) ∧ PB (!(valI kvs x).isSome) μ2)
    (h1 : behindInMarks .NotIn b = false := by rfl) : DT X (.Compare a [.NotIn] [b] pos) δ μ PB :=
  of_pt (pt_cmp (pc_dnotin (by omega) (cE_pe a) (cE_pe b)) h1) fun M σ H E Q q => h M σ H E _ fun x μ1 M1 v1 H1 p1 s1 h1 r1 => p1 M1 σ H1 (E.step s1 h1) _ fun y μ2 M2 v2 H2 p2 s2 h2 r2 => by
    obtain ⟨kvs, hc, p⟩ := p2
    cases r1
    cases r2
    obtain ⟨vs, e, r⟩ := h2.cell _ (List.mem_of_getElem? hc)
    refine ⟨y.a, _, rfl, .inl ⟨vs, Sum.inl x, .inl e, rfl, rfl⟩, ?_⟩
    have ee : (valV vs (Sum.inl x)).isSome = (valI kvs x).isSome := KI.isSome r
    rw [ee]
    exact ⟨_, rfl, q _ μ2 M2 H2 p (s1.trans s2) h2⟩
/-- a pair of whole numbers as a tuple -/
theorem de_asTup2 {e : Expr} {P : Tup α → List Cell → Prop} (h : DE X e δ μ fun (x : α × α) μ1 => P ⟨[x.1, x.2]⟩ μ1) : DE X e δ μ P := fun M σ H E Q q => h M σ H E Q fun x μ' M' v H' p s hh r => by
  obtain ⟨ad, v1, v2, rfl, rd, r1, r2⟩ := r
  exact q ⟨[x.1, x.2]⟩ μ' M' _ H' p s hh ⟨ad, _, rfl, rd, .cons r1 (.cons r2 .nil)⟩
end
end Dl
namespace Dl
open PySem PySem.Spec PyProof.Rows L2 He
/-! ### a narrow look at the top: globals, classes' own names, defaults; nothing twice grown -/
def stepX (g : Addr → Option Obj) (as : List Addr) : List Addr := as.flatMap fun a => match g a with
  | some o => refsD o
  | none => []
def asX (g : Addr → Option Obj) : List Addr :=
  match stepX g [mainGlobals] with
  | a1 => match stepX g a1 with
    | a2 => match stepX g a2 with
      | a3 => mainGlobals :: (a1 ++ (a2 ++ (a3 ++ stepX g a3)))
def obsXG (bi : List (Str × String)) (ex : PySem.W.Frag → Bool) (fa : List Fa) (fn : List DefD) (g : Addr → Option Obj) : AlD := obsW bi ex fa fn (frG g (asX g))
def hookX (bi : List (Str × String)) (ex : PySem.W.Frag → Bool) (fa : List Fa) (fn : List DefD) : PySem.W.Hook where
  α := AlD
  obs := fun s => obsXG bi ex fa fn s.heap.get?
  val := fun _ => valD fn
  says := fun _ h => ∃ K : PySem.W.Frag, K.In h ∧ SaysW bi ex fa fn K
  of := fun _ _ e => ⟨_, frG_in, e⟩
  keeps := fun _ _ _ ⟨K, hK, c⟩ k => ⟨K, PySem.W.Frag.In.keeps hK k, c⟩
theorem obsXG_eq {bi : List (Str × String)} {ex : PySem.W.Frag → Bool} {fa : List Fa} {fn : List DefD} {g : Addr → Option Obj} {s : Shared} (h : ∀ a, g a = s.heap.get? a) : obsXG bi ex fa fn g = (hookX bi ex fa fn).obs s := by
  have e : g = s.heap.get? := funext h
  rw [e] <;> rfl
/-- a run's three looks, each by itself -/
theorem map_three {α β γ δ : Type} {o : Option α} {f : α → β} {g : α → γ} {h : α → δ} {a : β} {b : γ} {c : δ} (h1 : o.map f = some a) (h2 : o.map g = some b) (h3 : o.map h = some c) : o.map (fun x => (f x, g x, h x)) = some (a, b, c) := by
  cases o with
  | none => cases h1
  | some x => cases h1; cases h2; cases h3; rfl
end Dl
namespace Dl
open PySem PySem.Spec PyProof.Rows L2
section
variable {X : Cx} {α β : Type} [A : Enc α] [B : Enc β] {kx vx iter tg : Expr} {δ : List Slot} {μ : List Cell} {pos : Pos} {scope : Scope} {own : List (Str × Nat)} {g : TG}
/-- {k: v for x in t}, t a tuple -/
theorem we_dcT (dg : α → List Slot → List Slot) (hw : ∀ x : α, WB X.K g (own.map (·.2)) (.val A x) (dg x))
    {P : Ref → List Cell → Prop} (h : DE X iter δ μ fun (xs : Tup α) μ1 => ∃ J : Nat → IKv β → List Cell → Prop, J 0 [] μ1 ∧
      (∀ k x kvs μ', xs.l[k]? = some x → J k kvs μ' → TurnD X scope kx vx (dg x (wipeD δ (own.map (·.2)))) μ' fun i (y : β) μ3 => kvs.length < 10000 ∧ J (k + 1) (putI kvs i y) μ3) ∧ (∀ kvs μ', J xs.l.length kvs μ' → ∀ D, P ⟨D⟩ (μ' ++ [DkC D B kvs]))) :
    WE X.K (tDc (iTup X.K (cE X iter)) g (ttOf X scope []) (cB X scope kx) (cB X scope vx) (own.map (·.2))) δ μ P := fun M σ H E Q q => h M σ H E _ fun xs μ1 M1 v H1 p1 s1 hh1 r1 => by
    obtain ⟨J, j0, jh, je⟩ := p1
    obtain ⟨ad, vs, rfl, rd, r⟩ := r1
    refine ⟨ad, rfl, ⟨vs, rd⟩, fun D hD => ?_⟩
    have hl := r.length
    obtain ⟨s2, h2⟩ := new_any (c := DkC D B ([] : IKv β)) (H' := upd H1 D (.dK [])) hh1 (fun r hr => by rw [List.mem_singleton.mp (show r ∈ [D] from hr)]; exact hD) (fun b o' e => by rw [upd_ne (ne_of_none e hD)]; exact e)
      (fun r hr => by rw [List.mem_singleton.mp (show r ∈ [D] from hr), upd_same]; exact fun z => nomatch z) ⟨[], upd_same, .nil⟩
    have E1 := E.step s1 hh1
    refine ⟨fun i m H' => m = vs.length - i ∧ i ≤ vs.length ∧ ∃ M' μ' kvs, J i kvs μ' ∧ Ste M1 μ1 H1 M' (μ' ++ [DkC D B kvs]) H' ∧ Holds X.K M' (μ' ++ [DkC D B kvs]) H', ⟨vs.length, by simp, Nat.zero_le _, _, μ1, [], j0, s2, h2⟩, ?_⟩
    rintro i m H' ⟨rfl, hi, M', μ', kvs, hJ, s, hh⟩
    have sq : SqT X.K H' ad vs := sqT_keep s.keep rd
    by_cases hlt : i < vs.length
    · refine .inr ⟨⟨vs, vs[i], sq, by simp [hlt]⟩, fun H' => ∃ M' μ' kvs, J (i + 1) kvs μ' ∧ Ste M1 μ1 H1 M' (μ' ++ [DkC D B kvs]) H' ∧ Holds X.K M' (μ' ++ [DkC D B kvs]) H', fun H'' q => ⟨vs.length - (i + 1), by omega, rfl, hlt, q⟩, fun x H'' y => ?_⟩
      obtain ⟨e, y⟩ := y
      subst e
      have hx := y vs sq
      have hi' : i < xs.l.length := by omega
      obtain ⟨x', e1, ry⟩ := paired_get r (List.getElem?_eq_getElem hi')
      rw [hx] at e1; cases e1
      refine (hw xs.l[i]).run δ M' _ σ _ x (E1.step s hh) (Dl.tr (A := A) s hh1 ry) _ fun σ2 E2 ew => ⟨ew, ?_⟩
      refine tt_nil ?_
      refine iteT ?_
      exact (turn_dc (Nx := fun H' => ∃ M' μ' kvs, J (i + 1) kvs μ' ∧ Ste M1 μ1 H1 M' (μ' ++ [DkC D B kvs]) H' ∧ Holds X.K M' (μ' ++ [DkC D B kvs]) H') (J := fun kvs μ3 => J (i + 1) kvs μ3) (jh i _ kvs μ' (List.getElem?_eq_getElem hi') hJ) s E2 fun kvs' μ3 M3 H3 pj s3 h3 => ⟨M3, μ3, kvs', pj, s3, h3⟩)
    · have e : i = vs.length := by omega
      subst e
      rw [hl] at hJ
      exact .inl ⟨⟨vs, sq, Nat.le_refl _⟩, q ⟨D⟩ _ _ _ _ (je _ _ hJ D) (s1.trans s) hh rfl⟩
theorem de_dcT (hc : X.calm = true) (hN : X.N.Nodup) (ok : BlkOk X.N X.env.scope scope own) (dg : α → List Slot → List Slot) (hg : ∀ (s : Shared) (H : Hp) (C : Addr) (cl : List (Str × Addr)) (fp : List Addr), PG (blk X scope s H C cl fp) tg g) (hw : ∀ x : α, WB X.K g (own.map (·.2)) (.val A x) (dg x))
    {P : Ref → List Cell → Prop} (h : DE X iter δ μ fun (xs : Tup α) μ1 => ∃ J : Nat → IKv β → List Cell → Prop, J 0 [] μ1 ∧
      (∀ k x kvs μ', xs.l[k]? = some x → J k kvs μ' → TurnD X scope kx vx (dg x (wipeD δ (own.map (·.2)))) μ' fun i (y : β) μ3 => kvs.length < 10000 ∧ J (k + 1) (putI kvs i y) μ3) ∧ (∀ kvs μ', J xs.l.length kvs μ' → ∀ D, P ⟨D⟩ (μ' ++ [DkC D B kvs])))
    (hs : ∀ x, foldedSetIterable iter X.env x = pure x := by intro _; rfl) : DE X (.DictComp kx vx [⟨tg, iter, [], 0⟩] scope pos) δ μ P :=
  of_pe (pe_dc hc hN (pi_tup (cE_pe iter)) ok hg (pts_of (ifs := []) (Nat.zero_le _)) cB_pe cB_pe hs) (we_dcT dg hw h)
end
section
variable {X : Cx} {a b c : Expr} {δ : List Slot} {μ : List Cell} {PB : Bool → List Cell → Prop} {pos : Pos}
/-! ### a <= b <= c -/
theorem dt_le_le (h : DE X a δ μ fun (x : Int) μ1 => DE X b δ μ1 fun (y : Int) μ2 => (x ≤ y → DE X c δ μ2 fun (z : Int) μ3 => PB (decide (y ≤ z)) μ3) ∧ (¬ x ≤ y → PB false μ2))
    (hm : lastMarks [.LtE, .LtE] [b, c] = false := by with_unfolding_all rfl) : DT X (.Compare a [.LtE, .LtE] [b, c] pos) δ μ PB :=
  of_pt (pt_chain op_le op_le (cE_pe a) (cE_pe b) (cE_pe c) hm) fun M σ H E Q q => h M σ H E _ fun x μ1 M1 v1 H1 p1 s1 hh1 r1 => p1 M1 σ H1 (E.step s1 hh1) _ fun y μ2 M2 v2 H2 p2 s2 hh2 r2 => by
    cases r1; cases r2
    refine ⟨x, y, rfl, rfl, decide (x ≤ y), rfl, ?_⟩
    by_cases c : x ≤ y
    · rw [decide_eq_true c, if_pos rfl]
      refine p2.1 c M2 σ H2 (E.step (s1.trans s2) hh2) _ fun z μ3 M3 v3 H3 p3 s3 hh3 r3 => ?_
      cases r3
      exact ⟨y, z, rfl, rfl, _, rfl, q _ μ3 M3 H3 p3 ((s1.trans s2).trans s3) hh3⟩
    · rw [decide_eq_false c, if_neg (by simp)]
      exact ⟨_, rfl, q _ μ2 M2 H2 (p2.2 c) (s1.trans s2) hh2⟩
end
/-! ### methods called without their last arguments -/
structure MetDD (P : Program) (w : World) (K : PySem.W.Frag) (mg : Str → Option Value) (base : Heap) (C : Addr) (m : Str) (k : Nat) (ps : List Str) (dvs : List V) {ρ : Type} [Enc ρ] (Φ : Pm ρ) : Prop where
  ex : ∃ (f : Addr) (fd : FuncData) (ds : List Value), Cls K C ∧ Meth K C m f ∧ FnOk P w K mg base CX0 k f fd ps (spO K Φ) ∧ Binds K fd ps ds ∧ Vals dvs ds
section
variable {X : Cx} {ρ : Type} [Enc ρ] {e o : Expr} {es : List Expr} {δ : List Slot} {μ : List Cell} {P : ρ → List Cell → Prop} {k : Nat} {ps : List Str} {Φ : Pm ρ} {x m : Str} {C : Addr} {p pos apos : Pos} {dvs : List V} {das : List Slot}
theorem slvs_app {K : PySem.W.Frag} {M : AS} {H : Hp} (hd : SlVs K M H dvs das) : ∀ {vs : List V} {as : List Slot}, SlVs K M H vs as → SlVs K M H (vs ++ dvs) (as ++ das)
  | _, _, .nil => hd
  | _, _, .cons r t => .cons r (slvs_app hd t)
theorem we_methMD {to : TE} {ta : TA} {sp : Sp} (hda : ∀ M H, SlVs X.K M H dvs das) (hsp : sp = spO X.K Φ) (h : WE X.K to δ μ fun (x : Ref) μ1 => (∃ (c : Nat) (dx : Addr) (fs : Flds), μ1[c]? = some (ObjC x.a dx C fs) ∧ fs.lookup m = none) ∧
      WA X.K ta δ μ1 fun as μ2 => ∃ pre mid post, μ2 = pre ++ mid ++ post ∧ Φ (sl x :: (as ++ das)) mid fun y μ' => P y (pre ++ μ' ++ post)) : WE X.K (tMeth C m sp dvs E0 to ta) δ μ P := fun M σ H E Q q => h M σ H E _ fun x μ1 M1 v H1 p1 s1 h1 r1 => by
  obtain ⟨⟨c, dx, fs, hc, hl⟩, p1⟩ := p1
  cases r1
  obtain ⟨vs, e1, e2, ne, rf⟩ := h1.cell _ (List.mem_of_getElem? hc)
  refine ⟨x.a, dx, vs, rfl, e1, FldR.none rf hl, p1 M1 σ H1 (E.step s1 h1) _ fun as μ2 M2 vs2 H2 p2 s2 h2 r2 => ?_⟩
  obtain ⟨pre, mid, post, rfl, ph⟩ := p2
  rw [hsp]
  refine ⟨M2, mid, sl x :: (as ++ das), _, h2.part ⟨mid_perm⟩, .cons rfl (slvs_app (hda M2 H2) r2), ph, fun y μ' M' v H' py s3 h3 r3 => ?_⟩
  obtain ⟨s4, h4⟩ := frame_mid h2 s3 h3
  exact q y _ M' v H' py ((s1.trans s2).trans s4) h4 r3
/-- o.m(e, ..), the last arguments left out -/
theorem de_mtMD (c : MetDD X.prog X.w X.K X.mg X.base C m k ps dvs Φ) (hda : ∀ M H, SlVs X.K M H dvs das) {k' : Nat} (hr : Room k' X.A) (hk : k ≤ k') {pl : Sem Bool}
    (h : DE X o δ μ fun (x : Ref) μ1 => (∃ (i : Nat) (dx : Addr) (fs : Flds), μ1[i]? = some (ObjC x.a dx C fs) ∧ fs.lookup m = none) ∧ DA X (e :: es) δ μ1 fun as μ2 => ∃ pre mid post, μ2 = pre ++ mid ++ post ∧ Φ (sl x :: (as ++ das)) mid fun y μ' => P y (pre ++ μ' ++ post))
    (hst : starEach (e :: es) X.env = (false, eval e X.env) :: starEach es X.env := by rfl) (hpl : (backTo pos (starEach es X.env)).any (·.1) = false := by rfl)
    (ht : eval (.Call (.Attribute o m apos) (e :: es) [] pos) X.env = (do
      let ov ← eval o X.env
      standAt apos.atName
      let (f, first) ← holding [ov] (getMethod ov m pl)
      callWith pos f first (backTo pos (starEach (e :: es) X.env)) (backToKw pos (keywordEach [] X.env))) := by rfl) : DE X (.Call (.Attribute o m apos) (e :: es) [] pos) δ μ P := by
  obtain ⟨f, fd, ds, hc, hm, F, b, hv⟩ := c.ex
  exact of_pe (pe_meth (pl := pl) (cE_pe o) hc hm F (hr.mono hk) b hv pass0 (cA_pa _) hst hpl ht) (we_methMD hda rfl h)
end
end Dl
namespace Dl
open PySem PySem.Spec PyProof.Rows L2
/-! ### lists that stay, made by the run -/
structure Stl (α : Type) where
  l : List α
instance [A : Enc α] : Enc (Stl α) where
  R K M H v x := ∃ a vs, v = .ref a ∧ ¬ M a ∧ H a = some (.lst vs) ∧ Paired (A.R K M H) vs x.l
  mono k h := by
    obtain ⟨a, vs, e, n, s, r⟩ := h
    exact ⟨a, vs, e, n, k _ _ s (.inl n), paired_map (fun _ _ => A.mono k) r⟩
  set k h := by
    obtain ⟨a, vs, e, n, s, r⟩ := h
    refine ⟨a, vs, e, fun z => ?_, s, paired_map (fun _ _ => A.set k) r⟩
    rcases k a z with z | z
    · exact n z
    · rw [z] at s; cases s
theorem paired_app {F : V → α → Prop} {ws : List V} {ys : List α} (rb : Paired F ws ys) : ∀ {vs : List V} {xs : List α}, Paired F vs xs → Paired F (vs ++ ws) (xs ++ ys)
  | _, _, .nil => rb
  | _, _, .cons r t => .cons r (paired_app rb t)
theorem paired_erase {F : V → α → Prop} : ∀ {k : Nat} {vs : List V} {xs : List α}, Paired F vs xs → Paired F (vs.eraseIdx k) (xs.eraseIdx k)
  | _, _, _, .nil => .nil
  | 0, _, _, .cons r t => t
  | k + 1, _, _, .cons r t => .cons r (paired_erase (k := k) t)
section
variable {X : Cx} {α β ρ : Type} [A : Enc α] [Enc β] [Enc ρ] {e a b c : Expr} {es : List Expr} {δ : List Slot} {μ : List Cell} {PB : Bool → List Cell → Prop} {pos p : Pos}
  {N B C : PN} {R : ρ → List Cell → Prop} {sts : List Stmt}
theorem de_ofS {P : List α → List Cell → Prop} (h : DE X e δ μ fun (x : Stl α) μ1 => P x.l μ1) : DE X e δ μ P := fun M σ H E Q q => h M σ H E Q fun x μ' M' v H' p s hh r => by
  obtain ⟨a, vs, rfl, n, ev, rp⟩ := r
  exact q x.l μ' M' _ H' p s hh ⟨a, vs, rfl, n, .inl ev, rp⟩
theorem de_lstS {P : Stl α → List Cell → Prop} (h : DA X es δ μ fun ss μ1 => ∃ xs : List α, ss = xs.map (fun x => sl x) ∧ xs.length ≤ 1000 ∧ P ⟨xs⟩ μ1) : DE X (.List es pos) δ μ P :=
  of_pe (pe_lst (cA_pa es)) fun M σ H E Q q => h M σ H E _ fun ss μ1 M1 vs H1 p1 s1 hh1 r1 => by
    obtain ⟨xs, rfl, hl, p⟩ := p1
    have r := SlVs.ex r1
    refine ⟨by rw [r.length]; exact Nat.le_trans hl (by decide), fun p' hp => ?_⟩
    have s3 := foot_alloc hh1 hp (.lst vs)
    exact q ⟨xs⟩ μ1 M1 _ _ p (s1.trans s3) (hh1.alloc hp _) ⟨p', vs, rfl, fun z => hh1.al _ z hp, upd_same, paired_map (fun _ _ r => tr s3 hh1 r) r⟩
theorem de_catS {P : Stl α → List Cell → Prop} (h : DE X a δ μ fun (x : Stl α) μ1 => DE X b δ μ1 fun (y : Stl α) μ2 => x.l.length + y.l.length ≤ 10000 ∧ P ⟨x.l ++ y.l⟩ μ2) : DE X (.BinOp a .Add b pos) δ μ P :=
  of_pe (pe_op op_cat (cE_pe a) (cE_pe b)) fun M σ H E Q q => h M σ H E _ fun x μ1 M1 v1 H1 p1 s1 hh1 r1 => p1 M1 σ H1 (E.step s1 hh1) _ fun y μ2 M2 w H2 p2 s2 hh2 r2 => by
    obtain ⟨hl, p⟩ := p2
    obtain ⟨a1, vs, rfl, na, ea, ra⟩ := tr s2 hh1 r1
    obtain ⟨a2, ws, rfl, nb, eb, rb⟩ := r2
    refine ⟨a1, a2, vs, ws, rfl, rfl, ea, eb, by rw [ra.length, rb.length]; exact Nat.le_trans hl (by decide), fun p' hp => ?_⟩
    have s3 := foot_alloc hh2 hp (.lst (vs ++ ws))
    exact q ⟨x.l ++ y.l⟩ μ2 M2 _ _ p ((s1.trans s2).trans s3) (hh2.alloc hp _) ⟨p', vs ++ ws, rfl, fun z => hh2.al _ z hp, upd_same, paired_map (fun _ _ r => tr s3 hh2 r) (paired_app rb ra)⟩
theorem freezeS {K : PySem.W.Frag} {M : AS} {μ μ' : List Cell} {H : Hp} {a : Addr} {xs : List α} (h : Holds K M (μ ++ lst a xs :: μ') H) : Ste M (μ ++ lst a xs :: μ') H (fun b => M b ∧ b ≠ a) (μ ++ μ') H ∧ Holds K (fun b => M b ∧ b ≠ a) (μ ++ μ') H ∧ Enc.R K (fun b => M b ∧ b ≠ a) H (.ref a) (Stl.mk xs) := by
  obtain ⟨ws, ea, ra⟩ := h.cell (lst a xs) (by simp)
  obtain ⟨s, hh, r⟩ := freeze h
  refine ⟨s, hh, a, ws, rfl, fun z => z.2 rfl, ea, paired_map (fun _ _ r => A.set (fun b z => .inl z.1) r) ra⟩
/-- the last cell is left as it is for good -/
theorem de_frzS {P : Stl α → List Cell → Prop} (h : DE X a δ μ fun (x : Ref) μ1 => ∃ μ0 xs, μ1 = μ0 ++ [lst x.a xs] ∧ P ⟨xs⟩ μ0) : DE X a δ μ P := fun M σ H E Q q => h M σ H E _ fun x μ1 M1 v H1 p1 s1 h1 r1 => by
  obtain ⟨μ0, xs, rfl, p⟩ := p1
  cases r1
  obtain ⟨s2, h2, r2⟩ := freezeS h1
  rw [List.append_nil] at s2 h2
  exact q ⟨xs⟩ _ _ _ _ p (s1.trans s2) h2 r2
/-- the list of the cell at i, named by the local at j, is left as it is for good -/
theorem db_frzS (i j : Nat) {l : Addr} {xs : List α} (hi : μ[i]? = some (lst l xs)) (hj : δ[j]? = some (sl (Ref.mk l))) (h : DB X sts (δ.set j (sl (Stl.mk xs))) (μ.eraseIdx i) N R B C) : DB X sts δ μ N R B C := fun M σ H E D n r b c => by
  obtain ⟨e1, e2, e3⟩ := split_at hi
  have hh := E.h
  rw [e1] at hh
  obtain ⟨s2, h2, r2⟩ := freezeS hh
  rw [← e1, ← e3] at s2
  rw [← e3] at h2
  obtain ⟨w, hw, rw'⟩ := E.get (x := Ref.mk l) hj
  cases rw'
  have E2 := (E.step s2 h2).put (i := j) (s := sl (Stl.mk xs)) r2
  have es : σ.set j (some (V.ref l)) = σ := by
    obtain ⟨hlt, e⟩ := List.getElem?_eq_some_iff.mp hw
    rw [← e]; exact List.set_getElem_self hlt
  rw [es] at E2
  exact h _ σ H E2 D (fun _ _ _ _ _ p s => n _ _ _ _ _ p (s2.trans s)) (fun _ _ _ _ _ p s => r _ _ _ _ _ p (s2.trans s)) (fun _ _ _ _ _ p s => b _ _ _ _ _ p (s2.trans s)) (fun _ _ _ _ _ p s => c _ _ _ _ _ p (s2.trans s))
/-! ### xs.pop(i), xs.insert(i, y) -/
theorem seq_nat {k n : Nat} (h : k < n) : seqIndex? (k : Int) n = some k := by
  unfold seqIndex?
  have h1 : ¬ ((k : Int) < 0) := by omega
  simp only [h1, if_false]
  rw [if_pos (by simp; omega)]
  simp
theorem de_popAt {apos : Pos} {P : α → List Cell → Prop} (i : Nat) (h : DE X a δ μ fun (x : Ref) μ1 => (∃ zs : List α, μ1[i]? = some (lst x.a zs)) ∧ DE X b δ μ1 fun (k : Int) μ2 => ∃ (xs : List α) (n : Nat) (y : α), μ2[i]? = some (lst x.a xs) ∧ k = (n : Int) ∧ k < 2 ^ 63 ∧ xs[n]? = some y ∧ P y (μ2.set i (lst x.a (xs.eraseIdx n))))
    (hbase : attributeBase a "pop" X.env (eval a X.env) = eval a X.env := by rfl)
    (hfew : ((backTo pos (starEach (b :: []) X.env)).all (fun x => !x.1) && (backToKw pos (keywordEach [] X.env)).all (fun x => x.1.isSome)
      && decide ((b :: []).length + ([] : List Keyword).length + (if ([] : List Keyword).isEmpty then 0 else 1) < 30)) = true := by rfl)
    (hline : (apos.endLine == pos.line) = true := by rfl) (hst : starEach [b] X.env = (false, eval b X.env) :: starEach [] X.env := by rfl) (hplain : (backTo pos (starEach [] X.env)).any (·.1) = false := by rfl) :
    DE X (.Call (.Attribute a "pop" apos) [b] [] pos) δ μ P :=
  of_pe (pe_bm PySem.F.plainAttrs_list PySem.F.slot_list_pop PySem.F.type_list_pop mt_popAt (cE_pe a) (pa_cons (cE_pe b) pa_nil hst) hbase hfew hline hst hplain) fun M σ H E Q q => h M σ H E _ fun x μ1 M1 v H1 p1 s1 hh1 r1 => by
    obtain ⟨⟨zs, hz⟩, p1⟩ := p1
    cases r1
    obtain ⟨ws, ew, _⟩ := hh1.cell _ (List.mem_of_getElem? hz)
    refine ⟨.inl ⟨rfl, ws, .inl (.inl ew)⟩, ?_⟩
    refine p1 M1 σ H1 (E.step s1 hh1) _ fun k μ2 M2 w H2 p2 s2 hh2 r2 => ?_
    obtain ⟨xs, n, y, hx, rfl, hk, hy, p⟩ := p2
    cases r2
    obtain ⟨e1, e2, e3⟩ := split_at hx
    obtain ⟨vs, ev, rv⟩ := hh2.cell _ (List.mem_of_getElem? hx)
    have hh2' := hh2
    rw [e1] at hh2'
    obtain ⟨v1, ev1, rv1⟩ := paired_get rv hy
    obtain ⟨s3, h3⟩ := put_cell hh2' (paired_erase (k := n) rv)
    rw [← e1, ← e2] at s3
    rw [← e2] at h3
    exact ⟨x.a, vs, (n : Int), n, v1, rfl, rfl, ev, by omega, hk, seq_nat (List.getElem?_eq_some_iff.mp ev1).1, ev1, q y _ _ v1 _ p ((s1.trans s2).trans s3) h3 (Dl.tr (A := A) s3 hh2 rv1)⟩
theorem de_insert {apos : Pos} {P : Unit → List Cell → Prop} (i : Nat)
    (h : DE X a δ μ fun (x : Ref) μ1 => (∃ zs : List α, μ1[i]? = some (lst x.a zs)) ∧ DE X b δ μ1 fun (k : Int) μ2 => DE X c δ μ2 fun (y : α) μ3 => ∃ (xs : List α) (n : Nat), μ3[i]? = some (lst x.a xs) ∧ xs.length < 10000 ∧ k = (n : Int) ∧ k < 2 ^ 63 ∧ P () (μ3.set i (lst x.a (xs.take n ++ [y] ++ xs.drop n))))
    (hbase : attributeBase a "insert" X.env (eval a X.env) = eval a X.env := by rfl)
    (hfew : ((backTo pos (starEach (b :: [c]) X.env)).all (fun x => !x.1) && (backToKw pos (keywordEach [] X.env)).all (fun x => x.1.isSome)
      && decide ((b :: [c]).length + ([] : List Keyword).length + (if ([] : List Keyword).isEmpty then 0 else 1) < 30)) = true := by rfl)
    (hline : (apos.endLine == pos.line) = true := by rfl) (hst : starEach [b, c] X.env = (false, eval b X.env) :: starEach [c] X.env := by rfl) (hst2 : starEach [c] X.env = (false, eval c X.env) :: starEach [] X.env := by rfl) (hplain : (backTo pos (starEach [c] X.env)).any (·.1) = false := by rfl) :
    DE X (.Call (.Attribute a "insert" apos) [b, c] [] pos) δ μ P :=
  of_pe (pe_bm PySem.F.plainAttrs_list PySem.F.slot_list_insert PySem.F.type_list_insert mt_insert (cE_pe a) (pa_cons (cE_pe b) (pa_cons (cE_pe c) pa_nil hst2) hst) hbase hfew hline hst hplain) fun M σ H E Q q => h M σ H E _ fun x μ1 M1 v H1 p1 s1 hh1 r1 => by
    obtain ⟨⟨zs, hz⟩, p1⟩ := p1
    cases r1
    obtain ⟨ws, ew, _⟩ := hh1.cell _ (List.mem_of_getElem? hz)
    refine ⟨.inl ⟨rfl, ws, .inl (.inl ew)⟩, ?_⟩
    refine p1 M1 σ H1 (E.step s1 hh1) _ fun k μ2 M2 w H2 p2 s2 hh2 r2 => p2 M2 σ H2 (E.step (s1.trans s2) hh2) _ fun y μ3 M3 u H3 p3 s3 hh3 r3 => ?_
    obtain ⟨xs, n, hx, hl, rfl, hk, p⟩ := p3
    cases r2
    obtain ⟨e1, e2, e3⟩ := split_at hx
    obtain ⟨vs, ev, rv⟩ := hh3.cell _ (List.mem_of_getElem? hx)
    have hh3' := hh3
    rw [e1] at hh3'
    have rr : Paired (Enc.R X.K M3 H3) (vs.take n ++ [u] ++ vs.drop n) (xs.take n ++ [y] ++ xs.drop n) := paired_app (paired_drop rv) (paired_app (.cons r3 .nil) (paired_take rv))
    obtain ⟨s4, h4⟩ := put_cell hh3' rr
    rw [← e1, ← e2] at s4
    rw [← e2] at h4
    exact ⟨x.a, vs, (n : Int), u, rfl, rfl, ev, by rw [rv.length]; exact Nat.lt_of_lt_of_le hl (by decide), by omega, hk, q () _ _ .non _ p (((s1.trans s2).trans s3).trans s4) h4 rfl⟩
end
/-! ### d = {k: v for ..}, d a local that no block uses -/
section
variable {X : Cx} {α β ρ : Type} [A : Enc α] [B' : Enc β] [Enc ρ] {kx vx iter tg : Expr} {ifs : List Expr} {δ : List Slot} {μ : List Cell} {pos spos py : Pos} {scope : Scope} {own : List (Str × Nat)} {g : TG} {wi : TI} {tt : TT} {tk tv : TE} {y : Str} {i : Nat}
  {N B C : PN} {R : ρ → List Cell → Prop}
theorem sw_trueD (hk : X.env.scope.kind = .function) (hy : X.env.scope.names.lookup y = some .local) (hl : (py.line == pos.line) = true) (ha : (scope.names.any fun (n, k) => n == y && (k == .local || k == .cell)) = false) {gs : List Comprehension} {l : Nat} :
    swapsWith (.DictComp kx vx gs scope pos) (some (.Name y py)) l X.env = pure true := by
  have kk : X.env.kindOf y = some .local := hy
  have kb : X.env.blockKind = .function := by unfold Env.blockKind; rw [hk] <;> rfl
  unfold swapsWith
  simp only [kb, kk, ha, Expr.pos, hl] <;> rfl
theorem ps_setDc (hc : X.calm = true) (hN : X.N.Nodup) (hy : X.N[i]? = some y) (hyl : X.env.scope.names.lookup y = some .local) (hsw : swapsWith (.DictComp kx vx [⟨tg, iter, ifs, 0⟩] scope pos) (some (.Name y py)) spos.line X.env = pure true) (hi : PI X tg iter wi) (ok : BlkOk X.N X.env.scope scope own)
    (hg : ∀ (s : Shared) (H : Hp) (C : Addr) (cl : List (Str × Addr)) (fp : List Addr), PG (blk X scope s H C cl fp) tg g) (ht : ∀ (s : Shared) (H : Hp) (C : Addr) (cl : List (Str × Addr)) (fp : List Addr), PTs (blk X scope s H C cl fp) ifs tt)
    (hk : ∀ (s : Shared) (H : Hp) (C : Addr) (cl : List (Str × Addr)) (fp : List Addr), PE (blk X scope s H C cl fp) kx tk) (hv : ∀ (s : Shared) (H : Hp) (C : Addr) (cl : List (Str × Addr)) (fp : List Addr), PE (blk X scope s H C cl fp) vx tv)
    (hs : ∀ x, foldedSetIterable iter X.env x = pure x := by intro _; rfl) : PS X (.Assign [.Name y py] (.DictComp kx vx [⟨tg, iter, ifs, 0⟩] scope pos) spos) (tAsg (tDc wi g tt tk tv (own.map (·.2))) (gName i)) := by
  refine ⟨fun pins s σ H D I h => ?_⟩
  rw [exec_Assign_Name_used _ _ _ _ hsw]
  refine wpAny_bind (wpAny_standAt (wpAny_bind ?_))
  show wpAny _ X.A (do let _ ← comprehension (.DictComp kx vx [⟨tg, iter, ifs, 0⟩] scope pos) scope X.env (firstIterPos [⟨tg, iter, ifs, 0⟩] pos) newDict false (eval iter X.env) (some (assign (.Name y py) X.env))) _ _ s
  have w : tDc wi g tt tk tv (own.map (·.2)) σ H (fun x H1 => gName i x σ H1 D.nx) := h
  refine wpAny_bind (thn (dc_core (Qf := fun _ s' => SP X pins D .next s') hc hN I hi ok hg ht hk hv hs w fun L c s' m H' J q hn f => ?_) fun _ s' hq => wpAny_pure (wpAny_pure hq))
  show wpAny _ _ (assign (.Name y py) X.env (.ref L)) _ _ _
  refine wpAny_assign_Name (store_ok2 (v := V.ref L) J hN hy (.inl hyl) rfl (fun s2 I2 z => ?_) (.inr hyl))
  obtain ⟨a, sb, ha⟩ := z
  have apart : c ≠ a := ha.elim (fun z => z ▸ f.2.1) fun z e => f.2.2.2.2.1 y a z e.symm
  exact ⟨m, hn.sameBut sb apart, fun h3 sb3 => ⟨_, H', I2.turned (t' := s2.toks) (fun b o hb e => (sb3.2 b hb).trans e) f.1 f.2.1 f.2.2.2.1 f.2.2.2.2.1 f.2.2.2.2.2, q⟩⟩
theorem ds_dcT (hc : X.calm = true) (hN : X.N.Nodup) (ok : BlkOk X.N X.env.scope scope own) (dg : α → List Slot → List Slot) (hg : ∀ (s : Shared) (H : Hp) (C : Addr) (cl : List (Str × Addr)) (fp : List Addr), PG (blk X scope s H C cl fp) tg g) (hw : ∀ x : α, WB X.K g (own.map (·.2)) (.val A x) (dg x))
    (h : DE X iter δ μ fun (xs : Tup α) μ1 => ∃ J : Nat → IKv β → List Cell → Prop, J 0 [] μ1 ∧
      (∀ k x kvs μ', xs.l[k]? = some x → J k kvs μ' → TurnD X scope kx vx (dg x (wipeD δ (own.map (·.2)))) μ' fun i (y : β) μ3 => kvs.length < 10000 ∧ J (k + 1) (putI kvs i y) μ3) ∧ (∀ kvs μ', J xs.l.length kvs μ' → ∀ D, N (δ.set i (sl (Ref.mk D))) (μ' ++ [DkC D B' kvs])))
    (hsw : swapsWith (.DictComp kx vx [⟨tg, iter, [], 0⟩] scope pos) (some (.Name y py)) spos.line X.env = pure true) (hy : X.N[i]? = some y := by rfl) (hyl : X.env.scope.names.lookup y = some .local := by rfl)
    (hs : ∀ x, foldedSetIterable iter X.env x = pure x := by intro _; rfl) : DS X (.Assign [.Name y py] (.DictComp kx vx [⟨tg, iter, [], 0⟩] scope pos) spos) δ μ N R B C :=
  of_ps (ps_setDc hc hN hy hyl hsw (pi_tup (cE_pe iter)) ok hg (pts_of (ifs := []) (Nat.zero_le _)) cB_pe cB_pe hs) fun M σ H E D n r b c => we_dcT (P := fun x μ' => N (δ.set i (sl x)) μ') dg hw h M σ H E _ fun x μ' M' v H' p s hh rr => n _ μ' M' _ H' p s ((E.step s hh).put rr)
end
/-! ### equality of nodes -/
def Elt.dat : Elt → PyData
  | .s x => .str x
  | .i x => .int x
  | .p a b => .tuple [.int a, .int b]
theorem elt_dp {K : PySem.W.Frag} {H : Hp} : ∀ {e : Elt} {v : V}, EltR K H e v → Dp K H v e.dat
  | .s x, _, h => by obtain ⟨_, rfl⟩ := h; exact .str x
  | .i n, _, h => by cases h; exact .int n
  | .p a b, _, h => by obtain ⟨c, rfl, sq⟩ := h; exact .tup sq (.cons (.int a) (.cons (.int b) .nil))
theorem elts_dp {K : PySem.W.Frag} {H : Hp} : ∀ {ks : List Elt} {vs : List V}, Paired (EltR K H) ks vs → DpAll K H vs (ks.map Elt.dat)
  | _, _, .nil => .nil
  | _, _, .cons r t => .cons (elt_dp r) (elts_dp t)
theorem elt_eq : ∀ a b : Elt, PyData.eqv a.dat b.dat = true ↔ a = b
  | .s x, .s y => by rw [show PyData.eqv (Elt.s x).dat (Elt.s y).dat = decide (x = y) from strEqv]; simp
  | .i x, .i y => by show (x == y) = true ↔ _; simp
  | .p a b, .p c d => by
    show ((a == c) && ((b == d) && true)) = true ↔ _
    simp
  | .s x, .i y => by simp [Elt.dat, PyData.eqv]
  | .s x, .p a b => by simp [Elt.dat, PyData.eqv]
  | .i y, .s x => by simp [Elt.dat, PyData.eqv]
  | .i x, .p a b => by simp [Elt.dat, PyData.eqv]
  | .p a b, .s x => by simp [Elt.dat, PyData.eqv]
  | .p a b, .i x => by simp [Elt.dat, PyData.eqv]
theorem elts_eq : ∀ xs ys : List Elt, PyData.eqvAll (xs.map Elt.dat) (ys.map Elt.dat) = true ↔ xs = ys
  | [], [] => by simp [PyData.eqvAll]
  | [], _ :: _ => by simp [PyData.eqvAll]
  | _ :: _, [] => by simp [PyData.eqvAll]
  | x :: xs, y :: ys => by
    show (PyData.eqv x.dat y.dat && PyData.eqvAll (xs.map Elt.dat) (ys.map Elt.dat)) = true ↔ _
    rw [Bool.and_eq_true, elt_eq, elts_eq xs ys]
    simp
theorem lay_str {x : Str} (h : PyData.strOk x = true) : PyData.canLay0 (.str x) = true := by
  have := strSh h
  unfold SeqAt.shaped at this
  exact (Bool.and_eq_true _ _ ▸ this : _ ∧ _).1
instance : Deep Nd where
  d x := .tuple (x.key.map Elt.dat)
  dp h := by obtain ⟨a, rfl, vs, sq, r⟩ := h; exact .tup sq (elts_dp r)
  n := 2
  sh x := by
    have hk := lay_str x.kind_ok
    constructor
    · cases x <;> exact (Bool.and_eq_true _ _).mpr ⟨hk, rfl⟩
    · cases x <;> simp [PyData.depth, PyData.depthAll, Elt.dat, Nd.key]
  eq x y := (elts_eq x.key y.key).trans ⟨fun h => Nd.key_inj h, fun h => by rw [h]⟩
end Dl
namespace Dl
open PySem PySem.Spec PyProof.Rows L2
section
variable {X : Cx} {α : Type} [A : Enc α] {a : Expr} {δ : List Slot} {μ : List Cell} {pos : Pos}
/-- list(xs) of a list that may change -/
theorem de_listC {p : Pos} {P : Ref → List Cell → Prop} (c : Nat) (hm : X.mg "list" = none) (h : DE X a δ μ fun (x : Ref) μ1 => ∃ xs : List α, μ1[c]? = some (lst x.a xs) ∧ ∀ l, P ⟨l⟩ (μ1 ++ [lst l xs])) (hg : Gl X "list" := by rfl)
    (he : starEach [a] X.env = (false, eval a X.env) :: starEach [] X.env := by rfl) (hpl : (backTo pos (starEach [] X.env)).any (·.1) = false := by rfl) : DE X (.Call (.Name "list" p) [a] [] pos) δ μ P :=
  of_pe (pe_callTy call_list_of hg hm (by decide +kernel) (pa_cons (cE_pe a) pa_nil he) (by decide) (by decide) he hpl) fun M σ H E Q q => h M σ H E _ fun x μ1 M1 v1 H1 p1 s1 hh1 r1 => by
    obtain ⟨xs, hx, p⟩ := p1
    cases r1
    obtain ⟨vs, ev, rp⟩ := hh1.cell _ (List.mem_of_getElem? hx)
    refine ⟨x.a, vs, rfl, .inl (.inl (.inl ev)), fun l hl => ?_⟩
    obtain ⟨s2, h2⟩ := new_cell hh1 hl rp
    exact q ⟨l⟩ _ _ _ _ (p l) (s1.trans s2) h2 rfl
/-- tuple(t) of a tuple -/
theorem de_tupleT {p : Pos} {P : Tup α → List Cell → Prop} (hm : X.mg "tuple" = none) (h : DE X a δ μ fun (xs : Tup α) μ1 => P xs μ1) (hg : Gl X "tuple" := by rfl)
    (he : starEach [a] X.env = (false, eval a X.env) :: starEach [] X.env := by rfl) (hpl : (backTo pos (starEach [] X.env)).any (·.1) = false := by rfl) : DE X (.Call (.Name "tuple" p) [a] [] pos) δ μ P :=
  of_pe (pe_callTy call_tupleT hg hm (by decide +kernel) (pa_cons (cE_pe a) pa_nil he) (by decide) (by decide) he hpl) fun M σ H E Q q => h M σ H E _ fun xs μ1 M1 v1 H1 p1 s1 hh1 r1 => by
    obtain ⟨ad, vs, rfl, sq, rp⟩ := r1
    exact ⟨ad, vs, rfl, sq, q xs μ1 M1 _ H1 p1 s1 hh1 ⟨ad, vs, rfl, sq, rp⟩⟩
end
section
variable {X : Cx} {α β : Type} [Enc α] [Enc β] {elt iter tg : Expr} {ifs : List Expr} {scope : Scope} {own : List (Str × Nat)} {pos : Pos} {g : TG} {δ : List Slot} {μ : List Cell}
/-- [.. for x in xs], xs a list that stays: the list is to change -/
theorem de_lcLN {A : Enc α} (hc : X.calm = true) (hN : X.N.Nodup) (ok : BlkOk X.N X.env.scope scope own) (dg : α → List Slot → List Slot) (hg : ∀ (s : Shared) (H : Hp) (C : Addr) (cl : List (Str × Addr)) (fp : List Addr), PG (blk X scope s H C cl fp) tg g) (hw : ∀ x : α, WB X.K g (own.map (·.2)) (.val A x) (dg x)) (hl : ifs.length ≤ 1)
    {P : Ref → List Cell → Prop} (h : DE X iter δ μ fun (xs : List α) μ1 => ∃ J : Nat → List β → List Cell → Prop, J 0 [] μ1 ∧
      (∀ k x ys μ', xs[k]? = some x → J k ys μ' → Turns X scope elt ifs (dg x (wipeD δ (own.map (·.2)))) μ' (fun (y : β) μ3 => ys.length < 10000 ∧ J (k + 1) (ys ++ [y]) μ3) (fun μ3 => J (k + 1) ys μ3)) ∧ (∀ ys μ', J xs.length ys μ' → ∀ D, P ⟨D⟩ (μ' ++ [lst D ys])))
    (hs : ∀ x, foldedSetIterable iter X.env x = pure x := by intro _; rfl) : DE X (.ListComp elt [⟨tg, iter, ifs, 0⟩] scope pos) δ μ P :=
  of_pe (pe_lc hc hN (pi_list (cE_pe iter)) ok hg (pts_of hl) cB_pe hs) (we_lcLN dg hw h)
end
end Dl
namespace K17
open PySem PySem.Spec PyProof.Rows L2 Dl
def topS (i : Nat) : Stmt := PySem.Challenge.pw_leastinbox_k17_ranges_exact_once.main.body.getD i (.Pass ⟨0, 0, 0, 0⟩)
def clsB (s : Stmt) : List Stmt := match s with
  | .ClassDef _ _ _ b _ _ _ _ _ _ _ => b
  | _ => []
abbrev s_ratio : Stmt := topS 4
theorem sc_ratio : FnScope ["top", "bottom", "common"] ["top", "bottom"] (defScope s_ratio) := ⟨rfl, rfl, rfl, by decide +kernel, rfl, by decide +kernel, by decide +kernel⟩
abbrev s_add : Stmt := topS 5
theorem sc_add : FnScope ["one", "two"] ["one", "two"] (defScope s_add) := ⟨rfl, rfl, rfl, by decide +kernel, rfl, by decide +kernel, by decide +kernel⟩
abbrev s_sub : Stmt := topS 6
theorem sc_sub : FnScope ["one", "two"] ["one", "two"] (defScope s_sub) := ⟨rfl, rfl, rfl, by decide +kernel, rfl, by decide +kernel, by decide +kernel⟩
abbrev s_mul : Stmt := topS 7
theorem sc_mul : FnScope ["one", "two"] ["one", "two"] (defScope s_mul) := ⟨rfl, rfl, rfl, by decide +kernel, rfl, by decide +kernel, by decide +kernel⟩
abbrev s_div : Stmt := topS 8
theorem sc_div : FnScope ["one", "two"] ["one", "two"] (defScope s_div) := ⟨rfl, rfl, rfl, by decide +kernel, rfl, by decide +kernel, by decide +kernel⟩
abbrev s_negate : Stmt := topS 9
theorem sc_negate : FnScope ["one"] ["one"] (defScope s_negate) := ⟨rfl, rfl, rfl, by decide +kernel, rfl, by decide +kernel, by decide +kernel⟩
abbrev s_size : Stmt := topS 10
theorem sc_size : FnScope ["one"] ["one"] (defScope s_size) := ⟨rfl, rfl, rfl, by decide +kernel, rfl, by decide +kernel, by decide +kernel⟩
abbrev s_power : Stmt := topS 11
theorem sc_power : FnScope ["one", "count", "top", "bottom", "_"] ["one", "count"] (defScope s_power) := ⟨rfl, rfl, rfl, by decide +kernel, rfl, by decide +kernel, by decide +kernel⟩
abbrev s_upto : Stmt := topS 12
theorem sc_upto : FnScope ["one", "two"] ["one", "two"] (defScope s_upto) := ⟨rfl, rfl, rfl, by decide +kernel, rfl, by decide +kernel, by decide +kernel⟩
abbrev s_lesser : Stmt := topS 13
theorem sc_lesser : FnScope ["one", "two"] ["one", "two"] (defScope s_lesser) := ⟨rfl, rfl, rfl, by decide +kernel, rfl, by decide +kernel, by decide +kernel⟩
abbrev s_greater : Stmt := topS 14
theorem sc_greater : FnScope ["one", "two"] ["one", "two"] (defScope s_greater) := ⟨rfl, rfl, rfl, by decide +kernel, rfl, by decide +kernel, by decide +kernel⟩
abbrev s_floor : Stmt := topS 15
theorem sc_floor : FnScope ["one"] ["one"] (defScope s_floor) := ⟨rfl, rfl, rfl, by decide +kernel, rfl, by decide +kernel, by decide +kernel⟩
abbrev s_ceil : Stmt := topS 16
theorem sc_ceil : FnScope ["one"] ["one"] (defScope s_ceil) := ⟨rfl, rfl, rfl, by decide +kernel, rfl, by decide +kernel, by decide +kernel⟩
abbrev s_point_stretch : Stmt := topS 18
theorem sc_point_stretch : FnScope ["number"] ["number"] (defScope s_point_stretch) := ⟨rfl, rfl, rfl, by decide +kernel, rfl, by decide +kernel, by decide +kernel⟩
abbrev s_add_stretches : Stmt := topS 19
theorem sc_add_stretches : FnScope ["one", "two"] ["one", "two"] (defScope s_add_stretches) := ⟨rfl, rfl, rfl, by decide +kernel, rfl, by decide +kernel, by decide +kernel⟩
abbrev s_sub_stretches : Stmt := topS 20
theorem sc_sub_stretches : FnScope ["one", "two"] ["one", "two"] (defScope s_sub_stretches) := ⟨rfl, rfl, rfl, by decide +kernel, rfl, by decide +kernel, by decide +kernel⟩
abbrev s_negate_stretch : Stmt := topS 21
theorem sc_negate_stretch : FnScope ["one"] ["one"] (defScope s_negate_stretch) := ⟨rfl, rfl, rfl, by decide +kernel, rfl, by decide +kernel, by decide +kernel⟩
abbrev s_mul_stretches : Stmt := topS 22
theorem sc_mul_stretches : FnScope ["one", "two", "low", "high", "end"] ["one", "two"] (defScope s_mul_stretches) := ⟨rfl, rfl, rfl, by decide +kernel, rfl, by decide +kernel, by decide +kernel⟩
abbrev s_has_zero : Stmt := topS 23
theorem sc_has_zero : FnScope ["one"] ["one"] (defScope s_has_zero) := ⟨rfl, rfl, rfl, by decide +kernel, rfl, by decide +kernel, by decide +kernel⟩
abbrev s_div_stretches : Stmt := topS 24
theorem sc_div_stretches : FnScope ["one", "two"] ["one", "two"] (defScope s_div_stretches) := ⟨rfl, rfl, rfl, by decide +kernel, rfl, by decide +kernel, by decide +kernel⟩
abbrev s_power_stretch : Stmt := topS 25
theorem sc_power_stretch : FnScope ["one", "count", "low", "high"] ["one", "count"] (defScope s_power_stretch) := ⟨rfl, rfl, rfl, by decide +kernel, rfl, by decide +kernel, by decide +kernel⟩
abbrev s_abs_stretch : Stmt := topS 26
theorem sc_abs_stretch : FnScope ["one"] ["one"] (defScope s_abs_stretch) := ⟨rfl, rfl, rfl, by decide +kernel, rfl, by decide +kernel, by decide +kernel⟩
abbrev s_max_stretches : Stmt := topS 27
theorem sc_max_stretches : FnScope ["one", "two"] ["one", "two"] (defScope s_max_stretches) := ⟨rfl, rfl, rfl, by decide +kernel, rfl, by decide +kernel, by decide +kernel⟩
abbrev s_min_stretches : Stmt := topS 28
theorem sc_min_stretches : FnScope ["one", "two"] ["one", "two"] (defScope s_min_stretches) := ⟨rfl, rfl, rfl, by decide +kernel, rfl, by decide +kernel, by decide +kernel⟩
abbrev s_arguments : Stmt := topS 30
theorem sc_arguments : FnScope ["node"] ["node"] (defScope s_arguments) := ⟨rfl, rfl, rfl, by decide +kernel, rfl, by decide +kernel, by decide +kernel⟩
abbrev s_moved_node : Stmt := topS 31
theorem sc_moved_node : FnScope ["node", "places"] ["node", "places"] (defScope s_moved_node) := ⟨rfl, rfl, rfl, by decide +kernel, rfl, by decide +kernel, by decide +kernel⟩
abbrev s_combine : Stmt := topS 32
theorem sc_combine : FnScope ["kind", "one", "two"] ["kind", "one", "two"] (defScope s_combine) := ⟨rfl, rfl, rfl, by decide +kernel, rfl, by decide +kernel, by decide +kernel⟩
abbrev s_node_worth : Stmt := topS 33
theorem sc_node_worth : FnScope ["node", "found", "point"] ["node", "found", "point"] (defScope s_node_worth) := ⟨rfl, rfl, rfl, by decide +kernel, rfl, by decide +kernel, by decide +kernel⟩
abbrev s_combine_stretches : Stmt := topS 34
theorem sc_combine_stretches : FnScope ["kind", "one", "two"] ["kind", "one", "two"] (defScope s_combine_stretches) := ⟨rfl, rfl, rfl, by decide +kernel, rfl, by decide +kernel, by decide +kernel⟩
abbrev s_node_range : Stmt := topS 35
theorem sc_node_range : FnScope ["node", "found", "box"] ["node", "found", "box"] (defScope s_node_range) := ⟨rfl, rfl, rfl, by decide +kernel, rfl, by decide +kernel, by decide +kernel⟩
abbrev s_node_weight : Stmt := topS 36
theorem sc_node_weight : FnScope ["node", "found"] ["node", "found"] (defScope s_node_weight) := ⟨rfl, rfl, rfl, by decide +kernel, rfl, by decide +kernel, by decide +kernel⟩
abbrev s_ranges : Stmt := topS 38
theorem sc_ranges : FnScope ["problem", "box", "found", "node"] ["problem", "box"] (defScope s_ranges) := ⟨rfl, rfl, rfl, by decide +kernel, rfl, by decide +kernel, by decide +kernel⟩
abbrev s_valid_name : Stmt := topS 53
theorem sc_valid_name : FnScope ["name", "sign"] ["name"] (defScope s_valid_name) := ⟨rfl, rfl, rfl, by decide +kernel, rfl, by decide +kernel, by decide +kernel⟩
abbrev s_Problem_init : Stmt := (clsB (topS 54)).getD 0 (.Pass ⟨0, 0, 0, 0⟩)
theorem sc_Problem_init : FnScope ["self", "letters", "nodes", "ranges", "conditions", "goal"] ["self", "letters", "nodes", "ranges", "conditions", "goal"] (defScope s_Problem_init) := ⟨rfl, rfl, rfl, by decide +kernel, rfl, by decide +kernel, by decide +kernel⟩
abbrev s_Builder_init : Stmt := (clsB (topS 55)).getD 4 (.Pass ⟨0, 0, 0, 0⟩)
theorem sc_Builder_init : FnScope ["self"] ["self"] (defScope s_Builder_init) := ⟨rfl, rfl, rfl, by decide +kernel, rfl, by decide +kernel, by decide +kernel⟩
abbrev s_Builder_letter : Stmt := (clsB (topS 55)).getD 5 (.Pass ⟨0, 0, 0, 0⟩)
theorem sc_Builder_letter : FnScope ["self", "name", "kind", "low", "high", "row"] ["self", "name", "kind", "low", "high"] (defScope s_Builder_letter) := ⟨rfl, rfl, rfl, by decide +kernel, rfl, by decide +kernel, by decide +kernel⟩
abbrev s_Builder_number : Stmt := (clsB (topS 55)).getD 6 (.Pass ⟨0, 0, 0, 0⟩)
theorem sc_Builder_number : FnScope ["self", "value"] ["self", "value"] (defScope s_Builder_number) := ⟨rfl, rfl, rfl, by decide +kernel, rfl, by decide +kernel, by decide +kernel⟩
abbrev s_Builder_node : Stmt := (clsB (topS 55)).getD 7 (.Pass ⟨0, 0, 0, 0⟩)
theorem sc_Builder_node : FnScope ["self", "kind", "one", "two", "found", "parts", "part", "worths_here"] ["self", "kind", "one", "two"] (defScope s_Builder_node) := ⟨rfl, rfl, rfl, by decide +kernel, rfl, by decide +kernel, by decide +kernel⟩
abbrev s_Builder_place : Stmt := (clsB (topS 55)).getD 8 (.Pass ⟨0, 0, 0, 0⟩)
theorem sc_Builder_place : FnScope ["self", "node", "weight", "row", "box"] ["self", "node"] (defScope s_Builder_place) := ⟨rfl, rfl, rfl, by decide +kernel, rfl, by decide +kernel, by decide +kernel⟩
abbrev s_Builder_keep : Stmt := (clsB (topS 55)).getD 9 (.Pass ⟨0, 0, 0, 0⟩)
theorem sc_Builder_keep : FnScope ["self", "node"] ["self", "node"] (defScope s_Builder_keep) := ⟨rfl, rfl, rfl, by decide +kernel, rfl, by decide +kernel, by decide +kernel⟩
abbrev s_Builder_least : Stmt := (clsB (topS 55)).getD 10 (.Pass ⟨0, 0, 0, 0⟩)
theorem sc_Builder_least : FnScope ["self", "node"] ["self", "node"] (defScope s_Builder_least) := ⟨rfl, rfl, rfl, by decide +kernel, rfl, by decide +kernel, by decide +kernel⟩
abbrev s_Builder_problem : Stmt := (clsB (topS 55)).getD 11 (.Pass ⟨0, 0, 0, 0⟩)
theorem sc_Builder_problem : FnScope ["self", "order", "k", "places", "at", "nodes", "ranges", "conditions"] ["self"] (defScope s_Builder_problem) := ⟨rfl, rfl, rfl, by decide +kernel, rfl, by decide +kernel, by decide +kernel⟩
abbrev s_Builder_order : Stmt := (clsB (topS 55)).getD 12 (.Pass ⟨0, 0, 0, 0⟩)
theorem sc_Builder_order : FnScope ["self", "k", "order", "at", "done", "root_node", "waiting", "part", "open_parts"] ["self"] (defScope s_Builder_order) := ⟨rfl, rfl, rfl, by decide +kernel, rfl, by decide +kernel, by decide +kernel⟩
abbrev s_too_long : Stmt := topS 56
theorem sc_too_long : FnScope ["value"] ["value"] (defScope s_too_long) := ⟨rfl, rfl, rfl, by decide +kernel, rfl, by decide +kernel, by decide +kernel⟩
abbrev s_law_jar : Stmt := topS 58
theorem sc_law_jar : FnScope ["script", "cell", "great", "mix"] ["script"] (defScope s_law_jar) := ⟨rfl, rfl, rfl, by decide +kernel, rfl, by decide +kernel, by decide +kernel⟩
abbrev s_law_draw : Stmt := topS 59
theorem sc_law_draw : FnScope ["jar", "many", "digit"] ["jar", "many"] (defScope s_law_draw) := ⟨rfl, rfl, rfl, by decide +kernel, rfl, by decide +kernel, by decide +kernel⟩
abbrev s_law_low : Stmt := topS 60
theorem sc_law_low : FnScope ["top", "bottom", "a", "b"] ["top", "bottom"] (defScope s_law_low) := ⟨rfl, rfl, rfl, by decide +kernel, rfl, by decide +kernel, by decide +kernel⟩
abbrev s_law_less : Stmt := topS 61
theorem sc_law_less : FnScope ["one", "two"] ["one", "two"] (defScope s_law_less) := ⟨rfl, rfl, rfl, by decide +kernel, rfl, by decide +kernel, by decide +kernel⟩
abbrev s_law_plus : Stmt := topS 62
theorem sc_law_plus : FnScope ["one", "two"] ["one", "two"] (defScope s_law_plus) := ⟨rfl, rfl, rfl, by decide +kernel, rfl, by decide +kernel, by decide +kernel⟩
abbrev s_law_minus : Stmt := topS 63
theorem sc_law_minus : FnScope ["one", "two"] ["one", "two"] (defScope s_law_minus) := ⟨rfl, rfl, rfl, by decide +kernel, rfl, by decide +kernel, by decide +kernel⟩
abbrev s_law_times : Stmt := topS 64
theorem sc_law_times : FnScope ["one", "two"] ["one", "two"] (defScope s_law_times) := ⟨rfl, rfl, rfl, by decide +kernel, rfl, by decide +kernel, by decide +kernel⟩
abbrev s_law_over : Stmt := topS 65
theorem sc_law_over : FnScope ["one", "two"] ["one", "two"] (defScope s_law_over) := ⟨rfl, rfl, rfl, by decide +kernel, rfl, by decide +kernel, by decide +kernel⟩
abbrev s_law_place : Stmt := topS 66
theorem sc_law_place : FnScope ["jar", "kind", "stretch", "wide"] ["jar", "kind", "stretch"] (defScope s_law_place) := ⟨rfl, rfl, rfl, by decide +kernel, rfl, by decide +kernel, by decide +kernel⟩
abbrev s_law_inner : Stmt := topS 67
theorem sc_law_inner : FnScope ["jar", "letters", "box", "found", "k", "low", "high", "kind", "case"] ["jar", "letters", "box"] (defScope s_law_inner) := ⟨rfl, rfl, rfl, by decide +kernel, rfl, by decide +kernel, by decide +kernel⟩
abbrev s_law_letters : Stmt := topS 68
theorem sc_law_letters : FnScope ["jar", "letters", "k", "kind", "bottom", "start"] ["jar"] (defScope s_law_letters) := ⟨rfl, rfl, rfl, by decide +kernel, rfl, by decide +kernel, by decide +kernel⟩
abbrev s_law_put : Stmt := topS 69
theorem sc_law_put : FnScope ["nodes", "places", "node", "place", "k"] ["nodes", "places", "node", "place"] (defScope s_law_put) := ⟨rfl, rfl, rfl, by decide +kernel, rfl, by decide +kernel, by decide +kernel⟩
abbrev s_law_value : Stmt := topS 70
theorem sc_law_value : FnScope ["jar"] ["jar"] (defScope s_law_value) := ⟨rfl, rfl, rfl, by decide +kernel, rfl, by decide +kernel, by decide +kernel⟩
abbrev s_law_with_number : Stmt := topS 71
theorem sc_law_with_number : FnScope ["jar", "builder", "nodes", "places", "one", "kind", "value", "two"] ["jar", "builder", "nodes", "places", "one"] (defScope s_law_with_number) := ⟨rfl, rfl, rfl, by decide +kernel, rfl, by decide +kernel, by decide +kernel⟩
abbrev s_law_term : Stmt := topS 72
theorem sc_law_term : FnScope ["jar", "builder", "nodes", "places", "waiting", "k", "turn", "one", "two", "kind", "found"] ["jar", "builder", "nodes", "places"] (defScope s_law_term) := ⟨rfl, rfl, rfl, by decide +kernel, rfl, by decide +kernel, by decide +kernel⟩
abbrev s_law_parts : Stmt := topS 73
theorem sc_law_parts : FnScope ["node"] ["node"] (defScope s_law_parts) := ⟨rfl, rfl, rfl, by decide +kernel, rfl, by decide +kernel, by decide +kernel⟩
abbrev s_law_needed : Stmt := topS 74
theorem sc_law_needed : FnScope ["nodes", "at", "order", "part"] ["nodes", "at", "order"] (defScope s_law_needed) := ⟨rfl, rfl, rfl, by decide +kernel, rfl, by decide +kernel, by decide +kernel⟩
abbrev s_law_canonical : Stmt := topS 75
theorem sc_law_canonical : FnScope ["nodes", "count", "roots", "k", "order", "at"] ["nodes", "count", "roots"] (defScope s_law_canonical) := ⟨rfl, rfl, rfl, by decide +kernel, rfl, by decide +kernel, by decide +kernel⟩
abbrev s_law_worths : Stmt := topS 76
theorem sc_law_worths : FnScope ["nodes", "point", "found", "node"] ["nodes", "point"] (defScope s_law_worths) := ⟨rfl, rfl, rfl, by decide +kernel, rfl, by decide +kernel, by decide +kernel⟩
abbrev s_law_corner_spans : Stmt := topS 77
theorem sc_law_corner_spans : FnScope ["nodes", "box", "corners", "low", "high", "row", "lows", "highs", "corner", "found", "t"] ["nodes", "box"] (defScope s_law_corner_spans) := ⟨rfl, rfl, rfl, by decide +kernel, rfl, by decide +kernel, by decide +kernel⟩
abbrev s_law_same_number : Stmt := topS 78
theorem sc_law_same_number : FnScope ["actual", "due", "part"] ["actual", "due"] (defScope s_law_same_number) := ⟨rfl, rfl, rfl, by decide +kernel, rfl, by decide +kernel, by decide +kernel⟩
abbrev s_law_same_box : Stmt := topS 79
theorem sc_law_same_box : FnScope ["actual", "due", "k"] ["actual", "due"] (defScope s_law_same_box) := ⟨rfl, rfl, rfl, by decide +kernel, rfl, by decide +kernel, by decide +kernel⟩
abbrev s_law : Stmt := topS 80
theorem sc_law : FnScope ["script", "jar", "letters", "builder", "k", "nodes", "places", "goal", "roots", "j", "problem", "order", "row", "outer", "boxes", "box", "spans", "at", "due"] ["script"] (defScope s_law) := ⟨rfl, rfl, rfl, by decide +kernel, rfl, by decide +kernel, by decide +kernel⟩
end K17
namespace K17
open PySem PySem.Spec PyProof.Rows L2 Dl
def d_ratio : He.DefD := ⟨("ratio", none), "ratio", "ratio", defArgs s_ratio, defBody s_ratio, defScope s_ratio, [.int 1], []⟩
def d_add : He.DefD := ⟨("add", none), "add", "add", defArgs s_add, defBody s_add, defScope s_add, [], []⟩
def d_sub : He.DefD := ⟨("sub", none), "sub", "sub", defArgs s_sub, defBody s_sub, defScope s_sub, [], []⟩
def d_mul : He.DefD := ⟨("mul", none), "mul", "mul", defArgs s_mul, defBody s_mul, defScope s_mul, [], []⟩
def d_div : He.DefD := ⟨("div", none), "div", "div", defArgs s_div, defBody s_div, defScope s_div, [], []⟩
def d_negate : He.DefD := ⟨("negate", none), "negate", "negate", defArgs s_negate, defBody s_negate, defScope s_negate, [], []⟩
def d_size : He.DefD := ⟨("size", none), "size", "size", defArgs s_size, defBody s_size, defScope s_size, [], []⟩
def d_power : He.DefD := ⟨("power", none), "power", "power", defArgs s_power, defBody s_power, defScope s_power, [], []⟩
def d_upto : He.DefD := ⟨("upto", none), "upto", "upto", defArgs s_upto, defBody s_upto, defScope s_upto, [], []⟩
def d_lesser : He.DefD := ⟨("lesser", none), "lesser", "lesser", defArgs s_lesser, defBody s_lesser, defScope s_lesser, [], []⟩
def d_greater : He.DefD := ⟨("greater", none), "greater", "greater", defArgs s_greater, defBody s_greater, defScope s_greater, [], []⟩
def d_floor : He.DefD := ⟨("floor", none), "floor", "floor", defArgs s_floor, defBody s_floor, defScope s_floor, [], []⟩
def d_ceil : He.DefD := ⟨("ceil", none), "ceil", "ceil", defArgs s_ceil, defBody s_ceil, defScope s_ceil, [], []⟩
def d_point_stretch : He.DefD := ⟨("point_stretch", none), "point_stretch", "point_stretch", defArgs s_point_stretch, defBody s_point_stretch, defScope s_point_stretch, [], []⟩
def d_add_stretches : He.DefD := ⟨("add_stretches", none), "add_stretches", "add_stretches", defArgs s_add_stretches, defBody s_add_stretches, defScope s_add_stretches, [], []⟩
def d_sub_stretches : He.DefD := ⟨("sub_stretches", none), "sub_stretches", "sub_stretches", defArgs s_sub_stretches, defBody s_sub_stretches, defScope s_sub_stretches, [], []⟩
def d_negate_stretch : He.DefD := ⟨("negate_stretch", none), "negate_stretch", "negate_stretch", defArgs s_negate_stretch, defBody s_negate_stretch, defScope s_negate_stretch, [], []⟩
def d_mul_stretches : He.DefD := ⟨("mul_stretches", none), "mul_stretches", "mul_stretches", defArgs s_mul_stretches, defBody s_mul_stretches, defScope s_mul_stretches, [], []⟩
def d_has_zero : He.DefD := ⟨("has_zero", none), "has_zero", "has_zero", defArgs s_has_zero, defBody s_has_zero, defScope s_has_zero, [], []⟩
def d_div_stretches : He.DefD := ⟨("div_stretches", none), "div_stretches", "div_stretches", defArgs s_div_stretches, defBody s_div_stretches, defScope s_div_stretches, [], []⟩
def d_power_stretch : He.DefD := ⟨("power_stretch", none), "power_stretch", "power_stretch", defArgs s_power_stretch, defBody s_power_stretch, defScope s_power_stretch, [], []⟩
def d_abs_stretch : He.DefD := ⟨("abs_stretch", none), "abs_stretch", "abs_stretch", defArgs s_abs_stretch, defBody s_abs_stretch, defScope s_abs_stretch, [], []⟩
def d_max_stretches : He.DefD := ⟨("max_stretches", none), "max_stretches", "max_stretches", defArgs s_max_stretches, defBody s_max_stretches, defScope s_max_stretches, [], []⟩
def d_min_stretches : He.DefD := ⟨("min_stretches", none), "min_stretches", "min_stretches", defArgs s_min_stretches, defBody s_min_stretches, defScope s_min_stretches, [], []⟩
def d_arguments : He.DefD := ⟨("arguments", none), "arguments", "arguments", defArgs s_arguments, defBody s_arguments, defScope s_arguments, [], []⟩
def d_moved_node : He.DefD := ⟨("moved_node", none), "moved_node", "moved_node", defArgs s_moved_node, defBody s_moved_node, defScope s_moved_node, [], []⟩
def d_combine : He.DefD := ⟨("combine", none), "combine", "combine", defArgs s_combine, defBody s_combine, defScope s_combine, [], []⟩
def d_node_worth : He.DefD := ⟨("node_worth", none), "node_worth", "node_worth", defArgs s_node_worth, defBody s_node_worth, defScope s_node_worth, [], []⟩
def d_combine_stretches : He.DefD := ⟨("combine_stretches", none), "combine_stretches", "combine_stretches", defArgs s_combine_stretches, defBody s_combine_stretches, defScope s_combine_stretches, [], []⟩
def d_node_range : He.DefD := ⟨("node_range", none), "node_range", "node_range", defArgs s_node_range, defBody s_node_range, defScope s_node_range, [], []⟩
def d_node_weight : He.DefD := ⟨("node_weight", none), "node_weight", "node_weight", defArgs s_node_weight, defBody s_node_weight, defScope s_node_weight, [], []⟩
def d_ranges : He.DefD := ⟨("ranges", none), "ranges", "ranges", defArgs s_ranges, defBody s_ranges, defScope s_ranges, [], []⟩
def d_valid_name : He.DefD := ⟨("valid_name", none), "valid_name", "valid_name", defArgs s_valid_name, defBody s_valid_name, defScope s_valid_name, [], []⟩
def d_too_long : He.DefD := ⟨("too_long", none), "too_long", "too_long", defArgs s_too_long, defBody s_too_long, defScope s_too_long, [], []⟩
def d_law_jar : He.DefD := ⟨("_law_jar", none), "_law_jar", "_law_jar", defArgs s_law_jar, defBody s_law_jar, defScope s_law_jar, [], []⟩
def d_law_draw : He.DefD := ⟨("_law_draw", none), "_law_draw", "_law_draw", defArgs s_law_draw, defBody s_law_draw, defScope s_law_draw, [], []⟩
def d_law_low : He.DefD := ⟨("_law_low", none), "_law_low", "_law_low", defArgs s_law_low, defBody s_law_low, defScope s_law_low, [], []⟩
def d_law_less : He.DefD := ⟨("_law_less", none), "_law_less", "_law_less", defArgs s_law_less, defBody s_law_less, defScope s_law_less, [], []⟩
def d_law_plus : He.DefD := ⟨("_law_plus", none), "_law_plus", "_law_plus", defArgs s_law_plus, defBody s_law_plus, defScope s_law_plus, [], []⟩
def d_law_minus : He.DefD := ⟨("_law_minus", none), "_law_minus", "_law_minus", defArgs s_law_minus, defBody s_law_minus, defScope s_law_minus, [], []⟩
def d_law_times : He.DefD := ⟨("_law_times", none), "_law_times", "_law_times", defArgs s_law_times, defBody s_law_times, defScope s_law_times, [], []⟩
def d_law_over : He.DefD := ⟨("_law_over", none), "_law_over", "_law_over", defArgs s_law_over, defBody s_law_over, defScope s_law_over, [], []⟩
def d_law_place : He.DefD := ⟨("_law_place", none), "_law_place", "_law_place", defArgs s_law_place, defBody s_law_place, defScope s_law_place, [], []⟩
def d_law_inner : He.DefD := ⟨("_law_inner", none), "_law_inner", "_law_inner", defArgs s_law_inner, defBody s_law_inner, defScope s_law_inner, [], []⟩
def d_law_letters : He.DefD := ⟨("_law_letters", none), "_law_letters", "_law_letters", defArgs s_law_letters, defBody s_law_letters, defScope s_law_letters, [], []⟩
def d_law_put : He.DefD := ⟨("_law_put", none), "_law_put", "_law_put", defArgs s_law_put, defBody s_law_put, defScope s_law_put, [], []⟩
def d_law_value : He.DefD := ⟨("_law_value", none), "_law_value", "_law_value", defArgs s_law_value, defBody s_law_value, defScope s_law_value, [], []⟩
def d_law_with_number : He.DefD := ⟨("_law_with_number", none), "_law_with_number", "_law_with_number", defArgs s_law_with_number, defBody s_law_with_number, defScope s_law_with_number, [], []⟩
def d_law_term : He.DefD := ⟨("_law_term", none), "_law_term", "_law_term", defArgs s_law_term, defBody s_law_term, defScope s_law_term, [], []⟩
def d_law_parts : He.DefD := ⟨("_law_parts", none), "_law_parts", "_law_parts", defArgs s_law_parts, defBody s_law_parts, defScope s_law_parts, [], []⟩
def d_law_needed : He.DefD := ⟨("_law_needed", none), "_law_needed", "_law_needed", defArgs s_law_needed, defBody s_law_needed, defScope s_law_needed, [], []⟩
def d_law_canonical : He.DefD := ⟨("_law_canonical", none), "_law_canonical", "_law_canonical", defArgs s_law_canonical, defBody s_law_canonical, defScope s_law_canonical, [], []⟩
def d_law_worths : He.DefD := ⟨("_law_worths", none), "_law_worths", "_law_worths", defArgs s_law_worths, defBody s_law_worths, defScope s_law_worths, [], []⟩
def d_law_corner_spans : He.DefD := ⟨("_law_corner_spans", none), "_law_corner_spans", "_law_corner_spans", defArgs s_law_corner_spans, defBody s_law_corner_spans, defScope s_law_corner_spans, [], []⟩
def d_law_same_number : He.DefD := ⟨("_law_same_number", none), "_law_same_number", "_law_same_number", defArgs s_law_same_number, defBody s_law_same_number, defScope s_law_same_number, [], []⟩
def d_law_same_box : He.DefD := ⟨("_law_same_box", none), "_law_same_box", "_law_same_box", defArgs s_law_same_box, defBody s_law_same_box, defScope s_law_same_box, [], []⟩
def d_law : He.DefD := ⟨("law", none), "law", "law", defArgs s_law, defBody s_law, defScope s_law, [], []⟩
def d_Problem_init : He.DefD := ⟨("Problem", some "__init__"), "__init__", "Problem.__init__", defArgs s_Problem_init, defBody s_Problem_init, defScope s_Problem_init, [], []⟩
def d_Builder_init : He.DefD := ⟨("Builder", some "__init__"), "__init__", "Builder.__init__", defArgs s_Builder_init, defBody s_Builder_init, defScope s_Builder_init, [], []⟩
def d_Builder_letter : He.DefD := ⟨("Builder", some "letter"), "letter", "Builder.letter", defArgs s_Builder_letter, defBody s_Builder_letter, defScope s_Builder_letter, [], []⟩
def d_Builder_number : He.DefD := ⟨("Builder", some "number"), "number", "Builder.number", defArgs s_Builder_number, defBody s_Builder_number, defScope s_Builder_number, [], []⟩
def d_Builder_node : He.DefD := ⟨("Builder", some "node"), "node", "Builder.node", defArgs s_Builder_node, defBody s_Builder_node, defScope s_Builder_node, [.non], []⟩
def d_Builder_place : He.DefD := ⟨("Builder", some "_place"), "_place", "Builder._place", defArgs s_Builder_place, defBody s_Builder_place, defScope s_Builder_place, [], []⟩
def d_Builder_keep : He.DefD := ⟨("Builder", some "keep"), "keep", "Builder.keep", defArgs s_Builder_keep, defBody s_Builder_keep, defScope s_Builder_keep, [], []⟩
def d_Builder_least : He.DefD := ⟨("Builder", some "least"), "least", "Builder.least", defArgs s_Builder_least, defBody s_Builder_least, defScope s_Builder_least, [], []⟩
def d_Builder_problem : He.DefD := ⟨("Builder", some "problem"), "problem", "Builder.problem", defArgs s_Builder_problem, defBody s_Builder_problem, defScope s_Builder_problem, [], []⟩
def d_Builder_order : He.DefD := ⟨("Builder", some "_order"), "_order", "Builder._order", defArgs s_Builder_order, defBody s_Builder_order, defScope s_Builder_order, [], []⟩
def fnL : List He.DefD := [d_ratio, d_add, d_sub, d_mul, d_div, d_negate, d_size, d_power, d_upto, d_lesser, d_greater, d_floor, d_ceil, d_point_stretch, d_add_stretches, d_sub_stretches, d_negate_stretch, d_mul_stretches, d_has_zero, d_div_stretches, d_power_stretch, d_abs_stretch, d_max_stretches, d_min_stretches, d_arguments, d_moved_node, d_combine, d_node_worth, d_combine_stretches, d_node_range, d_node_weight, d_ranges, d_valid_name, d_too_long, d_law_jar, d_law_draw, d_law_low, d_law_less, d_law_plus, d_law_minus, d_law_times, d_law_over, d_law_place, d_law_inner, d_law_letters, d_law_put, d_law_value, d_law_with_number, d_law_term, d_law_parts, d_law_needed, d_law_canonical, d_law_worths, d_law_corner_spans, d_law_same_number, d_law_same_box, d_law, d_Problem_init, d_Builder_init, d_Builder_letter, d_Builder_number, d_Builder_node, d_Builder_place, d_Builder_keep, d_Builder_least, d_Builder_problem, d_Builder_order]
def faL : List He.Fa := [.glo "ratio", .glo "add", .glo "sub", .glo "mul", .glo "div", .glo "negate", .glo "size", .glo "power", .glo "upto", .glo "lesser", .glo "greater", .glo "floor", .glo "ceil", .glo "point_stretch", .glo "add_stretches", .glo "sub_stretches", .glo "negate_stretch", .glo "mul_stretches", .glo "has_zero", .glo "div_stretches", .glo "power_stretch", .glo "abs_stretch", .glo "max_stretches", .glo "min_stretches", .glo "arguments", .glo "moved_node", .glo "combine", .glo "node_worth", .glo "combine_stretches", .glo "node_range", .glo "node_weight", .glo "ranges", .glo "valid_name", .glo "too_long", .glo "_law_jar", .glo "_law_draw", .glo "_law_low", .glo "_law_less", .glo "_law_plus", .glo "_law_minus", .glo "_law_times", .glo "_law_over", .glo "_law_place", .glo "_law_inner", .glo "_law_letters", .glo "_law_put", .glo "_law_value", .glo "_law_with_number", .glo "_law_term", .glo "_law_parts", .glo "_law_needed", .glo "_law_canonical", .glo "_law_worths", .glo "_law_corner_spans", .glo "_law_same_number", .glo "_law_same_box", .glo "law", .free "range", .free "abs", .free "int", .free "len", .free "isinstance", .free "tuple", .free "bool", .free "str", .free "list", .free "all", .int "BEYOND" 1000000000000, .glo "ZERO", .glo "ONE", .str "FIRST_SIGNS" "abcdefghijklmnopqrstuvwxyz", .str "LATER_SIGNS" "abcdefghijklmnopqrstuvwxyz0123456789", .glo "RESERVED", .glo "Problem", .cls "Problem", .noat "Problem" "letters", .noat "Problem" "nodes", .noat "Problem" "ranges", .noat "Problem" "conditions", .noat "Problem" "goal", .mkr "Problem", .glo "Builder", .cls "Builder", .noat "Builder" "letters", .noat "Builder" "nodes", .noat "Builder" "ranges", .noat "Builder" "weights", .noat "Builder" "conditions", .noat "Builder" "goal", .noat "Builder" "_known", .mkr "Builder", .meth "Builder" "letter", .meth "Builder" "number", .meth "Builder" "node", .meth "Builder" "_place", .meth "Builder" "keep", .meth "Builder" "least", .meth "Builder" "problem", .meth "Builder" "_order"]
def biL : List (Str × String) := [("gcd", "math.gcd")]
def exL (K : PySem.W.Frag) : Bool := He.tupB K "ZERO" [.int (0), .int (1)] && He.tupB K "ONE" [.int (1), .int (1)] && He.tupB K "RESERVED" [.str "abs", .str "max", .str "min", .str "real", .str "whole", .str "let", .str "keep", .str "least"] && He.conB K "Builder" "MOST_LETTERS" (.int (6)) && He.conB K "Builder" "MOST_NODES" (.int (60)) && He.conB K "Builder" "MOST_CONDITIONS" (.int (12)) && He.conB K "Builder" "MOST_WEIGHT" (.int (40)) && true
abbrev R : PySem.W.OpenRow := PySem.W.OpenLaw.row PySem.Challenge.rw_leastinbox_k17_ranges_exact_once
abbrev hk : PySem.W.Hook := hookX biL exL faL fnL
def ob (s : PySem.W.SharedT) : He.AlD := obsXG biL exL faL fnL (HandSHeadRun.getT s)
theorem ob_eq (s : PySem.W.SharedT) : ob s = hk.obs s.abs := obsXG_eq (HandSHeadRun.getT_eq s)
theorem run_a (w : World) : (HandSHeadRun.wholeF (fun p => HandSHeadRun.stepQ (HandSHeadRun.denQ HandSHeadRun.tabQ) p w) HandSHeadRun.fenceQ 8000 R.prog).map (fun x => HandSHeadRun.looksF R.prog x.1.heap x.2.abs) = some true := by
  kernel_rfl
theorem run_b (w : World) : (HandSHeadRun.wholeF (fun p => HandSHeadRun.stepQ (HandSHeadRun.denQ HandSHeadRun.tabQ) p w) HandSHeadRun.fenceQ 8000 R.prog).map (fun x => HandSHeadRun.seenQ (PySem.W.view R.prog [0, 80]) (("ZERO" : PySem.Str) :: ("ONE" : PySem.Str) :: ("ratio" : PySem.Str) :: ("add" : PySem.Str) :: ("sub" : PySem.Str) :: ("mul" : PySem.Str) :: ("div" : PySem.Str) :: ("negate" : PySem.Str) :: ("size" : PySem.Str) :: ("power" : PySem.Str) :: ("upto" : PySem.Str) :: ("lesser" : PySem.Str) :: ("greater" : PySem.Str) :: ("floor" : PySem.Str) :: ("ceil" : PySem.Str) :: ("point_stretch" : PySem.Str) :: ("add_stretches" : PySem.Str) :: ("sub_stretches" : PySem.Str) :: ("negate_stretch" : PySem.Str) :: ("mul_stretches" : PySem.Str) :: ("has_zero" : PySem.Str) :: ("div_stretches" : PySem.Str) :: ("power_stretch" : PySem.Str) :: ("abs_stretch" : PySem.Str) :: ("max_stretches" : PySem.Str) :: ("min_stretches" : PySem.Str) :: ("arguments" : PySem.Str) :: ("moved_node" : PySem.Str) :: ("combine" : PySem.Str) :: ("node_worth" : PySem.Str) :: ("combine_stretches" : PySem.Str) :: ("node_range" : PySem.Str) :: ("node_weight" : PySem.Str) :: ("ranges" : PySem.Str) :: ("LeastError" : PySem.Str) :: ("BadName" : PySem.Str) :: ("BadStretch" : PySem.Str) :: ("EmptyRange" : PySem.Str) :: ("BadPower" : PySem.Str) :: ("BadQuotient" : PySem.Str) :: ("NoGoal" : PySem.Str) :: ("TooMany" : PySem.Str) :: ("RESERVED" : PySem.Str) :: ("FIRST_SIGNS" : PySem.Str) :: ("LATER_SIGNS" : PySem.Str) :: ("BEYOND" : PySem.Str) :: ("valid_name" : PySem.Str) :: ("Problem" : PySem.Str) :: ("Builder" : PySem.Str) :: ("too_long" : PySem.Str) :: ("_law_jar" : PySem.Str) :: ("_law_draw" : PySem.Str) :: ("_law_low" : PySem.Str) :: ("_law_less" : PySem.Str) :: ("_law_plus" : PySem.Str) :: ("_law_minus" : PySem.Str) :: ("_law_times" : PySem.Str) :: ("_law_over" : PySem.Str) :: ("_law_place" : PySem.Str) :: ("_law_inner" : PySem.Str) :: ("_law_letters" : PySem.Str) :: ("_law_put" : PySem.Str) :: ("_law_value" : PySem.Str) :: ("_law_with_number" : PySem.Str) :: ("_law_term" : PySem.Str) :: ("_law_parts" : PySem.Str) :: ("_law_needed" : PySem.Str) :: ("_law_canonical" : PySem.Str) :: ("_law_worths" : PySem.Str) :: ("_law_corner_spans" : PySem.Str) :: ("_law_same_number" : PySem.Str) :: ("_law_same_box" : PySem.Str) :: []) (PySem.importedModules R.prog.main.body) (fun s => PySem.W.xlAt (PySem.W.view R.prog [0, 80]) [] s && PySem.W.recOk R.toRowW.records s) x.2.abs) = some (PySem.W.openGood (PySem.W.view R.prog [0, 80]) (("ZERO" : PySem.Str) :: ("ONE" : PySem.Str) :: ("ratio" : PySem.Str) :: ("add" : PySem.Str) :: ("sub" : PySem.Str) :: ("mul" : PySem.Str) :: ("div" : PySem.Str) :: ("negate" : PySem.Str) :: ("size" : PySem.Str) :: ("power" : PySem.Str) :: ("upto" : PySem.Str) :: ("lesser" : PySem.Str) :: ("greater" : PySem.Str) :: ("floor" : PySem.Str) :: ("ceil" : PySem.Str) :: ("point_stretch" : PySem.Str) :: ("add_stretches" : PySem.Str) :: ("sub_stretches" : PySem.Str) :: ("negate_stretch" : PySem.Str) :: ("mul_stretches" : PySem.Str) :: ("has_zero" : PySem.Str) :: ("div_stretches" : PySem.Str) :: ("power_stretch" : PySem.Str) :: ("abs_stretch" : PySem.Str) :: ("max_stretches" : PySem.Str) :: ("min_stretches" : PySem.Str) :: ("arguments" : PySem.Str) :: ("moved_node" : PySem.Str) :: ("combine" : PySem.Str) :: ("node_worth" : PySem.Str) :: ("combine_stretches" : PySem.Str) :: ("node_range" : PySem.Str) :: ("node_weight" : PySem.Str) :: ("ranges" : PySem.Str) :: ("LeastError" : PySem.Str) :: ("BadName" : PySem.Str) :: ("BadStretch" : PySem.Str) :: ("EmptyRange" : PySem.Str) :: ("BadPower" : PySem.Str) :: ("BadQuotient" : PySem.Str) :: ("NoGoal" : PySem.Str) :: ("TooMany" : PySem.Str) :: ("RESERVED" : PySem.Str) :: ("FIRST_SIGNS" : PySem.Str) :: ("LATER_SIGNS" : PySem.Str) :: ("BEYOND" : PySem.Str) :: ("valid_name" : PySem.Str) :: ("Problem" : PySem.Str) :: ("Builder" : PySem.Str) :: ("too_long" : PySem.Str) :: ("_law_jar" : PySem.Str) :: ("_law_draw" : PySem.Str) :: ("_law_low" : PySem.Str) :: ("_law_less" : PySem.Str) :: ("_law_plus" : PySem.Str) :: ("_law_minus" : PySem.Str) :: ("_law_times" : PySem.Str) :: ("_law_over" : PySem.Str) :: ("_law_place" : PySem.Str) :: ("_law_inner" : PySem.Str) :: ("_law_letters" : PySem.Str) :: ("_law_put" : PySem.Str) :: ("_law_value" : PySem.Str) :: ("_law_with_number" : PySem.Str) :: ("_law_term" : PySem.Str) :: ("_law_parts" : PySem.Str) :: ("_law_needed" : PySem.Str) :: ("_law_canonical" : PySem.Str) :: ("_law_worths" : PySem.Str) :: ("_law_corner_spans" : PySem.Str) :: ("_law_same_number" : PySem.Str) :: ("_law_same_box" : PySem.Str) :: [])) := by
  kernel_rfl
theorem run_c (w : World) : (HandSHeadRun.wholeF (fun p => HandSHeadRun.stepQ (HandSHeadRun.denQ HandSHeadRun.tabQ) p w) HandSHeadRun.fenceQ 8000 R.prog).map (fun x => ob x.2) = some (hk.val w) := by
  kernel_rfl
theorem run (w : World) : HandSHeadRun.RunEqI R (PySem.W.view R.prog [0, 80]) hk ob 8000 (("ZERO" : PySem.Str) :: ("ONE" : PySem.Str) :: ("ratio" : PySem.Str) :: ("add" : PySem.Str) :: ("sub" : PySem.Str) :: ("mul" : PySem.Str) :: ("div" : PySem.Str) :: ("negate" : PySem.Str) :: ("size" : PySem.Str) :: ("power" : PySem.Str) :: ("upto" : PySem.Str) :: ("lesser" : PySem.Str) :: ("greater" : PySem.Str) :: ("floor" : PySem.Str) :: ("ceil" : PySem.Str) :: ("point_stretch" : PySem.Str) :: ("add_stretches" : PySem.Str) :: ("sub_stretches" : PySem.Str) :: ("negate_stretch" : PySem.Str) :: ("mul_stretches" : PySem.Str) :: ("has_zero" : PySem.Str) :: ("div_stretches" : PySem.Str) :: ("power_stretch" : PySem.Str) :: ("abs_stretch" : PySem.Str) :: ("max_stretches" : PySem.Str) :: ("min_stretches" : PySem.Str) :: ("arguments" : PySem.Str) :: ("moved_node" : PySem.Str) :: ("combine" : PySem.Str) :: ("node_worth" : PySem.Str) :: ("combine_stretches" : PySem.Str) :: ("node_range" : PySem.Str) :: ("node_weight" : PySem.Str) :: ("ranges" : PySem.Str) :: ("LeastError" : PySem.Str) :: ("BadName" : PySem.Str) :: ("BadStretch" : PySem.Str) :: ("EmptyRange" : PySem.Str) :: ("BadPower" : PySem.Str) :: ("BadQuotient" : PySem.Str) :: ("NoGoal" : PySem.Str) :: ("TooMany" : PySem.Str) :: ("RESERVED" : PySem.Str) :: ("FIRST_SIGNS" : PySem.Str) :: ("LATER_SIGNS" : PySem.Str) :: ("BEYOND" : PySem.Str) :: ("valid_name" : PySem.Str) :: ("Problem" : PySem.Str) :: ("Builder" : PySem.Str) :: ("too_long" : PySem.Str) :: ("_law_jar" : PySem.Str) :: ("_law_draw" : PySem.Str) :: ("_law_low" : PySem.Str) :: ("_law_less" : PySem.Str) :: ("_law_plus" : PySem.Str) :: ("_law_minus" : PySem.Str) :: ("_law_times" : PySem.Str) :: ("_law_over" : PySem.Str) :: ("_law_place" : PySem.Str) :: ("_law_inner" : PySem.Str) :: ("_law_letters" : PySem.Str) :: ("_law_put" : PySem.Str) :: ("_law_value" : PySem.Str) :: ("_law_with_number" : PySem.Str) :: ("_law_term" : PySem.Str) :: ("_law_parts" : PySem.Str) :: ("_law_needed" : PySem.Str) :: ("_law_canonical" : PySem.Str) :: ("_law_worths" : PySem.Str) :: ("_law_corner_spans" : PySem.Str) :: ("_law_same_number" : PySem.Str) :: ("_law_same_box" : PySem.Str) :: []) w := map_three (run_a w) (run_b w) (run_c w)
section
variable {K : PySem.W.Frag} {h : Heap} {mg : Str → Option Value}
theorem at_ratio (X : K.In h) (G : h.Ns mainGlobals mg) (c : SaysW biL exL faL fnL K) : Dfn K mg "ratio" s_ratio ["top", "bottom"] := by
  obtain ⟨fd, F⟩ := c.z.saysD.def_ 0 (d := d_ratio) rfl
  obtain ⟨ds, hv, hb⟩ := F.binds1 (ps := ["top", "bottom"]) 2 1 (by intro z; cases z) rfl fun T kV doc pm an cdv ct us its hu hi => match us, its, hu, hi with | [_, _], [_], _, _ => ⟨_, rfl, rfl⟩
  cases hv
  exact ⟨⟨_, fd, _, F, He.glo_ok X G (c.z.saysD.fact 0 (f := .glo "ratio") rfl), hb⟩⟩
theorem at_add (X : K.In h) (G : h.Ns mainGlobals mg) (c : SaysW biL exL faL fnL K) : Dfn K mg "add" s_add ["one", "two"] := by
  obtain ⟨fd, F⟩ := c.z.saysD.def_ 1 (d := d_add) rfl
  have hb := F.bindsN (ps := (["one", "two"] : List Str)) fun _ _ _ _ _ _ us hl => match us, hl with | [_, _], _ => rfl
  exact ⟨⟨_, fd, _, F, He.glo_ok X G (c.z.saysD.fact 1 (f := .glo "add") rfl), hb⟩⟩
theorem at_sub (X : K.In h) (G : h.Ns mainGlobals mg) (c : SaysW biL exL faL fnL K) : Dfn K mg "sub" s_sub ["one", "two"] := by
  obtain ⟨fd, F⟩ := c.z.saysD.def_ 2 (d := d_sub) rfl
  have hb := F.bindsN (ps := (["one", "two"] : List Str)) fun _ _ _ _ _ _ us hl => match us, hl with | [_, _], _ => rfl
  exact ⟨⟨_, fd, _, F, He.glo_ok X G (c.z.saysD.fact 2 (f := .glo "sub") rfl), hb⟩⟩
theorem at_mul (X : K.In h) (G : h.Ns mainGlobals mg) (c : SaysW biL exL faL fnL K) : Dfn K mg "mul" s_mul ["one", "two"] := by
  obtain ⟨fd, F⟩ := c.z.saysD.def_ 3 (d := d_mul) rfl
  have hb := F.bindsN (ps := (["one", "two"] : List Str)) fun _ _ _ _ _ _ us hl => match us, hl with | [_, _], _ => rfl
  exact ⟨⟨_, fd, _, F, He.glo_ok X G (c.z.saysD.fact 3 (f := .glo "mul") rfl), hb⟩⟩
theorem at_div (X : K.In h) (G : h.Ns mainGlobals mg) (c : SaysW biL exL faL fnL K) : Dfn K mg "div" s_div ["one", "two"] := by
  obtain ⟨fd, F⟩ := c.z.saysD.def_ 4 (d := d_div) rfl
  have hb := F.bindsN (ps := (["one", "two"] : List Str)) fun _ _ _ _ _ _ us hl => match us, hl with | [_, _], _ => rfl
  exact ⟨⟨_, fd, _, F, He.glo_ok X G (c.z.saysD.fact 4 (f := .glo "div") rfl), hb⟩⟩
theorem at_negate (X : K.In h) (G : h.Ns mainGlobals mg) (c : SaysW biL exL faL fnL K) : Dfn K mg "negate" s_negate ["one"] := by
  obtain ⟨fd, F⟩ := c.z.saysD.def_ 5 (d := d_negate) rfl
  have hb := F.bindsN (ps := (["one"] : List Str)) fun _ _ _ _ _ _ us hl => match us, hl with | [_], _ => rfl
  exact ⟨⟨_, fd, _, F, He.glo_ok X G (c.z.saysD.fact 5 (f := .glo "negate") rfl), hb⟩⟩
theorem at_size (X : K.In h) (G : h.Ns mainGlobals mg) (c : SaysW biL exL faL fnL K) : Dfn K mg "size" s_size ["one"] := by
  obtain ⟨fd, F⟩ := c.z.saysD.def_ 6 (d := d_size) rfl
  have hb := F.bindsN (ps := (["one"] : List Str)) fun _ _ _ _ _ _ us hl => match us, hl with | [_], _ => rfl
  exact ⟨⟨_, fd, _, F, He.glo_ok X G (c.z.saysD.fact 6 (f := .glo "size") rfl), hb⟩⟩
theorem at_power (X : K.In h) (G : h.Ns mainGlobals mg) (c : SaysW biL exL faL fnL K) : Dfn K mg "power" s_power ["one", "count"] := by
  obtain ⟨fd, F⟩ := c.z.saysD.def_ 7 (d := d_power) rfl
  have hb := F.bindsN (ps := (["one", "count"] : List Str)) fun _ _ _ _ _ _ us hl => match us, hl with | [_, _], _ => rfl
  exact ⟨⟨_, fd, _, F, He.glo_ok X G (c.z.saysD.fact 7 (f := .glo "power") rfl), hb⟩⟩
theorem at_upto (X : K.In h) (G : h.Ns mainGlobals mg) (c : SaysW biL exL faL fnL K) : Dfn K mg "upto" s_upto ["one", "two"] := by
  obtain ⟨fd, F⟩ := c.z.saysD.def_ 8 (d := d_upto) rfl
  have hb := F.bindsN (ps := (["one", "two"] : List Str)) fun _ _ _ _ _ _ us hl => match us, hl with | [_, _], _ => rfl
  exact ⟨⟨_, fd, _, F, He.glo_ok X G (c.z.saysD.fact 8 (f := .glo "upto") rfl), hb⟩⟩
theorem at_lesser (X : K.In h) (G : h.Ns mainGlobals mg) (c : SaysW biL exL faL fnL K) : Dfn K mg "lesser" s_lesser ["one", "two"] := by
  obtain ⟨fd, F⟩ := c.z.saysD.def_ 9 (d := d_lesser) rfl
  have hb := F.bindsN (ps := (["one", "two"] : List Str)) fun _ _ _ _ _ _ us hl => match us, hl with | [_, _], _ => rfl
  exact ⟨⟨_, fd, _, F, He.glo_ok X G (c.z.saysD.fact 9 (f := .glo "lesser") rfl), hb⟩⟩
theorem at_greater (X : K.In h) (G : h.Ns mainGlobals mg) (c : SaysW biL exL faL fnL K) : Dfn K mg "greater" s_greater ["one", "two"] := by
  obtain ⟨fd, F⟩ := c.z.saysD.def_ 10 (d := d_greater) rfl
  have hb := F.bindsN (ps := (["one", "two"] : List Str)) fun _ _ _ _ _ _ us hl => match us, hl with | [_, _], _ => rfl
  exact ⟨⟨_, fd, _, F, He.glo_ok X G (c.z.saysD.fact 10 (f := .glo "greater") rfl), hb⟩⟩
theorem at_floor (X : K.In h) (G : h.Ns mainGlobals mg) (c : SaysW biL exL faL fnL K) : Dfn K mg "floor" s_floor ["one"] := by
  obtain ⟨fd, F⟩ := c.z.saysD.def_ 11 (d := d_floor) rfl
  have hb := F.bindsN (ps := (["one"] : List Str)) fun _ _ _ _ _ _ us hl => match us, hl with | [_], _ => rfl
  exact ⟨⟨_, fd, _, F, He.glo_ok X G (c.z.saysD.fact 11 (f := .glo "floor") rfl), hb⟩⟩
theorem at_ceil (X : K.In h) (G : h.Ns mainGlobals mg) (c : SaysW biL exL faL fnL K) : Dfn K mg "ceil" s_ceil ["one"] := by
  obtain ⟨fd, F⟩ := c.z.saysD.def_ 12 (d := d_ceil) rfl
  have hb := F.bindsN (ps := (["one"] : List Str)) fun _ _ _ _ _ _ us hl => match us, hl with | [_], _ => rfl
  exact ⟨⟨_, fd, _, F, He.glo_ok X G (c.z.saysD.fact 12 (f := .glo "ceil") rfl), hb⟩⟩
theorem at_point_stretch (X : K.In h) (G : h.Ns mainGlobals mg) (c : SaysW biL exL faL fnL K) : Dfn K mg "point_stretch" s_point_stretch ["number"] := by
  obtain ⟨fd, F⟩ := c.z.saysD.def_ 13 (d := d_point_stretch) rfl
  have hb := F.bindsN (ps := (["number"] : List Str)) fun _ _ _ _ _ _ us hl => match us, hl with | [_], _ => rfl
  exact ⟨⟨_, fd, _, F, He.glo_ok X G (c.z.saysD.fact 13 (f := .glo "point_stretch") rfl), hb⟩⟩
theorem at_add_stretches (X : K.In h) (G : h.Ns mainGlobals mg) (c : SaysW biL exL faL fnL K) : Dfn K mg "add_stretches" s_add_stretches ["one", "two"] := by
  obtain ⟨fd, F⟩ := c.z.saysD.def_ 14 (d := d_add_stretches) rfl
  have hb := F.bindsN (ps := (["one", "two"] : List Str)) fun _ _ _ _ _ _ us hl => match us, hl with | [_, _], _ => rfl
  exact ⟨⟨_, fd, _, F, He.glo_ok X G (c.z.saysD.fact 14 (f := .glo "add_stretches") rfl), hb⟩⟩
theorem at_sub_stretches (X : K.In h) (G : h.Ns mainGlobals mg) (c : SaysW biL exL faL fnL K) : Dfn K mg "sub_stretches" s_sub_stretches ["one", "two"] := by
  obtain ⟨fd, F⟩ := c.z.saysD.def_ 15 (d := d_sub_stretches) rfl
  have hb := F.bindsN (ps := (["one", "two"] : List Str)) fun _ _ _ _ _ _ us hl => match us, hl with | [_, _], _ => rfl
  exact ⟨⟨_, fd, _, F, He.glo_ok X G (c.z.saysD.fact 15 (f := .glo "sub_stretches") rfl), hb⟩⟩
theorem at_negate_stretch (X : K.In h) (G : h.Ns mainGlobals mg) (c : SaysW biL exL faL fnL K) : Dfn K mg "negate_stretch" s_negate_stretch ["one"] := by
  obtain ⟨fd, F⟩ := c.z.saysD.def_ 16 (d := d_negate_stretch) rfl
  have hb := F.bindsN (ps := (["one"] : List Str)) fun _ _ _ _ _ _ us hl => match us, hl with | [_], _ => rfl
  exact ⟨⟨_, fd, _, F, He.glo_ok X G (c.z.saysD.fact 16 (f := .glo "negate_stretch") rfl), hb⟩⟩
theorem at_mul_stretches (X : K.In h) (G : h.Ns mainGlobals mg) (c : SaysW biL exL faL fnL K) : Dfn K mg "mul_stretches" s_mul_stretches ["one", "two"] := by
  obtain ⟨fd, F⟩ := c.z.saysD.def_ 17 (d := d_mul_stretches) rfl
  have hb := F.bindsN (ps := (["one", "two"] : List Str)) fun _ _ _ _ _ _ us hl => match us, hl with | [_, _], _ => rfl
  exact ⟨⟨_, fd, _, F, He.glo_ok X G (c.z.saysD.fact 17 (f := .glo "mul_stretches") rfl), hb⟩⟩
theorem at_has_zero (X : K.In h) (G : h.Ns mainGlobals mg) (c : SaysW biL exL faL fnL K) : Dfn K mg "has_zero" s_has_zero ["one"] := by
  obtain ⟨fd, F⟩ := c.z.saysD.def_ 18 (d := d_has_zero) rfl
  have hb := F.bindsN (ps := (["one"] : List Str)) fun _ _ _ _ _ _ us hl => match us, hl with | [_], _ => rfl
  exact ⟨⟨_, fd, _, F, He.glo_ok X G (c.z.saysD.fact 18 (f := .glo "has_zero") rfl), hb⟩⟩
theorem at_div_stretches (X : K.In h) (G : h.Ns mainGlobals mg) (c : SaysW biL exL faL fnL K) : Dfn K mg "div_stretches" s_div_stretches ["one", "two"] := by
  obtain ⟨fd, F⟩ := c.z.saysD.def_ 19 (d := d_div_stretches) rfl
  have hb := F.bindsN (ps := (["one", "two"] : List Str)) fun _ _ _ _ _ _ us hl => match us, hl with | [_, _], _ => rfl
  exact ⟨⟨_, fd, _, F, He.glo_ok X G (c.z.saysD.fact 19 (f := .glo "div_stretches") rfl), hb⟩⟩
theorem at_power_stretch (X : K.In h) (G : h.Ns mainGlobals mg) (c : SaysW biL exL faL fnL K) : Dfn K mg "power_stretch" s_power_stretch ["one", "count"] := by
  obtain ⟨fd, F⟩ := c.z.saysD.def_ 20 (d := d_power_stretch) rfl
  have hb := F.bindsN (ps := (["one", "count"] : List Str)) fun _ _ _ _ _ _ us hl => match us, hl with | [_, _], _ => rfl
  exact ⟨⟨_, fd, _, F, He.glo_ok X G (c.z.saysD.fact 20 (f := .glo "power_stretch") rfl), hb⟩⟩
theorem at_abs_stretch (X : K.In h) (G : h.Ns mainGlobals mg) (c : SaysW biL exL faL fnL K) : Dfn K mg "abs_stretch" s_abs_stretch ["one"] := by
  obtain ⟨fd, F⟩ := c.z.saysD.def_ 21 (d := d_abs_stretch) rfl
  have hb := F.bindsN (ps := (["one"] : List Str)) fun _ _ _ _ _ _ us hl => match us, hl with | [_], _ => rfl
  exact ⟨⟨_, fd, _, F, He.glo_ok X G (c.z.saysD.fact 21 (f := .glo "abs_stretch") rfl), hb⟩⟩
theorem at_max_stretches (X : K.In h) (G : h.Ns mainGlobals mg) (c : SaysW biL exL faL fnL K) : Dfn K mg "max_stretches" s_max_stretches ["one", "two"] := by
  obtain ⟨fd, F⟩ := c.z.saysD.def_ 22 (d := d_max_stretches) rfl
  have hb := F.bindsN (ps := (["one", "two"] : List Str)) fun _ _ _ _ _ _ us hl => match us, hl with | [_, _], _ => rfl
  exact ⟨⟨_, fd, _, F, He.glo_ok X G (c.z.saysD.fact 22 (f := .glo "max_stretches") rfl), hb⟩⟩
theorem at_min_stretches (X : K.In h) (G : h.Ns mainGlobals mg) (c : SaysW biL exL faL fnL K) : Dfn K mg "min_stretches" s_min_stretches ["one", "two"] := by
  obtain ⟨fd, F⟩ := c.z.saysD.def_ 23 (d := d_min_stretches) rfl
  have hb := F.bindsN (ps := (["one", "two"] : List Str)) fun _ _ _ _ _ _ us hl => match us, hl with | [_, _], _ => rfl
  exact ⟨⟨_, fd, _, F, He.glo_ok X G (c.z.saysD.fact 23 (f := .glo "min_stretches") rfl), hb⟩⟩
theorem at_arguments (X : K.In h) (G : h.Ns mainGlobals mg) (c : SaysW biL exL faL fnL K) : Dfn K mg "arguments" s_arguments ["node"] := by
  obtain ⟨fd, F⟩ := c.z.saysD.def_ 24 (d := d_arguments) rfl
  have hb := F.bindsN (ps := (["node"] : List Str)) fun _ _ _ _ _ _ us hl => match us, hl with | [_], _ => rfl
  exact ⟨⟨_, fd, _, F, He.glo_ok X G (c.z.saysD.fact 24 (f := .glo "arguments") rfl), hb⟩⟩
theorem at_moved_node (X : K.In h) (G : h.Ns mainGlobals mg) (c : SaysW biL exL faL fnL K) : Dfn K mg "moved_node" s_moved_node ["node", "places"] := by
  obtain ⟨fd, F⟩ := c.z.saysD.def_ 25 (d := d_moved_node) rfl
  have hb := F.bindsN (ps := (["node", "places"] : List Str)) fun _ _ _ _ _ _ us hl => match us, hl with | [_, _], _ => rfl
  exact ⟨⟨_, fd, _, F, He.glo_ok X G (c.z.saysD.fact 25 (f := .glo "moved_node") rfl), hb⟩⟩
theorem at_combine (X : K.In h) (G : h.Ns mainGlobals mg) (c : SaysW biL exL faL fnL K) : Dfn K mg "combine" s_combine ["kind", "one", "two"] := by
  obtain ⟨fd, F⟩ := c.z.saysD.def_ 26 (d := d_combine) rfl
  have hb := F.bindsN (ps := (["kind", "one", "two"] : List Str)) fun _ _ _ _ _ _ us hl => match us, hl with | [_, _, _], _ => rfl
  exact ⟨⟨_, fd, _, F, He.glo_ok X G (c.z.saysD.fact 26 (f := .glo "combine") rfl), hb⟩⟩
theorem at_node_worth (X : K.In h) (G : h.Ns mainGlobals mg) (c : SaysW biL exL faL fnL K) : Dfn K mg "node_worth" s_node_worth ["node", "found", "point"] := by
  obtain ⟨fd, F⟩ := c.z.saysD.def_ 27 (d := d_node_worth) rfl
  have hb := F.bindsN (ps := (["node", "found", "point"] : List Str)) fun _ _ _ _ _ _ us hl => match us, hl with | [_, _, _], _ => rfl
  exact ⟨⟨_, fd, _, F, He.glo_ok X G (c.z.saysD.fact 27 (f := .glo "node_worth") rfl), hb⟩⟩
theorem at_combine_stretches (X : K.In h) (G : h.Ns mainGlobals mg) (c : SaysW biL exL faL fnL K) : Dfn K mg "combine_stretches" s_combine_stretches ["kind", "one", "two"] := by
  obtain ⟨fd, F⟩ := c.z.saysD.def_ 28 (d := d_combine_stretches) rfl
  have hb := F.bindsN (ps := (["kind", "one", "two"] : List Str)) fun _ _ _ _ _ _ us hl => match us, hl with | [_, _, _], _ => rfl
  exact ⟨⟨_, fd, _, F, He.glo_ok X G (c.z.saysD.fact 28 (f := .glo "combine_stretches") rfl), hb⟩⟩
theorem at_node_range (X : K.In h) (G : h.Ns mainGlobals mg) (c : SaysW biL exL faL fnL K) : Dfn K mg "node_range" s_node_range ["node", "found", "box"] := by
  obtain ⟨fd, F⟩ := c.z.saysD.def_ 29 (d := d_node_range) rfl
  have hb := F.bindsN (ps := (["node", "found", "box"] : List Str)) fun _ _ _ _ _ _ us hl => match us, hl with | [_, _, _], _ => rfl
  exact ⟨⟨_, fd, _, F, He.glo_ok X G (c.z.saysD.fact 29 (f := .glo "node_range") rfl), hb⟩⟩
theorem at_node_weight (X : K.In h) (G : h.Ns mainGlobals mg) (c : SaysW biL exL faL fnL K) : Dfn K mg "node_weight" s_node_weight ["node", "found"] := by
  obtain ⟨fd, F⟩ := c.z.saysD.def_ 30 (d := d_node_weight) rfl
  have hb := F.bindsN (ps := (["node", "found"] : List Str)) fun _ _ _ _ _ _ us hl => match us, hl with | [_, _], _ => rfl
  exact ⟨⟨_, fd, _, F, He.glo_ok X G (c.z.saysD.fact 30 (f := .glo "node_weight") rfl), hb⟩⟩
theorem at_ranges (X : K.In h) (G : h.Ns mainGlobals mg) (c : SaysW biL exL faL fnL K) : Dfn K mg "ranges" s_ranges ["problem", "box"] := by
  obtain ⟨fd, F⟩ := c.z.saysD.def_ 31 (d := d_ranges) rfl
  have hb := F.bindsN (ps := (["problem", "box"] : List Str)) fun _ _ _ _ _ _ us hl => match us, hl with | [_, _], _ => rfl
  exact ⟨⟨_, fd, _, F, He.glo_ok X G (c.z.saysD.fact 31 (f := .glo "ranges") rfl), hb⟩⟩
theorem at_valid_name (X : K.In h) (G : h.Ns mainGlobals mg) (c : SaysW biL exL faL fnL K) : Dfn K mg "valid_name" s_valid_name ["name"] := by
  obtain ⟨fd, F⟩ := c.z.saysD.def_ 32 (d := d_valid_name) rfl
  have hb := F.bindsN (ps := (["name"] : List Str)) fun _ _ _ _ _ _ us hl => match us, hl with | [_], _ => rfl
  exact ⟨⟨_, fd, _, F, He.glo_ok X G (c.z.saysD.fact 32 (f := .glo "valid_name") rfl), hb⟩⟩
theorem at_too_long (X : K.In h) (G : h.Ns mainGlobals mg) (c : SaysW biL exL faL fnL K) : Dfn K mg "too_long" s_too_long ["value"] := by
  obtain ⟨fd, F⟩ := c.z.saysD.def_ 33 (d := d_too_long) rfl
  have hb := F.bindsN (ps := (["value"] : List Str)) fun _ _ _ _ _ _ us hl => match us, hl with | [_], _ => rfl
  exact ⟨⟨_, fd, _, F, He.glo_ok X G (c.z.saysD.fact 33 (f := .glo "too_long") rfl), hb⟩⟩
theorem at_law_jar (X : K.In h) (G : h.Ns mainGlobals mg) (c : SaysW biL exL faL fnL K) : Dfn K mg "_law_jar" s_law_jar ["script"] := by
  obtain ⟨fd, F⟩ := c.z.saysD.def_ 34 (d := d_law_jar) rfl
  have hb := F.bindsN (ps := (["script"] : List Str)) fun _ _ _ _ _ _ us hl => match us, hl with | [_], _ => rfl
  exact ⟨⟨_, fd, _, F, He.glo_ok X G (c.z.saysD.fact 34 (f := .glo "_law_jar") rfl), hb⟩⟩
theorem at_law_draw (X : K.In h) (G : h.Ns mainGlobals mg) (c : SaysW biL exL faL fnL K) : Dfn K mg "_law_draw" s_law_draw ["jar", "many"] := by
  obtain ⟨fd, F⟩ := c.z.saysD.def_ 35 (d := d_law_draw) rfl
  have hb := F.bindsN (ps := (["jar", "many"] : List Str)) fun _ _ _ _ _ _ us hl => match us, hl with | [_, _], _ => rfl
  exact ⟨⟨_, fd, _, F, He.glo_ok X G (c.z.saysD.fact 35 (f := .glo "_law_draw") rfl), hb⟩⟩
theorem at_law_low (X : K.In h) (G : h.Ns mainGlobals mg) (c : SaysW biL exL faL fnL K) : Dfn K mg "_law_low" s_law_low ["top", "bottom"] := by
  obtain ⟨fd, F⟩ := c.z.saysD.def_ 36 (d := d_law_low) rfl
  have hb := F.bindsN (ps := (["top", "bottom"] : List Str)) fun _ _ _ _ _ _ us hl => match us, hl with | [_, _], _ => rfl
  exact ⟨⟨_, fd, _, F, He.glo_ok X G (c.z.saysD.fact 36 (f := .glo "_law_low") rfl), hb⟩⟩
theorem at_law_less (X : K.In h) (G : h.Ns mainGlobals mg) (c : SaysW biL exL faL fnL K) : Dfn K mg "_law_less" s_law_less ["one", "two"] := by
  obtain ⟨fd, F⟩ := c.z.saysD.def_ 37 (d := d_law_less) rfl
  have hb := F.bindsN (ps := (["one", "two"] : List Str)) fun _ _ _ _ _ _ us hl => match us, hl with | [_, _], _ => rfl
  exact ⟨⟨_, fd, _, F, He.glo_ok X G (c.z.saysD.fact 37 (f := .glo "_law_less") rfl), hb⟩⟩
theorem at_law_plus (X : K.In h) (G : h.Ns mainGlobals mg) (c : SaysW biL exL faL fnL K) : Dfn K mg "_law_plus" s_law_plus ["one", "two"] := by
  obtain ⟨fd, F⟩ := c.z.saysD.def_ 38 (d := d_law_plus) rfl
  have hb := F.bindsN (ps := (["one", "two"] : List Str)) fun _ _ _ _ _ _ us hl => match us, hl with | [_, _], _ => rfl
  exact ⟨⟨_, fd, _, F, He.glo_ok X G (c.z.saysD.fact 38 (f := .glo "_law_plus") rfl), hb⟩⟩
theorem at_law_minus (X : K.In h) (G : h.Ns mainGlobals mg) (c : SaysW biL exL faL fnL K) : Dfn K mg "_law_minus" s_law_minus ["one", "two"] := by
  obtain ⟨fd, F⟩ := c.z.saysD.def_ 39 (d := d_law_minus) rfl
  have hb := F.bindsN (ps := (["one", "two"] : List Str)) fun _ _ _ _ _ _ us hl => match us, hl with | [_, _], _ => rfl
  exact ⟨⟨_, fd, _, F, He.glo_ok X G (c.z.saysD.fact 39 (f := .glo "_law_minus") rfl), hb⟩⟩
theorem at_law_times (X : K.In h) (G : h.Ns mainGlobals mg) (c : SaysW biL exL faL fnL K) : Dfn K mg "_law_times" s_law_times ["one", "two"] := by
  obtain ⟨fd, F⟩ := c.z.saysD.def_ 40 (d := d_law_times) rfl
  have hb := F.bindsN (ps := (["one", "two"] : List Str)) fun _ _ _ _ _ _ us hl => match us, hl with | [_, _], _ => rfl
  exact ⟨⟨_, fd, _, F, He.glo_ok X G (c.z.saysD.fact 40 (f := .glo "_law_times") rfl), hb⟩⟩
theorem at_law_over (X : K.In h) (G : h.Ns mainGlobals mg) (c : SaysW biL exL faL fnL K) : Dfn K mg "_law_over" s_law_over ["one", "two"] := by
  obtain ⟨fd, F⟩ := c.z.saysD.def_ 41 (d := d_law_over) rfl
  have hb := F.bindsN (ps := (["one", "two"] : List Str)) fun _ _ _ _ _ _ us hl => match us, hl with | [_, _], _ => rfl
  exact ⟨⟨_, fd, _, F, He.glo_ok X G (c.z.saysD.fact 41 (f := .glo "_law_over") rfl), hb⟩⟩
theorem at_law_place (X : K.In h) (G : h.Ns mainGlobals mg) (c : SaysW biL exL faL fnL K) : Dfn K mg "_law_place" s_law_place ["jar", "kind", "stretch"] := by
  obtain ⟨fd, F⟩ := c.z.saysD.def_ 42 (d := d_law_place) rfl
  have hb := F.bindsN (ps := (["jar", "kind", "stretch"] : List Str)) fun _ _ _ _ _ _ us hl => match us, hl with | [_, _, _], _ => rfl
  exact ⟨⟨_, fd, _, F, He.glo_ok X G (c.z.saysD.fact 42 (f := .glo "_law_place") rfl), hb⟩⟩
theorem at_law_inner (X : K.In h) (G : h.Ns mainGlobals mg) (c : SaysW biL exL faL fnL K) : Dfn K mg "_law_inner" s_law_inner ["jar", "letters", "box"] := by
  obtain ⟨fd, F⟩ := c.z.saysD.def_ 43 (d := d_law_inner) rfl
  have hb := F.bindsN (ps := (["jar", "letters", "box"] : List Str)) fun _ _ _ _ _ _ us hl => match us, hl with | [_, _, _], _ => rfl
  exact ⟨⟨_, fd, _, F, He.glo_ok X G (c.z.saysD.fact 43 (f := .glo "_law_inner") rfl), hb⟩⟩
theorem at_law_letters (X : K.In h) (G : h.Ns mainGlobals mg) (c : SaysW biL exL faL fnL K) : Dfn K mg "_law_letters" s_law_letters ["jar"] := by
  obtain ⟨fd, F⟩ := c.z.saysD.def_ 44 (d := d_law_letters) rfl
  have hb := F.bindsN (ps := (["jar"] : List Str)) fun _ _ _ _ _ _ us hl => match us, hl with | [_], _ => rfl
  exact ⟨⟨_, fd, _, F, He.glo_ok X G (c.z.saysD.fact 44 (f := .glo "_law_letters") rfl), hb⟩⟩
theorem at_law_put (X : K.In h) (G : h.Ns mainGlobals mg) (c : SaysW biL exL faL fnL K) : Dfn K mg "_law_put" s_law_put ["nodes", "places", "node", "place"] := by
  obtain ⟨fd, F⟩ := c.z.saysD.def_ 45 (d := d_law_put) rfl
  have hb := F.bindsN (ps := (["nodes", "places", "node", "place"] : List Str)) fun _ _ _ _ _ _ us hl => match us, hl with | [_, _, _, _], _ => rfl
  exact ⟨⟨_, fd, _, F, He.glo_ok X G (c.z.saysD.fact 45 (f := .glo "_law_put") rfl), hb⟩⟩
theorem at_law_value (X : K.In h) (G : h.Ns mainGlobals mg) (c : SaysW biL exL faL fnL K) : Dfn K mg "_law_value" s_law_value ["jar"] := by
  obtain ⟨fd, F⟩ := c.z.saysD.def_ 46 (d := d_law_value) rfl
  have hb := F.bindsN (ps := (["jar"] : List Str)) fun _ _ _ _ _ _ us hl => match us, hl with | [_], _ => rfl
  exact ⟨⟨_, fd, _, F, He.glo_ok X G (c.z.saysD.fact 46 (f := .glo "_law_value") rfl), hb⟩⟩
theorem at_law_with_number (X : K.In h) (G : h.Ns mainGlobals mg) (c : SaysW biL exL faL fnL K) : Dfn K mg "_law_with_number" s_law_with_number ["jar", "builder", "nodes", "places", "one"] := by
  obtain ⟨fd, F⟩ := c.z.saysD.def_ 47 (d := d_law_with_number) rfl
  have hb := F.bindsN (ps := (["jar", "builder", "nodes", "places", "one"] : List Str)) fun _ _ _ _ _ _ us hl => match us, hl with | [_, _, _, _, _], _ => rfl
  exact ⟨⟨_, fd, _, F, He.glo_ok X G (c.z.saysD.fact 47 (f := .glo "_law_with_number") rfl), hb⟩⟩
theorem at_law_term (X : K.In h) (G : h.Ns mainGlobals mg) (c : SaysW biL exL faL fnL K) : Dfn K mg "_law_term" s_law_term ["jar", "builder", "nodes", "places"] := by
  obtain ⟨fd, F⟩ := c.z.saysD.def_ 48 (d := d_law_term) rfl
  have hb := F.bindsN (ps := (["jar", "builder", "nodes", "places"] : List Str)) fun _ _ _ _ _ _ us hl => match us, hl with | [_, _, _, _], _ => rfl
  exact ⟨⟨_, fd, _, F, He.glo_ok X G (c.z.saysD.fact 48 (f := .glo "_law_term") rfl), hb⟩⟩
theorem at_law_parts (X : K.In h) (G : h.Ns mainGlobals mg) (c : SaysW biL exL faL fnL K) : Dfn K mg "_law_parts" s_law_parts ["node"] := by
  obtain ⟨fd, F⟩ := c.z.saysD.def_ 49 (d := d_law_parts) rfl
  have hb := F.bindsN (ps := (["node"] : List Str)) fun _ _ _ _ _ _ us hl => match us, hl with | [_], _ => rfl
  exact ⟨⟨_, fd, _, F, He.glo_ok X G (c.z.saysD.fact 49 (f := .glo "_law_parts") rfl), hb⟩⟩
theorem at_law_needed (X : K.In h) (G : h.Ns mainGlobals mg) (c : SaysW biL exL faL fnL K) : Dfn K mg "_law_needed" s_law_needed ["nodes", "at", "order"] := by
  obtain ⟨fd, F⟩ := c.z.saysD.def_ 50 (d := d_law_needed) rfl
  have hb := F.bindsN (ps := (["nodes", "at", "order"] : List Str)) fun _ _ _ _ _ _ us hl => match us, hl with | [_, _, _], _ => rfl
  exact ⟨⟨_, fd, _, F, He.glo_ok X G (c.z.saysD.fact 50 (f := .glo "_law_needed") rfl), hb⟩⟩
theorem at_law_canonical (X : K.In h) (G : h.Ns mainGlobals mg) (c : SaysW biL exL faL fnL K) : Dfn K mg "_law_canonical" s_law_canonical ["nodes", "count", "roots"] := by
  obtain ⟨fd, F⟩ := c.z.saysD.def_ 51 (d := d_law_canonical) rfl
  have hb := F.bindsN (ps := (["nodes", "count", "roots"] : List Str)) fun _ _ _ _ _ _ us hl => match us, hl with | [_, _, _], _ => rfl
  exact ⟨⟨_, fd, _, F, He.glo_ok X G (c.z.saysD.fact 51 (f := .glo "_law_canonical") rfl), hb⟩⟩
theorem at_law_worths (X : K.In h) (G : h.Ns mainGlobals mg) (c : SaysW biL exL faL fnL K) : Dfn K mg "_law_worths" s_law_worths ["nodes", "point"] := by
  obtain ⟨fd, F⟩ := c.z.saysD.def_ 52 (d := d_law_worths) rfl
  have hb := F.bindsN (ps := (["nodes", "point"] : List Str)) fun _ _ _ _ _ _ us hl => match us, hl with | [_, _], _ => rfl
  exact ⟨⟨_, fd, _, F, He.glo_ok X G (c.z.saysD.fact 52 (f := .glo "_law_worths") rfl), hb⟩⟩
theorem at_law_corner_spans (X : K.In h) (G : h.Ns mainGlobals mg) (c : SaysW biL exL faL fnL K) : Dfn K mg "_law_corner_spans" s_law_corner_spans ["nodes", "box"] := by
  obtain ⟨fd, F⟩ := c.z.saysD.def_ 53 (d := d_law_corner_spans) rfl
  have hb := F.bindsN (ps := (["nodes", "box"] : List Str)) fun _ _ _ _ _ _ us hl => match us, hl with | [_, _], _ => rfl
  exact ⟨⟨_, fd, _, F, He.glo_ok X G (c.z.saysD.fact 53 (f := .glo "_law_corner_spans") rfl), hb⟩⟩
theorem at_law_same_number (X : K.In h) (G : h.Ns mainGlobals mg) (c : SaysW biL exL faL fnL K) : Dfn K mg "_law_same_number" s_law_same_number ["actual", "due"] := by
  obtain ⟨fd, F⟩ := c.z.saysD.def_ 54 (d := d_law_same_number) rfl
  have hb := F.bindsN (ps := (["actual", "due"] : List Str)) fun _ _ _ _ _ _ us hl => match us, hl with | [_, _], _ => rfl
  exact ⟨⟨_, fd, _, F, He.glo_ok X G (c.z.saysD.fact 54 (f := .glo "_law_same_number") rfl), hb⟩⟩
theorem at_law_same_box (X : K.In h) (G : h.Ns mainGlobals mg) (c : SaysW biL exL faL fnL K) : Dfn K mg "_law_same_box" s_law_same_box ["actual", "due"] := by
  obtain ⟨fd, F⟩ := c.z.saysD.def_ 55 (d := d_law_same_box) rfl
  have hb := F.bindsN (ps := (["actual", "due"] : List Str)) fun _ _ _ _ _ _ us hl => match us, hl with | [_, _], _ => rfl
  exact ⟨⟨_, fd, _, F, He.glo_ok X G (c.z.saysD.fact 55 (f := .glo "_law_same_box") rfl), hb⟩⟩
theorem at_law (X : K.In h) (G : h.Ns mainGlobals mg) (c : SaysW biL exL faL fnL K) : Dfn K mg "law" s_law ["script"] := by
  obtain ⟨fd, F⟩ := c.z.saysD.def_ 56 (d := d_law) rfl
  have hb := F.bindsN (ps := (["script"] : List Str)) fun _ _ _ _ _ _ us hl => match us, hl with | [_], _ => rfl
  exact ⟨⟨_, fd, _, F, He.glo_ok X G (c.z.saysD.fact 56 (f := .glo "law") rfl), hb⟩⟩
theorem at_Problem_init (X : K.In h) (G : h.Ns mainGlobals mg) (c : SaysW biL exL faL fnL K) : DfnI K mg "Problem" (He.ga K "Problem") "Problem.__init__" s_Problem_init ["self", "letters", "nodes", "ranges", "conditions", "goal"] := by
  obtain ⟨fd, F⟩ := c.z.saysD.def_ 57 (d := d_Problem_init) rfl
  have hb := F.bindsN (ps := (["self", "letters", "nodes", "ranges", "conditions", "goal"] : List Str)) fun _ _ _ _ _ _ us hl => match us, hl with | [_, _, _, _, _, _], _ => rfl
  exact ⟨⟨_, fd, _, F, He.mkr_ok (c.z.saysD.fact 80 (f := .mkr "Problem") rfl), He.glo_ok X G (c.z.saysD.fact 73 (f := .glo "Problem") rfl), hb⟩⟩
theorem at_Builder_init (X : K.In h) (G : h.Ns mainGlobals mg) (c : SaysW biL exL faL fnL K) : DfnI K mg "Builder" (He.ga K "Builder") "Builder.__init__" s_Builder_init ["self"] := by
  obtain ⟨fd, F⟩ := c.z.saysD.def_ 58 (d := d_Builder_init) rfl
  have hb := F.bindsN (ps := (["self"] : List Str)) fun _ _ _ _ _ _ us hl => match us, hl with | [_], _ => rfl
  exact ⟨⟨_, fd, _, F, He.mkr_ok (c.z.saysD.fact 90 (f := .mkr "Builder") rfl), He.glo_ok X G (c.z.saysD.fact 81 (f := .glo "Builder") rfl), hb⟩⟩
theorem at_Builder_letter (X : K.In h) (G : h.Ns mainGlobals mg) (c : SaysW biL exL faL fnL K) : DfnM K (He.ga K "Builder") "letter" "Builder.letter" s_Builder_letter ["self", "name", "kind", "low", "high"] := by
  obtain ⟨fd, F⟩ := c.z.saysD.def_ 59 (d := d_Builder_letter) rfl
  have hb := F.bindsN (ps := (["self", "name", "kind", "low", "high"] : List Str)) fun _ _ _ _ _ _ us hl => match us, hl with | [_, _, _, _, _], _ => rfl
  exact ⟨⟨_, fd, _, F, He.cls_ok (c.z.saysD.fact 82 (f := .cls "Builder") rfl), He.meth_ok (c.z.saysD.fact 91 (f := .meth "Builder" "letter") rfl), hb⟩⟩
theorem at_Builder_number (X : K.In h) (G : h.Ns mainGlobals mg) (c : SaysW biL exL faL fnL K) : DfnM K (He.ga K "Builder") "number" "Builder.number" s_Builder_number ["self", "value"] := by
  obtain ⟨fd, F⟩ := c.z.saysD.def_ 60 (d := d_Builder_number) rfl
  have hb := F.bindsN (ps := (["self", "value"] : List Str)) fun _ _ _ _ _ _ us hl => match us, hl with | [_, _], _ => rfl
  exact ⟨⟨_, fd, _, F, He.cls_ok (c.z.saysD.fact 82 (f := .cls "Builder") rfl), He.meth_ok (c.z.saysD.fact 92 (f := .meth "Builder" "number") rfl), hb⟩⟩
theorem at_Builder_node (X : K.In h) (G : h.Ns mainGlobals mg) (c : SaysW biL exL faL fnL K) : DfnM K (He.ga K "Builder") "node" "Builder.node" s_Builder_node ["self", "kind", "one", "two"] := by
  obtain ⟨fd, F⟩ := c.z.saysD.def_ 61 (d := d_Builder_node) rfl
  obtain ⟨ds, hv, hb⟩ := F.binds1 (ps := ["self", "kind", "one", "two"]) 4 1 (by intro z; cases z) rfl fun T kV doc pm an cdv ct us its hu hi => match us, its, hu, hi with | [_, _, _, _], [_], _, _ => ⟨_, rfl, rfl⟩
  cases hv
  exact ⟨⟨_, fd, _, F, He.cls_ok (c.z.saysD.fact 82 (f := .cls "Builder") rfl), He.meth_ok (c.z.saysD.fact 93 (f := .meth "Builder" "node") rfl), hb⟩⟩
theorem at_Builder_place (X : K.In h) (G : h.Ns mainGlobals mg) (c : SaysW biL exL faL fnL K) : DfnM K (He.ga K "Builder") "_place" "Builder._place" s_Builder_place ["self", "node"] := by
  obtain ⟨fd, F⟩ := c.z.saysD.def_ 62 (d := d_Builder_place) rfl
  have hb := F.bindsN (ps := (["self", "node"] : List Str)) fun _ _ _ _ _ _ us hl => match us, hl with | [_, _], _ => rfl
  exact ⟨⟨_, fd, _, F, He.cls_ok (c.z.saysD.fact 82 (f := .cls "Builder") rfl), He.meth_ok (c.z.saysD.fact 94 (f := .meth "Builder" "_place") rfl), hb⟩⟩
theorem at_Builder_keep (X : K.In h) (G : h.Ns mainGlobals mg) (c : SaysW biL exL faL fnL K) : DfnM K (He.ga K "Builder") "keep" "Builder.keep" s_Builder_keep ["self", "node"] := by
  obtain ⟨fd, F⟩ := c.z.saysD.def_ 63 (d := d_Builder_keep) rfl
  have hb := F.bindsN (ps := (["self", "node"] : List Str)) fun _ _ _ _ _ _ us hl => match us, hl with | [_, _], _ => rfl
  exact ⟨⟨_, fd, _, F, He.cls_ok (c.z.saysD.fact 82 (f := .cls "Builder") rfl), He.meth_ok (c.z.saysD.fact 95 (f := .meth "Builder" "keep") rfl), hb⟩⟩
theorem at_Builder_least (X : K.In h) (G : h.Ns mainGlobals mg) (c : SaysW biL exL faL fnL K) : DfnM K (He.ga K "Builder") "least" "Builder.least" s_Builder_least ["self", "node"] := by
  obtain ⟨fd, F⟩ := c.z.saysD.def_ 64 (d := d_Builder_least) rfl
  have hb := F.bindsN (ps := (["self", "node"] : List Str)) fun _ _ _ _ _ _ us hl => match us, hl with | [_, _], _ => rfl
  exact ⟨⟨_, fd, _, F, He.cls_ok (c.z.saysD.fact 82 (f := .cls "Builder") rfl), He.meth_ok (c.z.saysD.fact 96 (f := .meth "Builder" "least") rfl), hb⟩⟩
theorem at_Builder_problem (X : K.In h) (G : h.Ns mainGlobals mg) (c : SaysW biL exL faL fnL K) : DfnM K (He.ga K "Builder") "problem" "Builder.problem" s_Builder_problem ["self"] := by
  obtain ⟨fd, F⟩ := c.z.saysD.def_ 65 (d := d_Builder_problem) rfl
  have hb := F.bindsN (ps := (["self"] : List Str)) fun _ _ _ _ _ _ us hl => match us, hl with | [_], _ => rfl
  exact ⟨⟨_, fd, _, F, He.cls_ok (c.z.saysD.fact 82 (f := .cls "Builder") rfl), He.meth_ok (c.z.saysD.fact 97 (f := .meth "Builder" "problem") rfl), hb⟩⟩
theorem at_Builder_order (X : K.In h) (G : h.Ns mainGlobals mg) (c : SaysW biL exL faL fnL K) : DfnM K (He.ga K "Builder") "_order" "Builder._order" s_Builder_order ["self"] := by
  obtain ⟨fd, F⟩ := c.z.saysD.def_ 66 (d := d_Builder_order) rfl
  have hb := F.bindsN (ps := (["self"] : List Str)) fun _ _ _ _ _ _ us hl => match us, hl with | [_], _ => rfl
  exact ⟨⟨_, fd, _, F, He.cls_ok (c.z.saysD.fact 82 (f := .cls "Builder") rfl), He.meth_ok (c.z.saysD.fact 98 (f := .meth "Builder" "_order") rfl), hb⟩⟩
theorem cls_Problem (X : K.In h) (G : h.Ns mainGlobals mg) (c : SaysW biL exL faL fnL K) : Cls K (He.ga K "Problem") := He.cls_ok (c.z.saysD.fact 74 (f := .cls "Problem") rfl)
theorem na_Problem_letters (X : K.In h) (G : h.Ns mainGlobals mg) (c : SaysW biL exL faL fnL K) : NoAttr K (He.ga K "Problem") "letters" := He.noat_ok (c.z.saysD.fact 75 (f := .noat "Problem" "letters") rfl)
theorem na_Problem_nodes (X : K.In h) (G : h.Ns mainGlobals mg) (c : SaysW biL exL faL fnL K) : NoAttr K (He.ga K "Problem") "nodes" := He.noat_ok (c.z.saysD.fact 76 (f := .noat "Problem" "nodes") rfl)
theorem na_Problem_ranges (X : K.In h) (G : h.Ns mainGlobals mg) (c : SaysW biL exL faL fnL K) : NoAttr K (He.ga K "Problem") "ranges" := He.noat_ok (c.z.saysD.fact 77 (f := .noat "Problem" "ranges") rfl)
theorem na_Problem_conditions (X : K.In h) (G : h.Ns mainGlobals mg) (c : SaysW biL exL faL fnL K) : NoAttr K (He.ga K "Problem") "conditions" := He.noat_ok (c.z.saysD.fact 78 (f := .noat "Problem" "conditions") rfl)
theorem na_Problem_goal (X : K.In h) (G : h.Ns mainGlobals mg) (c : SaysW biL exL faL fnL K) : NoAttr K (He.ga K "Problem") "goal" := He.noat_ok (c.z.saysD.fact 79 (f := .noat "Problem" "goal") rfl)
theorem cls_Builder (X : K.In h) (G : h.Ns mainGlobals mg) (c : SaysW biL exL faL fnL K) : Cls K (He.ga K "Builder") := He.cls_ok (c.z.saysD.fact 82 (f := .cls "Builder") rfl)
theorem na_Builder_letters (X : K.In h) (G : h.Ns mainGlobals mg) (c : SaysW biL exL faL fnL K) : NoAttr K (He.ga K "Builder") "letters" := He.noat_ok (c.z.saysD.fact 83 (f := .noat "Builder" "letters") rfl)
theorem na_Builder_nodes (X : K.In h) (G : h.Ns mainGlobals mg) (c : SaysW biL exL faL fnL K) : NoAttr K (He.ga K "Builder") "nodes" := He.noat_ok (c.z.saysD.fact 84 (f := .noat "Builder" "nodes") rfl)
theorem na_Builder_ranges (X : K.In h) (G : h.Ns mainGlobals mg) (c : SaysW biL exL faL fnL K) : NoAttr K (He.ga K "Builder") "ranges" := He.noat_ok (c.z.saysD.fact 85 (f := .noat "Builder" "ranges") rfl)
theorem na_Builder_weights (X : K.In h) (G : h.Ns mainGlobals mg) (c : SaysW biL exL faL fnL K) : NoAttr K (He.ga K "Builder") "weights" := He.noat_ok (c.z.saysD.fact 86 (f := .noat "Builder" "weights") rfl)
theorem na_Builder_conditions (X : K.In h) (G : h.Ns mainGlobals mg) (c : SaysW biL exL faL fnL K) : NoAttr K (He.ga K "Builder") "conditions" := He.noat_ok (c.z.saysD.fact 87 (f := .noat "Builder" "conditions") rfl)
theorem na_Builder_goal (X : K.In h) (G : h.Ns mainGlobals mg) (c : SaysW biL exL faL fnL K) : NoAttr K (He.ga K "Builder") "goal" := He.noat_ok (c.z.saysD.fact 88 (f := .noat "Builder" "goal") rfl)
theorem na_Builder__known (X : K.In h) (G : h.Ns mainGlobals mg) (c : SaysW biL exL faL fnL K) : NoAttr K (He.ga K "Builder") "_known" := He.noat_ok (c.z.saysD.fact 89 (f := .noat "Builder" "_known") rfl)
theorem fr_range (X : K.In h) (G : h.Ns mainGlobals mg) (c : SaysW biL exL faL fnL K) : mg "range" = none := He.free_ok X G (c.z.saysD.fact 57 (f := .free "range") rfl)
theorem fr_abs (X : K.In h) (G : h.Ns mainGlobals mg) (c : SaysW biL exL faL fnL K) : mg "abs" = none := He.free_ok X G (c.z.saysD.fact 58 (f := .free "abs") rfl)
theorem fr_int (X : K.In h) (G : h.Ns mainGlobals mg) (c : SaysW biL exL faL fnL K) : mg "int" = none := He.free_ok X G (c.z.saysD.fact 59 (f := .free "int") rfl)
theorem fr_len (X : K.In h) (G : h.Ns mainGlobals mg) (c : SaysW biL exL faL fnL K) : mg "len" = none := He.free_ok X G (c.z.saysD.fact 60 (f := .free "len") rfl)
theorem fr_isinstance (X : K.In h) (G : h.Ns mainGlobals mg) (c : SaysW biL exL faL fnL K) : mg "isinstance" = none := He.free_ok X G (c.z.saysD.fact 61 (f := .free "isinstance") rfl)
theorem fr_tuple (X : K.In h) (G : h.Ns mainGlobals mg) (c : SaysW biL exL faL fnL K) : mg "tuple" = none := He.free_ok X G (c.z.saysD.fact 62 (f := .free "tuple") rfl)
theorem fr_bool (X : K.In h) (G : h.Ns mainGlobals mg) (c : SaysW biL exL faL fnL K) : mg "bool" = none := He.free_ok X G (c.z.saysD.fact 63 (f := .free "bool") rfl)
theorem fr_str (X : K.In h) (G : h.Ns mainGlobals mg) (c : SaysW biL exL faL fnL K) : mg "str" = none := He.free_ok X G (c.z.saysD.fact 64 (f := .free "str") rfl)
theorem fr_list (X : K.In h) (G : h.Ns mainGlobals mg) (c : SaysW biL exL faL fnL K) : mg "list" = none := He.free_ok X G (c.z.saysD.fact 65 (f := .free "list") rfl)
theorem fr_all (X : K.In h) (G : h.Ns mainGlobals mg) (c : SaysW biL exL faL fnL K) : mg "all" = none := He.free_ok X G (c.z.saysD.fact 66 (f := .free "all") rfl)
theorem in_BEYOND (X : K.In h) (G : h.Ns mainGlobals mg) (c : SaysW biL exL faL fnL K) : ∃ t, mg "BEYOND" = some (.int 1000000000000 t) := He.int_ok X G (c.z.saysD.fact 67 (f := .int "BEYOND" 1000000000000) rfl)
theorem tu_ZERO (X : K.In h) (G : h.Ns mainGlobals mg) (c : SaysW biL exL faL fnL K) : mg "ZERO" = some (.ref (He.ga K "ZERO")) ∧ ∀ H, SqT K H (He.ga K "ZERO") [.int (0), .int (1)] := ⟨He.glo_ok X G (c.z.saysD.fact 68 (f := .glo "ZERO") rfl), fun H => He.tupB_ok (He.ba (He.ba (He.ba (He.ba (He.ba (He.ba (He.ba c.xt).1).1).1).1).1).1).1 H⟩
theorem tu_ONE (X : K.In h) (G : h.Ns mainGlobals mg) (c : SaysW biL exL faL fnL K) : mg "ONE" = some (.ref (He.ga K "ONE")) ∧ ∀ H, SqT K H (He.ga K "ONE") [.int (1), .int (1)] := ⟨He.glo_ok X G (c.z.saysD.fact 69 (f := .glo "ONE") rfl), fun H => He.tupB_ok (He.ba (He.ba (He.ba (He.ba (He.ba (He.ba (He.ba c.xt).1).1).1).1).1).1).2 H⟩
theorem st_FIRST_SIGNS (X : K.In h) (G : h.Ns mainGlobals mg) (c : SaysW biL exL faL fnL K) : ∃ t, mg "FIRST_SIGNS" = some (.str "abcdefghijklmnopqrstuvwxyz" t) := He.str_ok X G (c.z.saysD.fact 70 (f := .str "FIRST_SIGNS" "abcdefghijklmnopqrstuvwxyz") rfl)
theorem st_LATER_SIGNS (X : K.In h) (G : h.Ns mainGlobals mg) (c : SaysW biL exL faL fnL K) : ∃ t, mg "LATER_SIGNS" = some (.str "abcdefghijklmnopqrstuvwxyz0123456789" t) := He.str_ok X G (c.z.saysD.fact 71 (f := .str "LATER_SIGNS" "abcdefghijklmnopqrstuvwxyz0123456789") rfl)
theorem tt_RESERVED (X : K.In h) (G : h.Ns mainGlobals mg) (c : SaysW biL exL faL fnL K) : mg "RESERVED" = some (.ref (He.ga K "RESERVED")) ∧ ∀ H, SqT K H (He.ga K "RESERVED") ((["abs", "max", "min", "real", "whole", "let", "keep", "least"] : List Str).map V.str) := ⟨He.glo_ok X G (c.z.saysD.fact 72 (f := .glo "RESERVED") rfl), fun H => He.tupB_ok (He.ba (He.ba (He.ba (He.ba (He.ba (He.ba c.xt).1).1).1).1).1).2 H⟩
theorem co_Builder_MOST_LETTERS (X : K.In h) (G : h.Ns mainGlobals mg) (c : SaysW biL exL faL fnL K) : ∃ u, Con K (He.ga K "Builder") "MOST_LETTERS" (.int 6) u := He.conB_ok (He.ba (He.ba (He.ba (He.ba (He.ba c.xt).1).1).1).1).2
theorem co_Builder_MOST_NODES (X : K.In h) (G : h.Ns mainGlobals mg) (c : SaysW biL exL faL fnL K) : ∃ u, Con K (He.ga K "Builder") "MOST_NODES" (.int 60) u := He.conB_ok (He.ba (He.ba (He.ba (He.ba c.xt).1).1).1).2
theorem co_Builder_MOST_CONDITIONS (X : K.In h) (G : h.Ns mainGlobals mg) (c : SaysW biL exL faL fnL K) : ∃ u, Con K (He.ga K "Builder") "MOST_CONDITIONS" (.int 12) u := He.conB_ok (He.ba (He.ba (He.ba c.xt).1).1).2
theorem co_Builder_MOST_WEIGHT (X : K.In h) (G : h.Ns mainGlobals mg) (c : SaysW biL exL faL fnL K) : ∃ u, Con K (He.ga K "Builder") "MOST_WEIGHT" (.int 40) u := He.conB_ok (He.ba (He.ba c.xt).1).2
theorem bi_gcd (X : K.In h) (G : h.Ns mainGlobals mg) (c : SaysW biL exL faL fnL K) : mg "gcd" = some (.builtin "math.gcd") := PySem.W.mg_of X G (c.z.blt 0 (q := ("gcd", "math.gcd")) rfl)
end
theorem lawfd {K : PySem.W.Frag} {h : Heap} {mg : Str → Option Value} {f : Addr} (X : K.In h) (G : h.Ns mainGlobals mg) (hfa : mg ("law" : Str) = some (.ref f)) (c : SaysW biL exL faL fnL K) :
    ∃ (fd : FuncData) (dvs : List V), FunD K "law" "law" (defArgs s_law) (defBody s_law) (defScope s_law) dvs [] f fd ∧ ∀ (s : Shared) (v : Value), BindsTo s fd ⟨[v], []⟩ [("script", v)] := by
  obtain ⟨fd, F⟩ := c.z.saysD.def_ 56 (d := d_law) rfl
  have e := hfa.symm.trans (He.glo_ok X G (c.z.saysD.fact 56 (f := .glo "law") rfl))
  cases e
  have b := FunD.bindsA (ps := ["script"]) F fun _ _ _ _ _ _ us hl => match us, hl with | [_], _ => rfl
  exact ⟨fd, _, F, fun s v => b s [v] rfl⟩
end K17
namespace K17
open PySem PySem.Spec PyProof.Rows L2 Dl
section
variable {P : Program} {w : World} {K : PySem.W.Frag} {mg : Str → Option Value} {base : Heap}
/-! ### numbers -/
abbrev cRatio (P : Program) (w : World) (K : PySem.W.Frag) (mg : Str → Option Value) (base : Heap) : Prop := Cal P w K mg base "ratio" 1 ["top", "bottom"] phRatio
abbrev cAdd (P : Program) (w : World) (K : PySem.W.Frag) (mg : Str → Option Value) (base : Heap) : Prop := Cal P w K mg base "add" 2 ["one", "two"] (ph2R fun a b => a + b)
abbrev cSub (P : Program) (w : World) (K : PySem.W.Frag) (mg : Str → Option Value) (base : Heap) : Prop := Cal P w K mg base "sub" 2 ["one", "two"] (ph2R fun a b => a - b)
abbrev cMul (P : Program) (w : World) (K : PySem.W.Frag) (mg : Str → Option Value) (base : Heap) : Prop := Cal P w K mg base "mul" 2 ["one", "two"] (ph2R fun a b => a * b)
abbrev cLess (P : Program) (w : World) (K : PySem.W.Frag) (mg : Str → Option Value) (base : Heap) : Prop := Cal P w K mg base "less" 1 ["one", "two"] (phCR fun a b => decide (a < b))
abbrev cUpto (P : Program) (w : World) (K : PySem.W.Frag) (mg : Str → Option Value) (base : Heap) : Prop := Cal P w K mg base "upto" 1 ["one", "two"] (phCR fun a b => decide (a ≤ b))
/-- the whole number not above, not below -/
def flQ (q : Rat) : Int := (can q).1 / (can q).2
def ceQ (q : Rat) : Int := -(-(can q).1 / (can q).2)
def phFloor : Pm Int := fun as μ P => ∃ (a : Rat) (Z : Nat), as = [sl (can a)] ∧ (Nm Z (can a) ∧ Z ≤ 8000) ∧ P (flQ a) μ
def phCeil : Pm Int := fun as μ P => ∃ (a : Rat) (Z : Nat), as = [sl (can a)] ∧ (Nm Z (can a) ∧ Z ≤ 8000) ∧ P (ceQ a) μ
def phHalf : Pm Q2 := fun as μ P => ∃ (a : Rat) (Z : Nat), as = [sl (can a)] ∧ (Nm Z (can a) ∧ Z ≤ 8000) ∧ P (can (a / 2)) μ
def phMinR : Pm Q2 := fun as μ P => ∃ a b : Rat, as = [sl (can a), sl (can b)] ∧ OkC (can a) (can b) ∧ P (can (if a ≤ b then a else b)) μ
def phMaxR : Pm Q2 := fun as μ P => ∃ a b : Rat, as = [sl (can a), sl (can b)] ∧ OkC (can a) (can b) ∧ P (can (if b ≤ a then a else b)) μ
theorem nm_add {a b : Rat} {A B : Nat} (h : Nm A (can a)) (k : Nm B (can b)) : Nm (A + B + 1) (can (a + b)) := by
  have := h.add k
  rwa [fadd_q h.pos k.pos, qv_can, qv_can] at this
theorem nm_sub {a b : Rat} {A B : Nat} (h : Nm A (can a)) (k : Nm B (can b)) : Nm (A + B + 1) (can (a - b)) := by
  have := h.sub k
  rwa [fsub_q h.pos k.pos, qv_can, qv_can] at this
theorem nm_mul {a b : Rat} {A B : Nat} (h : Nm A (can a)) (k : Nm B (can b)) : Nm (A + B) (can (a * b)) := by
  have := h.mul k
  rwa [fmul_can] at this
theorem nm_frac {t b : Int} {A : Nat} (hb : 0 < b) (h1 : t.natAbs < 2 ^ A) (h2 : b.natAbs < 2 ^ A) : Nm A (can ((t : Rat) / (b : Rat))) := by
  rw [← lo_can hb]; exact Nm.lo hb h1 h2
theorem nm_int {t : Int} {A : Nat} (h : t.natAbs < 2 ^ A) (hA : 1 ≤ A) : Nm A (can (t : Rat)) :=
  ⟨show (0 : Int) < 1 by decide, h, Nat.lt_of_lt_of_le (show (1 : Int).natAbs < 2 ^ 1 by decide) (Nat.pow_le_pow_right (by decide) hA)⟩
theorem can_half (a : Rat) : lo (can a).1 (2 * (can a).2) = can (a / 2) := by
  have := can_pos a
  rw [lo_can (by omega), Rat.intCast_mul]
  congr 1
  have h := qv_can a
  unfold qv at h
  have n := cast_ne (can_pos a)
  rw [show ((2 : Int) : Rat) = 2 from rfl]
  generalize ((can a).1 : Rat) = x at h ⊢
  generalize ((can a).2 : Rat) = y at h n ⊢
  subst h
  grind
theorem nm_half {a : Rat} {A : Nat} (h : Nm A (can a)) : Nm (A + 2) (can (a / 2)) := by
  have e : a / 2 = a * (((1 : Int) : Rat) / ((2 : Int) : Rat)) := by rw [show ((1 : Int) : Rat) = 1 from rfl, show ((2 : Int) : Rat) = 2 from rfl]; grind
  rw [e]
  exact nm_mul h (nm_frac (by decide) (by decide) (by decide))
theorem c_ratio (D : Dfn K mg "ratio" s_ratio ["top", "bottom"]) (hgcd : mg "gcd" = some (.builtin "math.gcd")) : cRatio P w K mg base := by
  refine D.cal sc_ratio (fun as μ P h => ?_) fun f cdv A outer s H E hr as μ Pd h => ?_
  · obtain ⟨t, b, rfl, _⟩ := h; rfl
  obtain ⟨t, b, rfl, ⟨hb, hb2⟩, q⟩ := h
  have hg := gcd_pos (t := t) hb
  have hl := gcd_le (t := t) hb
  refine db_cons (ds_set (i := 2) sc_ratio.nd (de_gcd hgcd (de_var (i := 0) rfl (de_var (i := 1) rfl ?_))))
  refine db_cons (ds_if (dt_lt (de_var (i := 1) rfl (de_int ⟨fun h => ?_, fun h => ?_⟩))))
  · exact absurd (of_decide_eq_true h) (by omega)
  refine db_nil ?_
  have hd : ∀ z : Int, CDivW z ((Nat.gcd t.natAbs b.natAbs : Nat) : Int) := fun z => divW_of (n := 9000) hg (by omega) (by decide) (by decide)
  exact db_one (ds_ret (de_tup2 (de_div (de_var (i := 0) rfl (de_var (i := 2) rfl ⟨hd _, (de_div (de_var (i := 1) rfl (de_var (i := 2) rfl ⟨hd _, q⟩)))⟩)))))
theorem c_add (D : Dfn K mg "add" s_add ["one", "two"]) (cr : cRatio P w K mg base) : cAdd P w K mg base := by
  refine D.cal sc_add (fun as μ P h => ?_) fun f cdv A outer s H E hr as μ Pd h => ?_
  · obtain ⟨x, y, a, b, rfl, _⟩ := h; rfl
  obtain ⟨x, y, a, b, rfl, rfl, rfl, ok, q⟩ := h
  obtain ⟨m1, m2, m3, m4, p⟩ := ok.mul
  obtain ⟨⟨Z, _, z1, z2⟩, _⟩ := id ok
  have q : Pd (can (qv x + qv y)) μ := q
  rw [← fadd_q z1.pos z2.pos] at q
  have go : DB (cxD P w K mg base ["one", "two"] "add" s_add f cdv A outer s H E) [(defBody s_add).getD 1 (.Pass ⟨0, 0, 0, 0⟩)] [sl x, sl y] μ (fun _ μ' => ∃ x : Q2, (∀ K M H, Enc.R K M H .non x) ∧ Pd x μ') Pd (fun _ _ => False) (fun _ _ => False) :=
    db_one (ds_ret <| de_c1 cr hr (by decide) <| da_cons <| de_add <| de_mul <| de_ix0 <| de_var (i := 0) rfl <| de_ix1 <| de_var (i := 1) rfl ⟨m1, de_mul <| de_ix0 <| de_var (i := 1) rfl <| de_ix1 <| de_var (i := 0) rfl ⟨m2, da_cons <| de_mul <| de_ix1 <| de_var (i := 0) rfl <| de_ix1 <| de_var (i := 1) rfl ⟨m3, da_nil ⟨[], _, parts_none, _, _, rfl, ⟨p, ok.2⟩, q⟩⟩⟩⟩)
  refine db_cons (ds_if (dw_and (dt_eqI (de_ix1 (de_var (i := 0) rfl (de_int ⟨fun h => (dw_and1 (dt_eqI (de_ix1 (de_var (i := 1) rfl (de_int ⟨fun h2 => ?_, fun _ => db_nil go⟩))))), fun _ => ⟨fun h => (nomatch h), fun _ => db_nil go⟩⟩))))).dt)
  refine db_one (ds_ret <| de_tup2 <| de_add <| de_ix0 <| de_var (i := 0) rfl <| de_ix0 <| de_var (i := 1) rfl <| de_int ?_)
  rw [← add_one (of_decide_eq_true h) (of_decide_eq_true h2)]
  exact q
theorem c_sub (D : Dfn K mg "sub" s_sub ["one", "two"]) (cr : cRatio P w K mg base) : cSub P w K mg base := by
  refine D.cal sc_sub (fun as μ P h => ?_) fun f cdv A outer s H E hr as μ Pd h => ?_
  · obtain ⟨x, y, a, b, rfl, _⟩ := h; rfl
  obtain ⟨x, y, a, b, rfl, rfl, rfl, ok, q⟩ := h
  obtain ⟨m1, m2, m3, m4, p⟩ := ok.mul
  obtain ⟨⟨Z, _, z1, z2⟩, _⟩ := id ok
  have q : Pd (can (qv x - qv y)) μ := q
  rw [← fsub_q z1.pos z2.pos] at q
  have go : DB (cxD P w K mg base ["one", "two"] "sub" s_sub f cdv A outer s H E) [(defBody s_sub).getD 1 (.Pass ⟨0, 0, 0, 0⟩)] [sl x, sl y] μ (fun _ μ' => ∃ x : Q2, (∀ K M H, Enc.R K M H .non x) ∧ Pd x μ') Pd (fun _ _ => False) (fun _ _ => False) :=
    db_one (ds_ret <| de_c1 cr hr (by decide) <| da_cons <| de_sub <| de_mul <| de_ix0 <| de_var (i := 0) rfl <| de_ix1 <| de_var (i := 1) rfl ⟨m1, de_mul <| de_ix0 <| de_var (i := 1) rfl <| de_ix1 <| de_var (i := 0) rfl ⟨m2, da_cons <| de_mul <| de_ix1 <| de_var (i := 0) rfl <| de_ix1 <| de_var (i := 1) rfl ⟨m3, da_nil ⟨[], _, parts_none, _, _, rfl, ⟨p, ok.2⟩, q⟩⟩⟩⟩)
  refine db_cons (ds_if (dw_and (dt_eqI (de_ix1 (de_var (i := 0) rfl (de_int ⟨fun h => (dw_and1 (dt_eqI (de_ix1 (de_var (i := 1) rfl (de_int ⟨fun h2 => ?_, fun _ => db_nil go⟩))))), fun _ => ⟨fun h => (nomatch h), fun _ => db_nil go⟩⟩))))).dt)
  refine db_one (ds_ret <| de_tup2 <| de_sub <| de_ix0 <| de_var (i := 0) rfl <| de_ix0 <| de_var (i := 1) rfl <| de_int ?_)
  rw [← sub_one (of_decide_eq_true h) (of_decide_eq_true h2)]
  exact q
theorem c_upto (D : Dfn K mg "upto" s_upto ["one", "two"]) : cUpto P w K mg base := by
  refine D.cal sc_upto (fun as μ P h => ?_) fun f cdv A outer s H E hr as μ Pd h => ?_
  · obtain ⟨x, y, a, b, rfl, _⟩ := h; rfl
  obtain ⟨x, y, a, b, rfl, rfl, rfl, ok, q⟩ := h
  obtain ⟨m1, m2⟩ := ok.mul
  obtain ⟨Z, _, z1, z2⟩ := ok
  have e : decide (x.1 * y.2 ≤ y.1 * x.2) = decide (qv x ≤ qv y) := decide_eq_decide.mpr (qv_le z1.pos z2.pos)
  have q : Pd (decide (qv x ≤ qv y)) μ := q
  rw [← e] at q
  exact db_one (ds_ret <| de_le <| de_mul <| de_ix0 <| de_var (i := 0) rfl <| de_ix1 <| de_var (i := 1) rfl ⟨m1, de_mul <| de_ix0 <| de_var (i := 1) rfl <| de_ix1 <| de_var (i := 0) rfl ⟨m2, q⟩⟩)
theorem c_lesser (D : Dfn K mg "lesser" s_lesser ["one", "two"]) (cu : cUpto P w K mg base) : Cal P w K mg base "lesser" 2 ["one", "two"] phMinR := by
  refine D.cal sc_lesser (fun as μ P h => ?_) fun f cdv A outer s H E hr as μ Pd h => ?_
  · obtain ⟨x, y, rfl, _⟩ := h; rfl
  obtain ⟨x, y, rfl, ok, q⟩ := h
  refine db_cons (ds_if <| dt_val <| de_c1 cu hr (by decide) <| da_cons <| de_var (i := 0) rfl <| da_cons <| de_var (i := 1) rfl <| da_nil ⟨[], _, parts_none, _, _, _, _, rfl, qv_can _, qv_can _, ok, ⟨fun h => ?_, fun h => db_nil ?_⟩⟩)
  · rw [if_pos (of_decide_eq_true h)] at q
    exact db_one (ds_ret <| de_var (i := 0) rfl q)
  · rw [if_neg (of_decide_eq_false h)] at q
    exact db_one (ds_ret <| de_var (i := 1) rfl q)
theorem okC_swap {x y : Q2} (h : OkC x y) : OkC y x := by obtain ⟨A, a, b, c⟩ := h; exact ⟨A, a, c, b⟩
theorem c_greater (D : Dfn K mg "greater" s_greater ["one", "two"]) (cu : cUpto P w K mg base) : Cal P w K mg base "greater" 2 ["one", "two"] phMaxR := by
  refine D.cal sc_greater (fun as μ P h => ?_) fun f cdv A outer s H E hr as μ Pd h => ?_
  · obtain ⟨x, y, rfl, _⟩ := h; rfl
  obtain ⟨x, y, rfl, ok, q⟩ := h
  refine db_cons (ds_if <| dt_val <| de_c1 cu hr (by decide) <| da_cons <| de_var (i := 1) rfl <| da_cons <| de_var (i := 0) rfl <| da_nil ⟨[], _, parts_none, _, _, _, _, rfl, qv_can _, qv_can _, okC_swap ok, ⟨fun h => ?_, fun h => db_nil ?_⟩⟩)
  · rw [if_pos (of_decide_eq_true h)] at q
    exact db_one (ds_ret <| de_var (i := 0) rfl q)
  · rw [if_neg (of_decide_eq_false h)] at q
    exact db_one (ds_ret <| de_var (i := 1) rfl q)
theorem c_floor (D : Dfn K mg "floor" s_floor ["one"]) : Cal P w K mg base "floor" 1 ["one"] phFloor := by
  refine D.cal sc_floor (fun as μ P h => ?_) fun f cdv A outer s H E hr as μ Pd h => ?_
  · obtain ⟨_, _, rfl, _⟩ := h; rfl
  obtain ⟨a, Z, rfl, ⟨z, hZ⟩, q⟩ := h
  have hd : ∀ z' : Int, CDivW z' (can a).2 := fun _ => divW_of (n := 9000) z.pos (pow2_mono z.b (by omega)) (by decide) (by decide)
  exact db_one (ds_ret <| de_div <| de_ix0 <| de_var (i := 0) rfl <| de_ix1 <| de_var (i := 0) rfl ⟨hd _, q⟩)
theorem c_ceil (D : Dfn K mg "ceil" s_ceil ["one"]) : Cal P w K mg base "ceil" 1 ["one"] phCeil := by
  refine D.cal sc_ceil (fun as μ P h => ?_) fun f cdv A outer s H E hr as μ Pd h => ?_
  · obtain ⟨_, _, rfl, _⟩ := h; rfl
  obtain ⟨a, Z, rfl, ⟨z, hZ⟩, q⟩ := h
  have hd : ∀ z' : Int, CDivW z' (can a).2 := fun _ => divW_of (n := 9000) z.pos (pow2_mono z.b (by omega)) (by decide) (by decide)
  exact db_one (ds_ret <| de_neg <| de_div <| de_neg <| de_ix0 <| de_var (i := 0) rfl <| de_ix1 <| de_var (i := 0) rfl ⟨hd _, q⟩)
theorem c_mul (D : Dfn K mg "mul" s_mul ["one", "two"]) (cr : cRatio P w K mg base) : cMul P w K mg base := by
  refine D.cal sc_mul (fun as μ P h => ?_) fun f cdv A outer s H E hr as μ Pd h => ?_
  · obtain ⟨x, y, a, b, rfl, _⟩ := h; rfl
  obtain ⟨x, y, a, b, rfl, rfl, rfl, ok, q⟩ := h
  obtain ⟨m1, m2, m3, m4, p⟩ := ok.mul
  obtain ⟨⟨Z, _, z1, z2⟩, _⟩ := id ok
  rw [← fmul_q z1.pos z2.pos] at q
  have go : DB (cxD P w K mg base ["one", "two"] "mul" s_mul f cdv A outer s H E) [(defBody s_mul).getD 1 (.Pass ⟨0, 0, 0, 0⟩)] [sl x, sl y] μ (fun _ μ' => ∃ x : Q2, (∀ K M H, Enc.R K M H .non x) ∧ Pd x μ') Pd (fun _ _ => False) (fun _ _ => False) :=
    db_one (ds_ret (de_c1 cr hr (by decide) (da_cons (de_mul (de_ix0 (de_var (i := 0) rfl (de_ix0 (de_var (i := 1) rfl ⟨m4, (da_cons (de_mul (de_ix1 (de_var (i := 0) rfl (de_ix1 (de_var (i := 1) rfl ⟨m3, (da_nil ⟨[], _, parts_none, _, _, rfl, ⟨p, ok.2⟩, q⟩)⟩))))))⟩))))))))
  refine db_cons (ds_if (dw_and (dt_eqI (de_ix1 (de_var (i := 0) rfl (de_int ⟨fun h => (dw_and1 (dt_eqI (de_ix1 (de_var (i := 1) rfl (de_int ⟨fun h2 => ?_, fun _ => db_nil go⟩))))), fun _ => ⟨fun h => (nomatch h), fun _ => db_nil go⟩⟩))))).dt)
  refine db_one (ds_ret (de_tup2 (de_mul (de_ix0 (de_var (i := 0) rfl (de_ix0 (de_var (i := 1) rfl ⟨m4, (de_int ?_)⟩)))))))
  rw [← mul_one (of_decide_eq_true h) (of_decide_eq_true h2)]
  exact q
abbrev cNegate (P : Program) (w : World) (K : PySem.W.Frag) (mg : Str → Option Value) (base : Heap) : Prop := Cal P w K mg base "negate" 1 ["one"] phNeg
theorem c_negate (D : Dfn K mg "negate" s_negate ["one"]) : cNegate P w K mg base := by
  refine D.cal sc_negate (fun as μ P h => ?_) fun f cdv A outer s H E hr as μ Pd h => ?_
  · obtain ⟨x, rfl, _⟩ := h; rfl
  obtain ⟨x, rfl, _, q⟩ := h
  rw [can_neg] at q
  exact db_one (ds_ret (de_tup2 (de_neg (de_ix0 (de_var (i := 0) rfl (de_ix1 (de_var (i := 0) rfl q)))))))
def phSize : Pm Q2 := fun as μ P => ∃ a : Rat, as = [sl (can a)] ∧ True ∧ P (can (if a < 0 then -a else a)) μ
abbrev cSize (P : Program) (w : World) (K : PySem.W.Frag) (mg : Str → Option Value) (base : Heap) : Prop := Cal P w K mg base "size" 1 ["one"] phSize
theorem c_size (D : Dfn K mg "size" s_size ["one"]) (hab : mg "abs" = none) : cSize P w K mg base := by
  refine D.cal sc_size (fun as μ P h => ?_) fun f cdv A outer s H E hr as μ Pd h => ?_
  · obtain ⟨x, rfl, _⟩ := h; rfl
  obtain ⟨x, rfl, _, q⟩ := h
  refine db_one (ds_ret (de_tup2 (de_abs hab (de_ix0 (de_var (i := 0) rfl (de_ix1 (de_var (i := 0) rfl ?_)))))))
  have e : ((((can x).1.natAbs : Nat) : Int), (can x).2) = can (if x < 0 then -x else x) := by
    split
    · rename_i h
      have := can_num_neg.mpr h
      rw [can_neg]
      congr 1
      omega
    · rename_i h
      have : ¬ (can x).1 < 0 := fun z => h (can_num_neg.mp z)
      rw [Int.natAbs_of_nonneg (by omega)]
  rw [e]; exact q
end
end K17
namespace K17
open PySem PySem.Spec PyProof.Rows L2 Dl
section
variable {P : Program} {w : World} {K : PySem.W.Frag} {mg : Str → Option Value} {base : Heap}
/-! ### stretches and boxes -/
structure PrbK (K : PySem.W.Frag) : Prop where
  cls : Cls K (He.ga K "Problem")
  letters : NoAttr K (He.ga K "Problem") "letters"
  nodes : NoAttr K (He.ga K "Problem") "nodes"
  ranges : NoAttr K (He.ga K "Problem") "ranges"
  conditions : NoAttr K (He.ga K "Problem") "conditions"
  goal : NoAttr K (He.ga K "Problem") "goal"
theorem can_int (t : Int) : can (t : Rat) = (t, 1) := rfl
theorem okC_b {x y : Q2} {A B : Nat} (h1 : Nm A x) (h2 : Nm B y) (k : A + B ≤ 20000) : OkC x y := ⟨A + B, by omega, h1.mono (by omega), h2.mono (by omega)⟩
theorem okC_can {a b : Rat} {A B : Nat} (h1 : Nm A (can a)) (h2 : Nm B (can b)) (k : A + B ≤ 9000) : OkC (can a) (can b) := okC_b h1 h2 (by omega)
/-- whole or real -/
def kS (b : Bool) : Str := if b then "whole" else "real"
theorem kS_ok (b : Bool) : PyData.strOk (kS b) = true := by cases b <;> decide +kernel
theorem ok_whole : PyData.strOk ("whole" : Str) = true := by decide +kernel
theorem kS_eq (b : Bool) : decide (kS b = ("whole" : Str)) = b := by cases b <;> decide +kernel
def halfQ (b : Bool) (l u : Rat) : Rat := if b then ((flQ ((l + u) / 2) : Int) : Rat) else (l + u) / 2
/-- the letters of a problem: whole or real -/
def PrbW (p : Prb) (n : Nat) (wk : Nat → Bool) : Prop := ∀ k, k < n → ∃ y : L4, p.letters[k]? = some y ∧ y.x1 = kS (wk k)
def BoxN (Z n : Nat) (l u : Nat → Rat) : Prop := ∀ k, k < n → Nm Z (can (l k)) ∧ Nm Z (can (u k))
theorem atI_st {n k : Nat} {l u : Nat → Rat} (h : k < n) : atI (stOf n l u) (k : Int) = some (can (l k), can (u k)) := atI_rm h
theorem st_len {n : Nat} {l u : Nat → Rat} : (stOf n l u).length = n := by unfold stOf; simp
theorem st_put {n k : Nat} {l u : Nat → Rat} {a b : Rat} (h : k < n) : (stOf n l u).take k ++ [(can a, can b)] ++ (stOf n l u).drop (k + 1) = stOf n (fun j => if j = k then a else l j) (fun j => if j = k then b else u j) := by
  have e : (stOf n (fun j => if j = k then a else l j) fun j => if j = k then b else u j) = (stOf n l u).set k (can a, can b) := range_map_set fun j _ => by by_cases e : j = k <;> simp [e]
  rw [e, List.set_eq_take_append_cons_drop, if_pos (by rw [st_len]; exact h), List.append_assoc]; rfl
def maxQ (a b : Rat) : Rat := if b ≤ a then a else b
def minQ (a b : Rat) : Rat := if a ≤ b then a else b
theorem nm_maxQ {a b : Rat} {Z : Nat} (h : Nm Z (can a)) (k : Nm Z (can b)) : Nm Z (can (maxQ a b)) := by unfold maxQ; split <;> assumption
theorem nm_minQ {a b : Rat} {Z : Nat} (h : Nm Z (can a)) (k : Nm Z (can b)) : Nm Z (can (minQ a b)) := by unfold minQ; split <;> assumption
theorem nm_fl {a : Rat} {Z : Nat} (h : Nm Z (can a)) (h1 : 1 ≤ Z) : Nm Z (can ((flQ a : Int) : Rat)) := by
  refine nm_int (Nat.lt_of_le_of_lt ?_ h.t) h1
  exact Int.natAbs_ediv_le_natAbs _ _
theorem nm_ce {a : Rat} {Z : Nat} (h : Nm Z (can a)) (h1 : 1 ≤ Z) : Nm Z (can ((ceQ a : Int) : Rat)) := by
  refine nm_int (Nat.lt_of_le_of_lt ?_ h.t) h1
  unfold ceQ
  rw [Int.natAbs_neg]
  have := Int.natAbs_ediv_le_natAbs (-(can a).1) (can a).2
  rwa [Int.natAbs_neg] at this
end
end K17
namespace K17
open PySem PySem.Spec PyProof.Rows L2 Dl
section
variable {P : Program} {w : World} {K : PySem.W.Frag} {mg : Str → Option Value} {base : Heap}
/-! ### quotients by any number but zero, powers -/
theorem fdivN {t : Int} {g : Nat} (hg : 0 < g) (h : (g : Int) ∣ t) : t.fdiv (-(g : Int)) = (-t) / (g : Int) := by
  obtain ⟨k, rfl⟩ := h
  have e : (g : Int) * k = (-(g : Int)) * (-k) := by rw [Int.neg_mul_neg]
  rw [e, Int.mul_fdiv_cancel_left _ (by omega)]
  rw [show -(-(g : Int) * -k) = (g : Int) * (-k) by rw [Int.neg_mul, Int.neg_neg]]
  rw [Int.mul_ediv_cancel_left _ (by omega)]
theorem lo_neg {t b : Int} (hb : b < 0) : can ((t : Rat) / (b : Rat)) = ((-t) / ((Nat.gcd t.natAbs b.natAbs : Nat) : Int), (-b) / ((Nat.gcd t.natAbs b.natAbs : Nat) : Int)) := by
  have e1 : can ((t : Rat) / (b : Rat)) = lo (-t) (-b) := by
    rw [lo_can (by omega), Rat.intCast_neg, Rat.intCast_neg]
    congr 1
    grind
  have e2 : lo (-t) (-b) = ((-t) / ((Nat.gcd t.natAbs b.natAbs : Nat) : Int), (-b) / ((Nat.gcd t.natAbs b.natAbs : Nat) : Int)) := by
    unfold Dl.lo
    rw [Int.natAbs_neg, Int.natAbs_neg]
  rw [e1, e2]
theorem num_eq' (q : Rat) : (((can q).1 : Int) : Rat) = q * (((can q).2 : Int) : Rat) := by
  have e := qv_can q
  unfold qv at e
  have := Rat.div_mul_cancel (a := (((can q).1 : Int) : Rat)) (cast_ne (can_pos q))
  rw [e] at this
  exact this.symm
def phRatioN : Pm Q2 := fun as μ P => ∃ t b : Int, as = [sl t, sl b] ∧ (b ≠ 0 ∧ b.natAbs < 2 ^ 9000) ∧ P (can ((t : Rat) / (b : Rat))) μ
theorem c_ratioN (D : Dfn K mg "ratio" s_ratio ["top", "bottom"]) (hgcd : mg "gcd" = some (.builtin "math.gcd")) : Cal P w K mg base "ratio" 1 ["top", "bottom"] phRatioN := by
  refine D.cal sc_ratio (fun as μ P h => ?_) fun f cdv A outer s H E hr as μ Pd h => ?_
  · obtain ⟨t, b, rfl, _⟩ := h; rfl
  obtain ⟨t, b, rfl, ⟨hb, hb2⟩, q⟩ := h
  have hg : 0 < Nat.gcd t.natAbs b.natAbs := Nat.gcd_pos_of_pos_right _ (by omega)
  have hl : Nat.gcd t.natAbs b.natAbs ≤ b.natAbs := Nat.gcd_le_right _ (by omega)
  have d1 : ((Nat.gcd t.natAbs b.natAbs : Nat) : Int) ∣ t := gcd_dl t b
  have d2 : ((Nat.gcd t.natAbs b.natAbs : Nat) : Int) ∣ b := gcd_dr t b
  refine db_cons (ds_set (i := 2) sc_ratio.nd (de_gcd hgcd (de_var (i := 0) rfl (de_var (i := 1) rfl ?_))))
  refine db_cons (ds_if (dt_lt (de_var (i := 1) rfl (de_int ⟨fun h => ?_, fun h => ?_⟩))))
  · have h := of_decide_eq_true h
    have hd : ∀ z : Int, CDivZ z (-((Nat.gcd t.natAbs b.natAbs : Nat) : Int)) := fun z => ⟨by omega, Nat.lt_of_lt_of_le (bits_of (n := 9000) (by rw [Int.natAbs_neg, Int.natAbs_natCast]; omega) (by decide)) (Nat.le_refl _)⟩
    refine db_one (ds_set (i := 2) sc_ratio.nd (de_neg (de_var (i := 2) rfl ?_)))
    refine db_one (ds_ret (de_tup2 (de_divZ (de_var (i := 0) rfl (de_var (i := 2) rfl ⟨hd _, (de_divZ (de_var (i := 1) rfl (de_var (i := 2) rfl ⟨hd _, ?_⟩)))⟩)))))
    rw [fdivN hg d1, fdivN hg d2]
    rw [lo_neg h] at q
    exact q
  have h := of_decide_eq_false h
  rw [← lo_can (by omega)] at q
  have hd : ∀ z : Int, CDivW z ((Nat.gcd t.natAbs b.natAbs : Nat) : Int) := fun z => divW_of (n := 9000) (by omega) (by rw [Int.natAbs_natCast]; omega) (by decide) (by decide)
  refine db_nil ?_
  exact db_one (ds_ret (de_tup2 (de_div (de_var (i := 0) rfl (de_var (i := 2) rfl ⟨hd _, (de_div (de_var (i := 1) rfl (de_var (i := 2) rfl ⟨hd _, q⟩)))⟩)))))
def phDivN : Pm Q2 := fun as μ P => ∃ (a b : Rat) (A B : Nat), as = [sl (can a), sl (can b)] ∧ (b ≠ 0 ∧ Nm A (can a) ∧ Nm B (can b) ∧ A + B ≤ 8999) ∧ P (can (a / b)) μ
theorem num0 {b : Rat} (h : b ≠ 0) : (can b).1 ≠ 0 := fun z => h (by
  have := num_eq' b
  rw [z] at this
  have p := can_pos b
  have n := cast_ne p
  have e : b * (((can b).2 : Int) : Rat) = 0 := this.symm
  rcases Rat.mul_eq_zero.mp e with e | e
  · exact e
  · exact absurd e n)
theorem div_can {a b : Rat} (h : b ≠ 0) : (((can a).1 * (can b).2 : Int) : Rat) / (((can a).2 * (can b).1 : Int) : Rat) = a / b := by
  have ea := num_eq' a
  have eb := num_eq' b
  have na := cast_ne (can_pos a)
  have nb := cast_ne (can_pos b)
  rw [Rat.intCast_mul, Rat.intCast_mul, ea, eb]
  grind
theorem c_divN (D : Dfn K mg "div" s_div ["one", "two"]) (cr : Cal P w K mg base "ratio" 1 ["top", "bottom"] phRatioN) : Cal P w K mg base "div" 2 ["one", "two"] phDivN := by
  refine D.cal sc_div (fun as μ P h => ?_) fun f cdv A' outer s H E hr as μ Pd h => ?_
  · obtain ⟨_, _, _, _, rfl, _⟩ := h; rfl
  obtain ⟨a, b, A, B, rfl, ⟨hb, za, zb, hAB⟩, q⟩ := h
  rw [← div_can (a := a) hb] at q
  refine db_one (ds_ret (de_c1 cr hr (by decide) (da_cons (de_mul (de_ix0 (de_var (i := 0) rfl (de_ix1 (de_var (i := 1) rfl ⟨mulx_of za.t zb.b (by omega), (da_cons (de_mul (de_ix1 (de_var (i := 0) rfl (de_ix0 (de_var (i := 1) rfl ⟨mulx_of za.b zb.t (by omega), (da_nil ⟨[], _, parts_none, _, _, rfl, ⟨?_, ?_⟩, q⟩)⟩))))))⟩))))))))
  · exact Int.mul_ne_zero (by have := za.pos; omega) (num0 hb)
  · exact pow2_mono (natAbs_lt_mul za.b zb.t) (by omega)
theorem rat_mul_pow (x y : Rat) : ∀ n : Nat, (x * y) ^ n = x ^ n * y ^ n
  | 0 => by rw [Rat.pow_zero, Rat.pow_zero, Rat.pow_zero, Rat.mul_one]
  | n + 1 => by rw [Rat.pow_succ, Rat.pow_succ, Rat.pow_succ, rat_mul_pow x y n]; grind
theorem rat_pow_ne {x : Rat} (h : x ≠ 0) : ∀ n : Nat, x ^ n ≠ 0
  | 0 => by rw [Rat.pow_zero]; decide
  | n + 1 => by
    rw [Rat.pow_succ]
    intro z
    rcases Rat.mul_eq_zero.mp z with e | e
    · exact rat_pow_ne h n e
    · exact h e
theorem can_pow (a : Rat) (n : Nat) : can (a ^ n) = ((can a).1 ^ n, (can a).2 ^ n) := by
  have p := can_pos a
  have pn : 0 < (can a).2 ^ n := Int.pow_pos p
  have e : a ^ n = (((can a).1 ^ n : Int) : Rat) / (((can a).2 ^ n : Int) : Rat) := by
    rw [Rat.intCast_pow, Rat.intCast_pow]
    have ea := num_eq' a
    have na := cast_ne p
    rw [ea, rat_mul_pow]
    have := rat_pow_ne na n
    generalize ((((can a).2 : Int) : Rat)) ^ n = d at this ⊢
    generalize a ^ n = e
    grind
  rw [e, ← lo_can pn]
  refine lo_self (x := ((can a).1 ^ n, (can a).2 ^ n)) ?_
  show Nat.gcd ((can a).1 ^ n).natAbs ((can a).2 ^ n).natAbs = 1
  rw [Int.natAbs_pow, Int.natAbs_pow]
  exact Nat.Coprime.pow n n (can_cop a)
def phPower : Pm Q2 := fun as μ P => ∃ (a : Rat) (n Z : Nat), as = [sl (can a), sl (n : Int)] ∧ (Nm Z (can a) ∧ n * Z ≤ 9000 ∧ n ≤ 1000) ∧ P (can (a ^ n)) μ
theorem c_power (D : Dfn K mg "power" s_power ["one", "count"]) (hra : mg "range" = none) : Cal P w K mg base "power" 1 ["one", "count"] phPower := by
  refine D.cal sc_power (fun as μ P h => ?_) fun f cdv A outer s H E hr as μ Pd h => ?_
  · obtain ⟨_, _, _, rfl, _⟩ := h; rfl
  obtain ⟨a, n, Z, rfl, ⟨za, hnZ, hn⟩, q⟩ := h
  have pw : ∀ (x : Int) (k : Nat), x.natAbs < 2 ^ Z → k ≤ n → (x ^ k).natAbs < 2 ^ 9001 := fun x k hx hk => by
    rw [Int.natAbs_pow]
    have h1 : x.natAbs ^ k ≤ (2 ^ Z) ^ k := Nat.pow_le_pow_left (Nat.le_of_lt hx) k
    rw [← Nat.pow_mul] at h1
    have h2 : Z * k ≤ 9000 := Nat.le_trans (Nat.mul_le_mul_left Z hk) (by rw [Nat.mul_comm]; exact hnZ)
    exact Nat.lt_of_le_of_lt h1 (Nat.pow_lt_pow_right (by decide) (by omega))
  refine db_cons (ds_set2 (α := Int) (i := 2) (j := 3) sc_power.nd <| de_int ?_)
  refine db_cons (ds_range1 (i := 4) PassesOwn.never rfl sc_power.nd hra (de_var (i := 1) rfl ⟨by omega, by omega, fun k δ' μ' => ∃ s4, δ' = [sl (can a), sl (n : Int), sl ((can a).1 ^ k), sl ((can a).2 ^ k), s4] ∧ μ' = μ, ⟨.any, by rw [Int.pow_zero, Int.pow_zero]; rfl, rfl⟩, fun k δ' μ' hk hI => ?_, fun δ' μ' hI => ?_⟩))
  · obtain ⟨s4, rfl, rfl⟩ := hI
    have hk : k < n := by omega
    have zz : Z ≤ 9001 := by
      have : 1 * Z ≤ n * Z := Nat.mul_le_mul_right Z (by omega)
      omega
    refine db_cons (ds_set (i := 2) sc_power.nd <| de_mul <| de_var (i := 2) rfl <| de_ix0 (α := Int) (β := Int) <| de_var (i := 0) rfl ⟨mulx_of (pw _ k za.t (by omega)) za.t (by omega), ?_⟩)
    refine db_one (ds_set (i := 3) sc_power.nd <| de_mul <| de_var (i := 3) rfl <| de_ix1 (α := Int) (β := Int) <| de_var (i := 0) rfl ⟨mulx_of (pw _ k za.b (by omega)) za.b (by omega), ?_⟩)
    exact ⟨_, by rw [Int.pow_succ, Int.pow_succ]; rfl, rfl⟩
  · obtain ⟨s4, rfl, rfl⟩ := hI
    rw [Int.toNat_natCast]
    rw [can_pow] at q
    exact db_one (ds_ret <| de_tup2 <| de_var (i := 2) rfl <| de_var (i := 3) rfl q)
end
end K17
namespace K17
open PySem PySem.Spec PyProof.Rows L2 Dl
section
variable {P : Program} {w : World} {K : PySem.W.Frag} {mg : Str → Option Value} {base : Heap}
/-! ### stretches: the operations -/
abbrev RR := Rat × Rat
def canS (s : RR) : St2 := (can s.1, can s.2)
def NmS (A : Nat) (s : RR) : Prop := Nm A (can s.1) ∧ Nm A (can s.2)
def phS1 (f : RR → RR) : Pm St2 := fun as μ Q => ∃ (s : RR) (A : Nat), as = [sl (canS s)] ∧ (NmS A s ∧ A ≤ 8000) ∧ Q (canS (f s)) μ
def phS2 (f : RR → RR → RR) : Pm St2 := fun as μ Q => ∃ (s t : RR) (A B : Nat), as = [sl (canS s), sl (canS t)] ∧ (NmS A s ∧ NmS B t ∧ A + B ≤ 8000) ∧ Q (canS (f s t)) μ
theorem num_nneg {x : Rat} : 0 ≤ (can x).1 ↔ 0 ≤ x := by
  have := can_num_neg (q := x)
  constructor
  · intro h; exact Rat.not_lt.mp fun z => by have := this.mpr z; omega
  · intro h
    refine Int.not_lt.mp fun z => ?_
    exact absurd (this.mp z) (Rat.not_lt.mpr h)
theorem num_npos {x : Rat} : (can x).1 ≤ 0 ↔ x ≤ 0 := by
  have h := num_nneg (x := -x)
  rw [show can (-x) = (-(can x).1, (can x).2) from (can_neg x).symm] at h
  constructor
  · intro z
    have := h.mp (by show 0 ≤ -(can x).1; omega)
    grind
  · intro z
    have : 0 ≤ -(can x).1 := h.mpr (by grind)
    omega
def addS (s t : RR) : RR := (s.1 + t.1, s.2 + t.2)
def subS (s t : RR) : RR := (s.1 - t.2, s.2 - t.1)
def negS (s : RR) : RR := (-s.2, -s.1)
def maxS (s t : RR) : RR := (maxQ s.1 t.1, maxQ s.2 t.2)
def minS (s t : RR) : RR := (minQ s.1 t.1, minQ s.2 t.2)
def absS (s : RR) : RR := if 0 ≤ s.1 then s else if s.2 ≤ 0 then negS s else (0, maxQ (-s.1) s.2)
def mulS (s t : RR) : RR := if 0 ≤ s.1 ∧ 0 ≤ t.1 then (s.1 * t.1, s.2 * t.2) else
  (minQ (minQ (minQ (s.1 * t.1) (s.1 * t.2)) (s.2 * t.1)) (s.2 * t.2), maxQ (maxQ (maxQ (s.1 * t.1) (s.1 * t.2)) (s.2 * t.1)) (s.2 * t.2))
theorem c_add_stretches (D : Dfn K mg "add_stretches" s_add_stretches ["one", "two"]) (ca : cAdd P w K mg base) : Cal P w K mg base "add_stretches" 3 ["one", "two"] (phS2 addS) := by
  refine D.cal sc_add_stretches (fun as μ P h => ?_) fun f cdv A' outer s' H E hr as μ Pd h => ?_
  · obtain ⟨_, _, _, _, rfl, _⟩ := h; rfl
  obtain ⟨s, t, A, B, rfl, ⟨⟨a1, a2⟩, ⟨b1, b2⟩, k⟩, q⟩ := h
  exact db_one (ds_ret <| de_tup2 <| de_c1 ca hr (by decide) <| da_cons <| de_ix0 (α := Q2) (β := Q2) <| de_var (i := 0) rfl <| da_cons <| de_ix0 (α := Q2) (β := Q2) <| de_var (i := 1) rfl <| da_nil ⟨[], _, parts_none, _, _, _, _, rfl, qv_can _, qv_can _, ok2_of a1 b1 (by omega), de_c1 ca hr (by decide) <| da_cons <| de_ix1 (α := Q2) (β := Q2) <| de_var (i := 0) rfl <| da_cons <| de_ix1 (α := Q2) (β := Q2) <| de_var (i := 1) rfl <| da_nil ⟨[], _, parts_none, _, _, _, _, rfl, qv_can _, qv_can _, ok2_of a2 b2 (by omega), q⟩⟩)
theorem c_sub_stretches (D : Dfn K mg "sub_stretches" s_sub_stretches ["one", "two"]) (ca : cSub P w K mg base) : Cal P w K mg base "sub_stretches" 3 ["one", "two"] (phS2 subS) := by
  refine D.cal sc_sub_stretches (fun as μ P h => ?_) fun f cdv A' outer s' H E hr as μ Pd h => ?_
  · obtain ⟨_, _, _, _, rfl, _⟩ := h; rfl
  obtain ⟨s, t, A, B, rfl, ⟨⟨a1, a2⟩, ⟨b1, b2⟩, k⟩, q⟩ := h
  exact db_one (ds_ret <| de_tup2 <| de_c1 ca hr (by decide) <| da_cons <| de_ix0 (α := Q2) (β := Q2) <| de_var (i := 0) rfl <| da_cons <| de_ix1 (α := Q2) (β := Q2) <| de_var (i := 1) rfl <| da_nil ⟨[], _, parts_none, _, _, _, _, rfl, qv_can _, qv_can _, ok2_of a1 b2 (by omega), de_c1 ca hr (by decide) <| da_cons <| de_ix1 (α := Q2) (β := Q2) <| de_var (i := 0) rfl <| da_cons <| de_ix0 (α := Q2) (β := Q2) <| de_var (i := 1) rfl <| da_nil ⟨[], _, parts_none, _, _, _, _, rfl, qv_can _, qv_can _, ok2_of a2 b1 (by omega), q⟩⟩)
theorem c_negate_stretch (D : Dfn K mg "negate_stretch" s_negate_stretch ["one"]) (cn : cNegate P w K mg base) : Cal P w K mg base "negate_stretch" 2 ["one"] (phS1 negS) := by
  refine D.cal sc_negate_stretch (fun as μ P h => ?_) fun f cdv A' outer s' H E hr as μ Pd h => ?_
  · obtain ⟨_, _, rfl, _⟩ := h; rfl
  obtain ⟨s, A, rfl, ⟨⟨a1, a2⟩, k⟩, q⟩ := h
  exact db_one (ds_ret <| de_tup2 <| de_c1 cn hr (by decide) <| da_cons <| de_ix1 (α := Q2) (β := Q2) <| de_var (i := 0) rfl <| da_nil ⟨[], _, parts_none, _, rfl, trivial, de_c1 cn hr (by decide) <| da_cons <| de_ix0 (α := Q2) (β := Q2) <| de_var (i := 0) rfl <| da_nil ⟨[], _, parts_none, _, rfl, trivial, q⟩⟩)
theorem c_max_stretches (D : Dfn K mg "max_stretches" s_max_stretches ["one", "two"]) (cg : Cal P w K mg base "greater" 2 ["one", "two"] phMaxR) : Cal P w K mg base "max_stretches" 3 ["one", "two"] (phS2 maxS) := by
  refine D.cal sc_max_stretches (fun as μ P h => ?_) fun f cdv A' outer s' H E hr as μ Pd h => ?_
  · obtain ⟨_, _, _, _, rfl, _⟩ := h; rfl
  obtain ⟨s, t, A, B, rfl, ⟨⟨a1, a2⟩, ⟨b1, b2⟩, k⟩, q⟩ := h
  exact db_one (ds_ret <| de_tup2 <| de_c1 cg hr (by decide) <| da_cons <| de_ix0 (α := Q2) (β := Q2) <| de_var (i := 0) rfl <| da_cons <| de_ix0 (α := Q2) (β := Q2) <| de_var (i := 1) rfl <| da_nil ⟨[], _, parts_none, _, _, rfl, okC_b a1 b1 (by omega), de_c1 cg hr (by decide) <| da_cons <| de_ix1 (α := Q2) (β := Q2) <| de_var (i := 0) rfl <| da_cons <| de_ix1 (α := Q2) (β := Q2) <| de_var (i := 1) rfl <| da_nil ⟨[], _, parts_none, _, _, rfl, okC_b a2 b2 (by omega), q⟩⟩)
theorem c_min_stretches (D : Dfn K mg "min_stretches" s_min_stretches ["one", "two"]) (cg : Cal P w K mg base "lesser" 2 ["one", "two"] phMinR) : Cal P w K mg base "min_stretches" 3 ["one", "two"] (phS2 minS) := by
  refine D.cal sc_min_stretches (fun as μ P h => ?_) fun f cdv A' outer s' H E hr as μ Pd h => ?_
  · obtain ⟨_, _, _, _, rfl, _⟩ := h; rfl
  obtain ⟨s, t, A, B, rfl, ⟨⟨a1, a2⟩, ⟨b1, b2⟩, k⟩, q⟩ := h
  exact db_one (ds_ret <| de_tup2 <| de_c1 cg hr (by decide) <| da_cons <| de_ix0 (α := Q2) (β := Q2) <| de_var (i := 0) rfl <| da_cons <| de_ix0 (α := Q2) (β := Q2) <| de_var (i := 1) rfl <| da_nil ⟨[], _, parts_none, _, _, rfl, okC_b a1 b1 (by omega), de_c1 cg hr (by decide) <| da_cons <| de_ix1 (α := Q2) (β := Q2) <| de_var (i := 0) rfl <| da_cons <| de_ix1 (α := Q2) (β := Q2) <| de_var (i := 1) rfl <| da_nil ⟨[], _, parts_none, _, _, rfl, okC_b a2 b2 (by omega), q⟩⟩)
def phHasZ : Pm Bool := fun as μ Q => ∃ s : RR, as = [sl (canS s)] ∧ Q (decide (s.1 ≤ 0) && decide (0 ≤ s.2)) μ
theorem c_has_zero (D : Dfn K mg "has_zero" s_has_zero ["one"]) : Cal P w K mg base "has_zero" 1 ["one"] phHasZ := by
  refine D.cal sc_has_zero (fun as μ P h => ?_) fun f cdv A' outer s' H E hr as μ Pd h => ?_
  · obtain ⟨_, rfl, _⟩ := h; rfl
  obtain ⟨s, rfl, q⟩ := h
  rw [show decide (s.1 ≤ 0) = decide ((can s.1).1 ≤ 0) from decide_eq_decide.mpr num_npos.symm, show decide (0 ≤ s.2) = decide (0 ≤ (can s.2).1) from decide_eq_decide.mpr num_nneg.symm] at q
  refine db_one (ds_ret <| de_and <| de_le <| de_ix0 (α := Int) (β := Int) <| de_ix0 (α := Q2) (β := Q2) <| de_var (i := 0) rfl <| de_int ⟨fun h1 => de_one <| de_ge <| de_ix0 (α := Int) (β := Int) <| de_ix1 (α := Q2) (β := Q2) <| de_var (i := 0) rfl <| de_int ?_, fun h1 => ?_⟩)
  · rw [show decide ((can s.1).1 ≤ 0) = true from h1, Bool.true_and] at q; exact q
  · rw [show decide ((can s.1).1 ≤ 0) = false from h1, Bool.false_and] at q; exact q
theorem c_mul_stretches (D : Dfn K mg "mul_stretches" s_mul_stretches ["one", "two"]) (cm : cMul P w K mg base) (cl : Cal P w K mg base "lesser" 2 ["one", "two"] phMinR) (cg : Cal P w K mg base "greater" 2 ["one", "two"] phMaxR) : Cal P w K mg base "mul_stretches" 3 ["one", "two"] (phS2 mulS) := by
  refine D.cal sc_mul_stretches (fun as μ P h => ?_) fun f cdv A' outer s' H E hr as μ Pd h => ?_
  · obtain ⟨_, _, _, _, rfl, _⟩ := h; rfl
  obtain ⟨s, t, A, B, rfl, ⟨⟨a1, a2⟩, ⟨b1, b2⟩, k⟩, q⟩ := h
  have z1 := nm_mul a1 b1
  have z2 := nm_mul a1 b2
  have z3 := nm_mul a2 b1
  have z4 := nm_mul a2 b2
  have rest : ¬ (0 ≤ s.1 ∧ 0 ≤ t.1) → DB (ρ := St2) (cxD P w K mg base ["one", "two", "low", "high", "end"] "mul_stretches" s_mul_stretches f cdv A' outer s' H E) ((defBody s_mul_stretches).drop 1) [sl (canS s), sl (canS t), .any, .any, .any] μ
      (fun _ μ' => ∃ x : St2, (∀ K M H, Enc.R K M H .non x) ∧ Pd x μ') Pd (fun _ _ => False) (fun _ _ => False) := by
    intro hn
    unfold mulS at q
    rw [if_neg hn] at q
    refine db_cons (ds_set2 (α := Q2) (i := 2) (j := 3) sc_mul_stretches.nd <| de_c1 cm hr (by decide) <| da_cons <| de_ix0 (α := Q2) (β := Q2) <| de_var (i := 0) rfl <| da_cons <| de_ix0 (α := Q2) (β := Q2) <| de_var (i := 1) rfl <| da_nil ⟨[], _, parts_none, _, _, _, _, rfl, qv_can _, qv_can _, ok2_of a1 b1 (by omega), ?_⟩)
    let lo : Nat → Rat := fun k => if k = 0 then s.1 * t.1 else if k = 1 then minQ (s.1 * t.1) (s.1 * t.2) else if k = 2 then minQ (minQ (s.1 * t.1) (s.1 * t.2)) (s.2 * t.1) else minQ (minQ (minQ (s.1 * t.1) (s.1 * t.2)) (s.2 * t.1)) (s.2 * t.2)
    let hi : Nat → Rat := fun k => if k = 0 then s.1 * t.1 else if k = 1 then maxQ (s.1 * t.1) (s.1 * t.2) else if k = 2 then maxQ (maxQ (s.1 * t.1) (s.1 * t.2)) (s.2 * t.1) else maxQ (maxQ (maxQ (s.1 * t.1) (s.1 * t.2)) (s.2 * t.1)) (s.2 * t.2)
    refine db_cons (ds_forT (α := Q2) PassesOwn.never rfl (pg_name (i := 4) sc_mul_stretches.nd rfl (Or.inl rfl)) (fun (x : Q2) δ => δ.set 4 (sl x)) (fun x δ' => wg_name) (de_tupN (α := Q2) <| da_cons <| de_c1 cm hr (by decide) <| da_cons <| de_ix0 (α := Q2) (β := Q2) <| de_var (i := 0) rfl <| da_cons <| de_ix1 (α := Q2) (β := Q2) <| de_var (i := 1) rfl <| da_nil ⟨[], _, parts_none, _, _, _, _, rfl, qv_can _, qv_can _, ok2_of a1 b2 (by omega), ?_⟩))
    refine da_cons <| de_c1 cm hr (by decide) <| da_cons <| de_ix1 (α := Q2) (β := Q2) <| de_var (i := 0) rfl <| da_cons <| de_ix0 (α := Q2) (β := Q2) <| de_var (i := 1) rfl <| da_nil ⟨[], _, parts_none, _, _, _, _, rfl, qv_can _, qv_can _, ok2_of a2 b1 (by omega), ?_⟩
    refine da_cons <| de_c1 cm hr (by decide) <| da_cons <| de_ix1 (α := Q2) (β := Q2) <| de_var (i := 0) rfl <| da_cons <| de_ix1 (α := Q2) (β := Q2) <| de_var (i := 1) rfl <| da_nil ⟨[], _, parts_none, _, _, _, _, rfl, qv_can _, qv_can _, ok2_of a2 b2 (by omega), ?_⟩
    refine da_nil ⟨[can (s.1 * t.2), can (s.2 * t.1), can (s.2 * t.2)], rfl, (by show 3 ≤ 1000; decide), fun k δ' μ' => ∃ s4, δ' = [sl (canS s), sl (canS t), sl (can (lo k)), sl (can (hi k)), s4] ∧ μ' = μ, ⟨_, rfl, rfl⟩, fun k x δ' μ' hx hI => ?_, fun δ' μ' hI => ?_⟩
    · obtain ⟨s4, rfl, rfl⟩ := hI
      match k, hx with
      | 0, hx =>
        have hx : can (s.1 * t.2) = x := by simpa using hx
        subst hx
        refine db_cons (ds_set (i := 2) sc_mul_stretches.nd <| de_c1 cl hr (by decide) <| da_cons <| de_var (i := 2) rfl <| da_cons <| de_var (i := 4) rfl <| da_nil ⟨[], _, parts_none, s.1 * t.1, s.1 * t.2, rfl, okC_b z1 z2 (by omega), ?_⟩)
        exact db_one (ds_set (i := 3) sc_mul_stretches.nd <| de_c1 cg hr (by decide) <| da_cons <| de_var (i := 3) rfl <| da_cons <| de_var (i := 4) rfl <| da_nil ⟨[], _, parts_none, s.1 * t.1, s.1 * t.2, rfl, okC_b z1 z2 (by omega), ⟨_, rfl, rfl⟩⟩)
      | 1, hx =>
        have hx : can (s.2 * t.1) = x := by simpa using hx
        subst hx
        refine db_cons (ds_set (i := 2) sc_mul_stretches.nd <| de_c1 cl hr (by decide) <| da_cons <| de_var (i := 2) rfl <| da_cons <| de_var (i := 4) rfl <| da_nil ⟨[], _, parts_none, minQ (s.1 * t.1) (s.1 * t.2), s.2 * t.1, rfl, okC_b (nm_minQ z1 z2) z3 (by omega), ?_⟩)
        exact db_one (ds_set (i := 3) sc_mul_stretches.nd <| de_c1 cg hr (by decide) <| da_cons <| de_var (i := 3) rfl <| da_cons <| de_var (i := 4) rfl <| da_nil ⟨[], _, parts_none, maxQ (s.1 * t.1) (s.1 * t.2), s.2 * t.1, rfl, okC_b (nm_maxQ z1 z2) z3 (by omega), ⟨_, rfl, rfl⟩⟩)
      | 2, hx =>
        have hx : can (s.2 * t.2) = x := by simpa using hx
        subst hx
        refine db_cons (ds_set (i := 2) sc_mul_stretches.nd <| de_c1 cl hr (by decide) <| da_cons <| de_var (i := 2) rfl <| da_cons <| de_var (i := 4) rfl <| da_nil ⟨[], _, parts_none, minQ (minQ (s.1 * t.1) (s.1 * t.2)) (s.2 * t.1), s.2 * t.2, rfl, okC_b (nm_minQ (nm_minQ z1 z2) z3) z4 (by omega), ?_⟩)
        exact db_one (ds_set (i := 3) sc_mul_stretches.nd <| de_c1 cg hr (by decide) <| da_cons <| de_var (i := 3) rfl <| da_cons <| de_var (i := 4) rfl <| da_nil ⟨[], _, parts_none, maxQ (maxQ (s.1 * t.1) (s.1 * t.2)) (s.2 * t.1), s.2 * t.2, rfl, okC_b (nm_maxQ (nm_maxQ z1 z2) z3) z4 (by omega), ⟨_, rfl, rfl⟩⟩)
      | k + 3, hx => simp at hx
    · obtain ⟨s4, rfl, rfl⟩ := hI
      exact db_one (ds_ret <| de_tup2 <| de_var (i := 2) rfl <| de_var (i := 3) rfl q)
  refine db_cons (ds_if (dw_and <| dt_ge <| de_ix0 (α := Int) (β := Int) <| de_ix0 (α := Q2) (β := Q2) <| de_var (i := 0) rfl <| de_int ⟨fun h1 => dw_and1 <| dt_ge <| de_ix0 (α := Int) (β := Int) <| de_ix0 (α := Q2) (β := Q2) <| de_var (i := 1) rfl <| de_int ⟨fun h2 => ?_, fun h2 => db_nil (rest fun z => ?_)⟩, fun h1 => ⟨fun h => (nomatch h), fun _ => db_nil (rest fun z => ?_)⟩⟩).dt)
  · have h1 : 0 ≤ (can s.1).1 := of_decide_eq_true h1
    have h2 : 0 ≤ (can t.1).1 := of_decide_eq_true h2
    unfold mulS at q
    rw [if_pos ⟨num_nneg.mp h1, num_nneg.mp h2⟩] at q
    exact db_one (ds_ret <| de_tup2 <| de_c1 cm hr (by decide) <| da_cons <| de_ix0 (α := Q2) (β := Q2) <| de_var (i := 0) rfl <| da_cons <| de_ix0 (α := Q2) (β := Q2) <| de_var (i := 1) rfl <| da_nil ⟨[], _, parts_none, _, _, _, _, rfl, qv_can _, qv_can _, ok2_of a1 b1 (by omega), de_c1 cm hr (by decide) <| da_cons <| de_ix1 (α := Q2) (β := Q2) <| de_var (i := 0) rfl <| da_cons <| de_ix1 (α := Q2) (β := Q2) <| de_var (i := 1) rfl <| da_nil ⟨[], _, parts_none, _, _, _, _, rfl, qv_can _, qv_can _, ok2_of a2 b2 (by omega), q⟩⟩)
  · exact absurd (num_nneg.mpr z.2) (of_decide_eq_false h2)
  · exact absurd (num_nneg.mpr z.1) (of_decide_eq_false h1)
/-- the module's ZERO and ONE -/
structure ZO (K : PySem.W.Frag) (mg : Str → Option Value) : Prop where
  zero : ∃ a : Addr, mg "ZERO" = some (.ref a) ∧ ∀ H, SqT K H a [.int 0, .int 1]
  one : ∃ a : Addr, mg "ONE" = some (.ref a) ∧ ∀ H, SqT K H a [.int 1, .int 1]
def divS (s t : RR) : RR := mulS s (1 / t.2, 1 / t.1)
theorem one_can : (((1 : Int), (1 : Int)) : Q2) = can (1 : Rat) := rfl
theorem zero_can : (((0 : Int), (1 : Int)) : Q2) = can (0 : Rat) := rfl
theorem nm_inv {b : Rat} {B : Nat} (hb : b ≠ 0) (h : Nm B (can b)) : Nm B (can (1 / b)) := by
  have e := div_can (a := 1) hb
  rw [show (can (1 : Rat)) = ((1 : Int), (1 : Int)) from rfl, Int.one_mul, Int.one_mul] at e
  rw [← e]
  have h0 := num0 hb
  rcases Int.lt_or_gt_of_ne h0 with hn | hp
  · rw [lo_neg hn]
    have g0 : 0 < Nat.gcd (can b).2.natAbs (can b).1.natAbs := Nat.gcd_pos_of_pos_right _ (by omega)
    have d1 : ((Nat.gcd (can b).2.natAbs (can b).1.natAbs : Nat) : Int) ∣ -(can b).1 := Int.dvd_neg.mpr (gcd_dr _ _)
    refine ⟨?_, ?_, ?_⟩
    · exact Int.ediv_pos_of_pos_of_dvd (by omega) (by omega) d1
    · refine Nat.lt_of_le_of_lt (Int.natAbs_ediv_le_natAbs _ _) ?_
      rw [Int.natAbs_neg]; exact h.b
    · refine Nat.lt_of_le_of_lt (Int.natAbs_ediv_le_natAbs _ _) ?_
      rw [Int.natAbs_neg]; exact h.t
  · exact nm_frac hp h.b h.t
theorem c_div_stretches (D : Dfn K mg "div_stretches" s_div_stretches ["one", "two"]) (zo : ZO K mg) (cd : Cal P w K mg base "div" 2 ["one", "two"] phDivN) (cm : Cal P w K mg base "mul_stretches" 3 ["one", "two"] (phS2 mulS)) :
    Cal P w K mg base "div_stretches" 4 ["one", "two"] (fun as μ Q => ∃ (s t : RR) (A B : Nat), as = [sl (canS s), sl (canS t)] ∧ (NmS A s ∧ NmS B t ∧ A + B ≤ 8000 ∧ t.1 ≠ 0 ∧ t.2 ≠ 0) ∧ Q (canS (divS s t)) μ) := by
  refine D.cal sc_div_stretches (fun as μ P h => ?_) fun f cdv A' outer s' H E hr as μ Pd h => ?_
  · obtain ⟨_, _, _, _, rfl, _⟩ := h; rfl
  obtain ⟨s, t, A, B, rfl, ⟨a, ⟨b1, b2⟩, k, h1, h2⟩, q⟩ := h
  obtain ⟨oa, ho1, ho2⟩ := zo.one
  have n1 : Nm 1 (can (1 : Rat)) := ⟨by decide, by decide, by decide⟩
  exact db_one (ds_ret <| de_c1 cm hr (by decide) <| da_cons <| de_var (i := 0) rfl <| da_cons <| de_tup2 <| de_c1 cd hr (by decide) <| da_cons <| de_globT ho1 ho2 <| da_cons <| de_ix1 (α := Q2) (β := Q2) <| de_var (i := 1) rfl <| da_nil ⟨[], _, parts_none, (1 : Rat), t.2, 1, B, rfl, ⟨h2, n1, b2, by omega⟩, de_c1 cd hr (by decide) <| da_cons <| de_globT ho1 ho2 <| da_cons <| de_ix0 (α := Q2) (β := Q2) <| de_var (i := 1) rfl <| da_nil ⟨[], _, parts_none, (1 : Rat), t.1, 1, B, rfl, ⟨h1, n1, b1, by omega⟩, da_nil ⟨[], _, parts_none, s, (1 / t.2, 1 / t.1), A, B, rfl, ⟨a, ⟨nm_inv h2 b2, nm_inv h1 b1⟩, k⟩, q⟩⟩⟩)
def powS (s : RR) (n : Nat) : RR := if n % 2 = 1 ∨ 0 ≤ s.1 then (s.1 ^ n, s.2 ^ n) else if s.2 ≤ 0 then (s.2 ^ n, s.1 ^ n) else if n = 0 then (1, 1) else (0, maxQ (s.1 ^ n) (s.2 ^ n))
theorem nm_pow {a : Rat} {Z : Nat} (h : Nm Z (can a)) (n : Nat) (hn : 1 ≤ n * Z) : Nm (n * Z) (can (a ^ n)) := by
  rw [can_pow]
  have pw : ∀ x : Int, x.natAbs < 2 ^ Z → 1 ≤ n → (x ^ n).natAbs < 2 ^ (n * Z) := fun x hx hn => by
    rw [Int.natAbs_pow, Nat.mul_comm, Nat.pow_mul]
    exact Nat.pow_lt_pow_left hx (by omega)
  have hn1 : 1 ≤ n := by
    rcases Nat.eq_zero_or_pos n with e | e
    · rw [e, Nat.zero_mul] at hn; omega
    · exact e
  exact ⟨Int.pow_pos h.pos, pw _ h.t hn1, pw _ h.b hn1⟩
theorem c_power_stretch (D : Dfn K mg "power_stretch" s_power_stretch ["one", "count"]) (zo : ZO K mg) (cp : Cal P w K mg base "power" 1 ["one", "count"] phPower) (cg : Cal P w K mg base "greater" 2 ["one", "two"] phMaxR) :
    Cal P w K mg base "power_stretch" 3 ["one", "count"] (fun as μ Q => ∃ (s : RR) (n A : Nat), as = [sl (canS s), sl (n : Int)] ∧ (NmS A s ∧ 1 ≤ n * A ∧ n * A ≤ 9000 ∧ n ≤ 1000) ∧ Q (canS (powS s n)) μ) := by
  refine D.cal sc_power_stretch (fun as μ P h => ?_) fun f cdv A' outer s' H E hr as μ Pd h => ?_
  · obtain ⟨_, _, _, rfl, _⟩ := h; rfl
  obtain ⟨s, n, A, rfl, ⟨⟨a1, a2⟩, k1, k, hn⟩, q⟩ := h
  obtain ⟨oa, ho1, ho2⟩ := zo.one
  obtain ⟨za, hz1, hz2⟩ := zo.zero
  have p1 := nm_pow a1 n k1
  have p2 := nm_pow a2 n k1
  unfold powS at q
  refine db_cons (ds_set (i := 2) sc_power_stretch.nd <| de_c1 cp hr (by decide) <| da_cons <| de_ix0 (α := Q2) (β := Q2) <| de_var (i := 0) rfl <| da_cons <| de_var (i := 1) rfl <| da_nil ⟨[], _, parts_none, _, n, A, rfl, ⟨a1, k, hn⟩, ?_⟩)
  refine db_cons (ds_set (i := 3) sc_power_stretch.nd <| de_c1 cp hr (by decide) <| da_cons <| de_ix1 (α := Q2) (β := Q2) <| de_var (i := 0) rfl <| da_cons <| de_var (i := 1) rfl <| da_nil ⟨[], _, parts_none, _, n, A, rfl, ⟨a2, k, hn⟩, ?_⟩)
  refine db_cons (ds_if (dw_or <| dt_eqI <| de_mod <| de_var (i := 1) rfl <| de_int ⟨by decide, de_int ⟨fun h1 => ⟨fun _ => ?_, fun z => (nomatch z)⟩, fun h1 => dw_or1 <| dt_ge <| de_ix0 (α := Int) (β := Int) <| de_ix0 (α := Q2) (β := Q2) <| de_var (i := 0) rfl <| de_int ⟨fun h2 => ?_, fun h2 => db_nil ?_⟩⟩⟩).dt)
  · have h1 := of_decide_eq_true h1
    rw [if_pos (.inl (by omega))] at q
    exact db_one (ds_ret <| de_tup2 <| de_var (i := 2) rfl <| de_var (i := 3) rfl q)
  · rw [if_pos (.inr (num_nneg.mp (of_decide_eq_true h2)))] at q
    exact db_one (ds_ret <| de_tup2 <| de_var (i := 2) rfl <| de_var (i := 3) rfl q)
  have h1 := of_decide_eq_false h1
  have h2 := of_decide_eq_false h2
  rw [if_neg (fun z => z.elim (fun z => h1 (by omega)) fun z => h2 (num_nneg.mpr z))] at q
  refine db_cons (ds_if <| dt_le <| de_ix0 (α := Int) (β := Int) <| de_ix1 (α := Q2) (β := Q2) <| de_var (i := 0) rfl <| de_int ⟨fun h3 => ?_, fun h3 => db_nil ?_⟩)
  · rw [if_pos (num_npos.mp (of_decide_eq_true h3))] at q
    exact db_one (ds_ret <| de_tup2 <| de_var (i := 3) rfl <| de_var (i := 2) rfl q)
  rw [if_neg (fun z => of_decide_eq_false h3 (num_npos.mpr z))] at q
  refine db_cons (ds_if <| dt_eqI <| de_var (i := 1) rfl <| de_int ⟨fun h4 => ?_, fun h4 => db_nil ?_⟩)
  · have h4 := of_decide_eq_true h4
    rw [if_pos (by omega)] at q
    exact db_one (ds_ret <| de_tup2 <| de_globT ho1 ho2 <| de_globT ho1 ho2 q)
  have h4 := of_decide_eq_false h4
  rw [if_neg (by omega)] at q
  exact db_one (ds_ret <| de_tup2 <| de_globT hz1 hz2 <| de_c1 cg hr (by decide) <| da_cons <| de_var (i := 2) rfl <| da_cons <| de_var (i := 3) rfl <| da_nil ⟨[], _, parts_none, _, _, rfl, okC_b p1 p2 (by omega), q⟩)
theorem nm_neg {a : Rat} {A : Nat} (h : Nm A (can a)) : Nm A (can (-a)) := by
  rw [show can (-a) = (-(can a).1, (can a).2) from (can_neg a).symm]
  exact ⟨h.pos, by show (-(can a).1).natAbs < _; rw [Int.natAbs_neg]; exact h.t, h.b⟩
theorem c_abs_stretch (D : Dfn K mg "abs_stretch" s_abs_stretch ["one"]) (zo : ZO K mg) (cn : cNegate P w K mg base) (cns : Cal P w K mg base "negate_stretch" 2 ["one"] (phS1 negS)) (cg : Cal P w K mg base "greater" 2 ["one", "two"] phMaxR) : Cal P w K mg base "abs_stretch" 3 ["one"] (phS1 absS) := by
  refine D.cal sc_abs_stretch (fun as μ P h => ?_) fun f cdv A' outer s' H E hr as μ Pd h => ?_
  · obtain ⟨_, _, rfl, _⟩ := h; rfl
  obtain ⟨s, A, rfl, ⟨⟨a1, a2⟩, k⟩, q⟩ := h
  obtain ⟨za, hz1, hz2⟩ := zo.zero
  unfold absS at q
  refine db_cons (ds_if <| dt_ge <| de_ix0 (α := Int) (β := Int) <| de_ix0 (α := Q2) (β := Q2) <| de_var (i := 0) rfl <| de_int ⟨fun h1 => ?_, fun h1 => db_nil ?_⟩)
  · rw [if_pos (num_nneg.mp (of_decide_eq_true h1))] at q
    exact db_one (ds_ret <| de_var (i := 0) rfl q)
  rw [if_neg (fun z => of_decide_eq_false h1 (num_nneg.mpr z))] at q
  refine db_cons (ds_if <| dt_le <| de_ix0 (α := Int) (β := Int) <| de_ix1 (α := Q2) (β := Q2) <| de_var (i := 0) rfl <| de_int ⟨fun h3 => ?_, fun h3 => db_nil ?_⟩)
  · rw [if_pos (num_npos.mp (of_decide_eq_true h3))] at q
    exact db_one (ds_ret <| de_c1 cns hr (by decide) <| da_cons <| de_var (i := 0) rfl <| da_nil ⟨[], _, parts_none, s, A, rfl, ⟨⟨a1, a2⟩, k⟩, q⟩)
  rw [if_neg (fun z => of_decide_eq_false h3 (num_npos.mpr z))] at q
  exact db_one (ds_ret <| de_tup2 <| de_globT hz1 hz2 <| de_c1 cg hr (by decide) <| da_cons <| de_c1 cn hr (by decide) <| da_cons <| de_ix0 (α := Q2) (β := Q2) <| de_var (i := 0) rfl <| da_nil ⟨[], _, parts_none, _, rfl, trivial, da_cons <| de_ix1 (α := Q2) (β := Q2) <| de_var (i := 0) rfl <| da_nil ⟨[], _, parts_none, _, _, rfl, okC_b (nm_neg a1) a2 (by omega), q⟩⟩)
theorem ok_add : PyData.strOk ("add" : Str) = true := by decide +kernel
theorem ok_sub : PyData.strOk ("sub" : Str) = true := by decide +kernel
theorem ok_mul : PyData.strOk ("mul" : Str) = true := by decide +kernel
theorem ok_div : PyData.strOk ("div" : Str) = true := by decide +kernel
theorem ok_max : PyData.strOk ("max" : Str) = true := by decide +kernel
theorem op_add_eq (o : Op2) : decide (o.s = ("add" : Str)) = decide (o = .add) := by cases o <;> decide +kernel
theorem op_sub_eq (o : Op2) : decide (o.s = ("sub" : Str)) = decide (o = .sub) := by cases o <;> decide +kernel
theorem op_mul_eq (o : Op2) : decide (o.s = ("mul" : Str)) = decide (o = .mul) := by cases o <;> decide +kernel
theorem op_div_eq (o : Op2) : decide (o.s = ("div" : Str)) = decide (o = .div) := by cases o <;> decide +kernel
theorem op_max_eq (o : Op2) : decide (o.s = ("max" : Str)) = decide (o = .max) := by cases o <;> decide +kernel
def stOp : Op2 → RR → RR → RR
  | .add => addS
  | .sub => subS
  | .mul => mulS
  | .div => divS
  | .max => maxS
  | .min => minS
def phComb : Pm St2 := fun as μ Q => ∃ (o : Op2) (s t : RR) (A B : Nat), as = [sl o.s, sl (canS s), sl (canS t)] ∧ (NmS A s ∧ NmS B t ∧ A + B ≤ 8000 ∧ (o = .div → t.1 ≠ 0 ∧ t.2 ≠ 0)) ∧ Q (canS (stOp o s t)) μ
theorem c_combine_stretches (D : Dfn K mg "combine_stretches" s_combine_stretches ["kind", "one", "two"]) (ca : Cal P w K mg base "add_stretches" 3 ["one", "two"] (phS2 addS)) (cs : Cal P w K mg base "sub_stretches" 3 ["one", "two"] (phS2 subS)) (cm : Cal P w K mg base "mul_stretches" 3 ["one", "two"] (phS2 mulS))
    (cd : Cal P w K mg base "div_stretches" 4 ["one", "two"] (fun as μ Q => ∃ (s t : RR) (A B : Nat), as = [sl (canS s), sl (canS t)] ∧ (NmS A s ∧ NmS B t ∧ A + B ≤ 8000 ∧ t.1 ≠ 0 ∧ t.2 ≠ 0) ∧ Q (canS (divS s t)) μ))
    (cx : Cal P w K mg base "max_stretches" 3 ["one", "two"] (phS2 maxS)) (cn : Cal P w K mg base "min_stretches" 3 ["one", "two"] (phS2 minS)) : Cal P w K mg base "combine_stretches" 5 ["kind", "one", "two"] phComb := by
  refine D.cal sc_combine_stretches (fun as μ P h => ?_) fun f cdv A' outer s' H E hr as μ Pd h => ?_
  · obtain ⟨_, _, _, _, _, rfl, _⟩ := h; rfl
  obtain ⟨o, s, t, A, B, rfl, ⟨a, b, k, hd⟩, q⟩ := h
  refine db_cons (ds_if <| dt_eqS (un_of hr) <| de_var (i := 0) rfl <| de_str ⟨⟨o.ok, ok_add⟩, ?_⟩)
  rw [op_add_eq]
  refine ⟨fun h1 => ?_, fun h1 => db_nil ?_⟩
  · cases of_decide_eq_true h1
    exact db_one (ds_ret <| de_c1 ca hr (by decide) <| da_cons <| de_var (i := 1) rfl <| da_cons <| de_var (i := 2) rfl <| da_nil ⟨[], _, parts_none, s, t, A, B, rfl, ⟨a, b, k⟩, q⟩)
  refine db_cons (ds_if <| dt_eqS (un_of hr) <| de_var (i := 0) rfl <| de_str ⟨⟨o.ok, ok_sub⟩, ?_⟩)
  rw [op_sub_eq]
  refine ⟨fun h2 => ?_, fun h2 => db_nil ?_⟩
  · cases of_decide_eq_true h2
    exact db_one (ds_ret <| de_c1 cs hr (by decide) <| da_cons <| de_var (i := 1) rfl <| da_cons <| de_var (i := 2) rfl <| da_nil ⟨[], _, parts_none, s, t, A, B, rfl, ⟨a, b, k⟩, q⟩)
  refine db_cons (ds_if <| dt_eqS (un_of hr) <| de_var (i := 0) rfl <| de_str ⟨⟨o.ok, ok_mul⟩, ?_⟩)
  rw [op_mul_eq]
  refine ⟨fun h3 => ?_, fun h3 => db_nil ?_⟩
  · cases of_decide_eq_true h3
    exact db_one (ds_ret <| de_c1 cm hr (by decide) <| da_cons <| de_var (i := 1) rfl <| da_cons <| de_var (i := 2) rfl <| da_nil ⟨[], _, parts_none, s, t, A, B, rfl, ⟨a, b, k⟩, q⟩)
  refine db_cons (ds_if <| dt_eqS (un_of hr) <| de_var (i := 0) rfl <| de_str ⟨⟨o.ok, ok_div⟩, ?_⟩)
  rw [op_div_eq]
  refine ⟨fun h4 => ?_, fun h4 => db_nil ?_⟩
  · cases of_decide_eq_true h4
    exact db_one (ds_ret <| de_c1 cd hr (by decide) <| da_cons <| de_var (i := 1) rfl <| da_cons <| de_var (i := 2) rfl <| da_nil ⟨[], _, parts_none, s, t, A, B, rfl, ⟨a, b, k, (hd rfl).1, (hd rfl).2⟩, q⟩)
  refine db_cons (ds_if <| dt_eqS (un_of hr) <| de_var (i := 0) rfl <| de_str ⟨⟨o.ok, ok_max⟩, ?_⟩)
  rw [op_max_eq]
  refine ⟨fun h5 => ?_, fun h5 => db_nil ?_⟩
  · cases of_decide_eq_true h5
    exact db_one (ds_ret <| de_c1 cx hr (by decide) <| da_cons <| de_var (i := 1) rfl <| da_cons <| de_var (i := 2) rfl <| da_nil ⟨[], _, parts_none, s, t, A, B, rfl, ⟨a, b, k⟩, q⟩)
  have e : o = .min := by
    cases o with
    | add => exact absurd h1 (by decide)
    | sub => exact absurd h2 (by decide)
    | mul => exact absurd h3 (by decide)
    | div => exact absurd h4 (by decide)
    | max => exact absurd h5 (by decide)
    | min => rfl
  subst e
  exact db_one (ds_ret <| de_c1 cn hr (by decide) <| da_cons <| de_var (i := 1) rfl <| da_cons <| de_var (i := 2) rfl <| da_nil ⟨[], _, parts_none, s, t, A, B, rfl, ⟨a, b, k⟩, q⟩)
end
end K17
namespace K17
open PySem PySem.Spec PyProof.Rows L2 Dl
section
variable {P : Program} {w : World} {K : PySem.W.Frag} {mg : Str → Option Value} {base : Heap}
/-! ### nodes, names -/
def argsN : Nd → List Int
  | .abs i => [(i : Int)]
  | .pow i _ => [(i : Int)]
  | .op _ i j => [(i : Int), (j : Int)]
  | _ => []
def isLet : Nd → Bool
  | .letter _ => true
  | _ => false
def isAbs : Nd → Bool
  | .abs _ => true
  | _ => false
def isPow : Nd → Bool
  | .pow _ _ => true
  | _ => false
theorem ok_num : PyData.strOk ("num" : Str) = true := by decide +kernel
theorem ok_letter : PyData.strOk ("letter" : Str) = true := by decide +kernel
theorem ok_abs : PyData.strOk ("abs" : Str) = true := by decide +kernel
theorem ok_pow : PyData.strOk ("pow" : Str) = true := by decide +kernel
theorem kind_num (n : Nd) : decide (n.kind = ("num" : Str)) = n.isNum := by
  cases n with
  | letter k => exact (by decide +kernel : decide (("letter" : Str) = "num") = false)
  | num v => exact (by decide +kernel : decide (("num" : Str) = "num") = true)
  | abs i => exact (by decide +kernel : decide (("abs" : Str) = "num") = false)
  | pow i n => exact (by decide +kernel : decide (("pow" : Str) = "num") = false)
  | op o i j => exact (by cases o <;> decide +kernel : decide (o.s = ("num" : Str)) = false)
theorem kind_letter (n : Nd) : decide (n.kind = ("letter" : Str)) = isLet n := by
  cases n with
  | letter k => exact (by decide +kernel : decide (("letter" : Str) = "letter") = true)
  | num v => exact (by decide +kernel : decide (("num" : Str) = "letter") = false)
  | abs i => exact (by decide +kernel : decide (("abs" : Str) = "letter") = false)
  | pow i n => exact (by decide +kernel : decide (("pow" : Str) = "letter") = false)
  | op o i j => exact (by cases o <;> decide +kernel : decide (o.s = ("letter" : Str)) = false)
theorem kind_abs (n : Nd) : decide (n.kind = ("abs" : Str)) = isAbs n := by
  cases n with
  | letter k => exact (by decide +kernel : decide (("letter" : Str) = "abs") = false)
  | num v => exact (by decide +kernel : decide (("num" : Str) = "abs") = false)
  | abs i => exact (by decide +kernel : decide (("abs" : Str) = "abs") = true)
  | pow i n => exact (by decide +kernel : decide (("pow" : Str) = "abs") = false)
  | op o i j => exact (by cases o <;> decide +kernel : decide (o.s = ("abs" : Str)) = false)
theorem kind_pow (n : Nd) : decide (n.kind = ("pow" : Str)) = isPow n := by
  cases n with
  | letter k => exact (by decide +kernel : decide (("letter" : Str) = "pow") = false)
  | num v => exact (by decide +kernel : decide (("num" : Str) = "pow") = false)
  | abs i => exact (by decide +kernel : decide (("abs" : Str) = "pow") = false)
  | pow i n => exact (by decide +kernel : decide (("pow" : Str) = "pow") = true)
  | op o i j => exact (by cases o <;> decide +kernel : decide (o.s = ("pow" : Str)) = false)
def phArgs : Pm (Tup Int) := fun as μ P => ∃ n : Nd, as = [sl n] ∧ P ⟨argsN n⟩ μ
theorem c_arguments (D : Dfn K mg "arguments" s_arguments ["node"]) : Cal P w K mg base "arguments" 1 ["node"] phArgs := by
  refine D.cal sc_arguments (fun as μ P h => ?_) fun f cdv A outer s H E hr as μ Pd h => ?_
  · obtain ⟨_, rfl, _⟩ := h; rfl
  obtain ⟨n, rfl, q⟩ := h
  refine db_cons (ds_if (dw_or <| dt_eqS (un_of hr) <| de_nd0 <| de_var (i := 0) rfl <| de_str ⟨⟨n.kind_ok, ok_num⟩, ?_⟩).dt)
  rw [kind_num]
  refine ⟨fun h1 => ⟨fun _ => ?_, fun z => (nomatch z)⟩, fun h1 => dw_or1 <| dt_eqS (un_of hr) <| de_nd0 <| de_var (i := 0) rfl <| de_str ⟨⟨n.kind_ok, ok_letter⟩, ?_⟩⟩
  · cases n with
    | num v => exact db_one (ds_ret <| de_tupN <| da_nil ⟨[], rfl, by decide, q⟩)
    | _ => cases h1
  rw [kind_letter]
  refine ⟨fun h2 => ?_, fun h2 => db_nil ?_⟩
  · cases n with
    | letter v => exact db_one (ds_ret <| de_tupN <| da_nil ⟨[], rfl, by decide, q⟩)
    | _ => cases h2
  refine db_cons (ds_if (dw_or <| dt_eqS (un_of hr) <| de_nd0 <| de_var (i := 0) rfl <| de_str ⟨⟨n.kind_ok, ok_abs⟩, ?_⟩).dt)
  rw [kind_abs]
  refine ⟨fun h3 => ⟨fun _ => ?_, fun z => (nomatch z)⟩, fun h3 => dw_or1 <| dt_eqS (un_of hr) <| de_nd0 <| de_var (i := 0) rfl <| de_str ⟨⟨n.kind_ok, ok_pow⟩, ?_⟩⟩
  · cases n with
    | abs v => exact db_one (ds_ret <| de_tup1 <| de_nd1 <| de_var (i := 0) rfl ⟨rfl, q⟩)
    | _ => cases h3
  rw [kind_pow]
  refine ⟨fun h4 => ?_, fun h4 => db_nil ?_⟩
  · cases n with
    | pow v n => exact db_one (ds_ret <| de_tup1 <| de_nd1 <| de_var (i := 0) rfl ⟨rfl, q⟩)
    | _ => cases h4
  cases n with
  | op o i j => exact db_one (ds_ret <| de_tupOf2 <| de_tup2 <| de_nd1 <| de_var (i := 0) rfl ⟨rfl, de_nd2 <| de_var (i := 0) rfl ⟨rfl, q⟩⟩)
  | letter k => cases h2
  | num v => cases h1
  | abs i => cases h3
  | pow i k => cases h4
/-- the node over the new places -/
def MvN (kvs : IKv Int) : Nd → Nd → Prop
  | .abs i, y => ∃ a : Nat, valI kvs i = some (a : Int) ∧ y = .abs a
  | .pow i n, y => ∃ a : Nat, valI kvs i = some (a : Int) ∧ y = .pow a n
  | .op o i j, y => ∃ a b : Nat, valI kvs i = some (a : Int) ∧ valI kvs j = some (b : Int) ∧ y = .op o a b
  | x, y => y = x
def phMoved : Pm Nd := fun as μ P => ∃ (n y : Nd) (d : Addr) (kvs : IKv Int), as = [sl n, sl (Ref.mk d)] ∧ μ = [DkC d (inferInstance : Enc Int) kvs] ∧ MvN kvs n y ∧ P y μ
theorem c_moved_node (D : Dfn K mg "moved_node" s_moved_node ["node", "places"]) : Cal P w K mg base "moved_node" 1 ["node", "places"] phMoved := by
  refine D.cal sc_moved_node (fun as μ P h => ?_) fun f cdv A outer s H E hr as μ Pd h => ?_
  · obtain ⟨_, _, _, _, rfl, _⟩ := h; rfl
  obtain ⟨n, y, d, kvs, rfl, rfl, m, q⟩ := h
  refine db_cons (ds_if (dw_or <| dt_eqS (un_of hr) <| de_nd0 <| de_var (i := 0) rfl <| de_str ⟨⟨n.kind_ok, ok_num⟩, ?_⟩).dt)
  rw [kind_num]
  refine ⟨fun h1 => ⟨fun _ => ?_, fun z => (nomatch z)⟩, fun h1 => dw_or1 <| dt_eqS (un_of hr) <| de_nd0 <| de_var (i := 0) rfl <| de_str ⟨⟨n.kind_ok, ok_letter⟩, ?_⟩⟩
  · cases n with
    | num v => cases (m : y = _); exact db_one (ds_ret <| de_var (i := 0) rfl q)
    | _ => cases h1
  rw [kind_letter]
  refine ⟨fun h2 => ?_, fun h2 => db_nil ?_⟩
  · cases n with
    | letter v => cases (m : y = _); exact db_one (ds_ret <| de_var (i := 0) rfl q)
    | _ => cases h2
  refine db_cons (ds_if <| dt_eqS (un_of hr) <| de_nd0 <| de_var (i := 0) rfl <| de_str ⟨⟨n.kind_ok, ok_abs⟩, ?_⟩)
  rw [kind_abs]
  refine ⟨fun h3 => ?_, fun h3 => db_nil ?_⟩
  · cases n with
    | abs i =>
      obtain ⟨a, ha, rfl⟩ := m
      exact db_one (ds_ret <| de_asNd2 <| de_tup2 <| de_str <| de_iget (α := Int) (un_of hr) 0 <| de_var (i := 1) rfl <| de_nd1 <| de_var (i := 0) rfl ⟨rfl, kvs, (a : Int), rfl, ha, .abs a, rfl, q⟩)
    | _ => cases h3
  refine db_cons (ds_if <| dt_eqS (un_of hr) <| de_nd0 <| de_var (i := 0) rfl <| de_str ⟨⟨n.kind_ok, ok_pow⟩, ?_⟩)
  rw [kind_pow]
  refine ⟨fun h4 => ?_, fun h4 => db_nil ?_⟩
  · cases n with
    | pow i k =>
      obtain ⟨a, ha, rfl⟩ := m
      exact db_one (ds_ret <| de_asNd3 <| de_tup3 <| de_str <| de_iget (α := Int) (un_of hr) 0 <| de_var (i := 1) rfl <| de_nd1 <| de_var (i := 0) rfl ⟨rfl, kvs, (a : Int), rfl, ha, de_nd2 <| de_var (i := 0) rfl ⟨rfl, .pow a k, rfl, q⟩⟩)
    | _ => cases h4
  cases n with
  | op o i j =>
    obtain ⟨a, b, ha, hb, rfl⟩ := m
    exact db_one (ds_ret <| de_asNd3 <| de_tup3 <| de_nd0 <| de_var (i := 0) rfl <| de_iget (α := Int) (un_of hr) 0 <| de_var (i := 1) rfl <| de_nd1 <| de_var (i := 0) rfl ⟨rfl, kvs, (a : Int), rfl, ha, de_iget (α := Int) (un_of hr) 0 <| de_var (i := 1) rfl <| de_nd2 <| de_var (i := 0) rfl ⟨rfl, kvs, (b : Int), rfl, hb, .op o a b, rfl, q⟩⟩)
  | letter k => cases h2
  | num v => cases h1
  | abs i => cases h3
  | pow i k => cases h4
def WtN (W : List Int) : Nd → Int → Prop
  | .abs i, y => ∃ a, W[i]? = some a ∧ y = a + 1
  | .pow i n, y => ∃ a, W[i]? = some a ∧ CMul a n ∧ y = a * n
  | .op _ i j, y => ∃ a b, W[i]? = some a ∧ W[j]? = some b ∧ y = a + b
  | _, y => y = 1
def phWeight : Pm Int := fun as μ P => ∃ (n : Nd) (y : Int) (d : Addr) (W : List Int), as = [sl n, sl (Ref.mk d)] ∧ μ = [lst d W] ∧ WtN W n y ∧ P y μ
theorem c_node_weight (D : Dfn K mg "node_weight" s_node_weight ["node", "found"]) : Cal P w K mg base "node_weight" 1 ["node", "found"] phWeight := by
  refine D.cal sc_node_weight (fun as μ P h => ?_) fun f cdv A outer s H E hr as μ Pd h => ?_
  · obtain ⟨_, _, _, _, rfl, _⟩ := h; rfl
  obtain ⟨n, y, d, W, rfl, rfl, m, q⟩ := h
  refine db_cons (ds_if (dw_or <| dt_eqS (un_of hr) <| de_nd0 <| de_var (i := 0) rfl <| de_str ⟨⟨n.kind_ok, ok_num⟩, ?_⟩).dt)
  rw [kind_num]
  refine ⟨fun h1 => ⟨fun _ => ?_, fun z => (nomatch z)⟩, fun h1 => dw_or1 <| dt_eqS (un_of hr) <| de_nd0 <| de_var (i := 0) rfl <| de_str ⟨⟨n.kind_ok, ok_letter⟩, ?_⟩⟩
  · cases n with
    | num v => cases (m : y = 1); exact db_one (ds_ret <| de_int q)
    | _ => cases h1
  rw [kind_letter]
  refine ⟨fun h2 => ?_, fun h2 => db_nil ?_⟩
  · cases n with
    | letter v => cases (m : y = 1); exact db_one (ds_ret <| de_int q)
    | _ => cases h2
  refine db_cons (ds_if <| dt_eqS (un_of hr) <| de_nd0 <| de_var (i := 0) rfl <| de_str ⟨⟨n.kind_ok, ok_abs⟩, ?_⟩)
  rw [kind_abs]
  refine ⟨fun h3 => ?_, fun h3 => db_nil ?_⟩
  · cases n with
    | abs i =>
      obtain ⟨a, ha, rfl⟩ := m
      exact db_one (ds_ret <| de_add <| de_ixC (α := Int) 0 <| de_var (i := 1) rfl <| de_nd1 <| de_var (i := 0) rfl ⟨rfl, W, rfl, a, atI_nat ha, de_int q⟩)
    | _ => cases h3
  refine db_cons (ds_if <| dt_eqS (un_of hr) <| de_nd0 <| de_var (i := 0) rfl <| de_str ⟨⟨n.kind_ok, ok_pow⟩, ?_⟩)
  rw [kind_pow]
  refine ⟨fun h4 => ?_, fun h4 => db_nil ?_⟩
  · cases n with
    | pow i k =>
      obtain ⟨a, ha, b1, rfl⟩ := m
      exact db_one (ds_ret <| de_mulS <| de_ixC (α := Int) 0 <| de_var (i := 1) rfl <| de_nd1 <| de_var (i := 0) rfl ⟨rfl, W, rfl, a, atI_nat ha, de_nd2 <| de_var (i := 0) rfl ⟨rfl, b1, q⟩⟩)
    | _ => cases h4
  cases n with
  | op o i j =>
    obtain ⟨a, b, ha, hb, rfl⟩ := m
    exact db_one (ds_ret <| de_add <| de_ixC (α := Int) 0 <| de_var (i := 1) rfl <| de_nd1 <| de_var (i := 0) rfl ⟨rfl, W, rfl, a, atI_nat ha, de_ixC (α := Int) 0 <| de_var (i := 1) rfl <| de_nd2 <| de_var (i := 0) rfl ⟨rfl, W, rfl, b, atI_nat hb, q⟩⟩)
  | letter k => cases h2
  | num v => cases h1
  | abs i => cases h3
  | pow i k => cases h4
def phPtS : Pm St2 := fun as μ P => ∃ v : Q2, as = [sl v] ∧ P (v, v) μ
theorem c_point_stretch (D : Dfn K mg "point_stretch" s_point_stretch ["number"]) : Cal P w K mg base "point_stretch" 1 ["number"] phPtS := by
  refine D.cal sc_point_stretch (fun as μ P h => ?_) fun f cdv A outer s H E hr as μ Pd h => ?_
  · obtain ⟨_, rfl, _⟩ := h; rfl
  obtain ⟨v, rfl, q⟩ := h
  exact db_one (ds_ret <| de_tup2 <| de_var (i := 0) rfl <| de_var (i := 0) rfl q)
/-- what node_range is asked for and answers: ranges by R, the letters' box B -/
def phRange (nr : Nd → List St2 → List St2 → St2 → Prop) : Pm St2 := fun as μ P => ∃ (n : Nd) (y : St2) (d : Addr) (R B : List St2), as = [sl n, sl (Ref.mk d), sl B] ∧ μ = [lst d R] ∧ nr n R B y ∧ P y μ
/-- letters and numbers alone -/
def nr0 (n : Nd) (R B : List St2) (y : St2) : Prop := (∃ k, n = .letter k ∧ B[k]? = some y) ∨ ∃ v, n = .num v ∧ y = (v, v)
theorem c_node_range0 (D : Dfn K mg "node_range" s_node_range ["node", "found", "box"]) (cp : Cal P w K mg base "point_stretch" 1 ["number"] phPtS) : Cal P w K mg base "node_range" 2 ["node", "found", "box"] (phRange nr0) := by
  refine D.cal sc_node_range (fun as μ P h => ?_) fun f cdv A outer s H E hr as μ Pd h => ?_
  · obtain ⟨_, _, _, _, _, rfl, _⟩ := h; rfl
  obtain ⟨n, y, d, R, B, rfl, rfl, m, q⟩ := h
  refine db_cons (ds_if <| dt_eqS (un_of hr) <| de_nd0 <| de_var (i := 0) rfl <| de_str ⟨⟨n.kind_ok, ok_num⟩, ?_⟩)
  rw [kind_num]
  refine ⟨fun h1 => ?_, fun h1 => db_nil ?_⟩
  · rcases m with ⟨k, rfl, hk⟩ | ⟨v, rfl, rfl⟩
    · cases h1
    · exact db_one (ds_ret <| de_c1 cp hr (by decide) <| da_cons <| de_nd1Q <| de_var (i := 0) rfl ⟨rfl, da_nil ⟨[], _, parts_none, v, rfl, q⟩⟩)
  rcases m with ⟨k, rfl, hk⟩ | ⟨v, rfl, rfl⟩
  · refine db_cons (ds_if <| dt_eqS (un_of hr) <| de_nd0 <| de_var (i := 0) rfl <| de_str ⟨⟨Nd.kind_ok _, ok_letter⟩, ?_⟩)
    rw [kind_letter]
    exact ⟨fun h2 => db_one (ds_ret <| de_ixL (α := St2) <| de_var (i := 2) rfl <| de_nd1 <| de_var (i := 0) rfl ⟨rfl, y, atI_nat hk, q⟩), fun h2 => (nomatch h2)⟩
  · cases h1
def longQ (q : Q2) : Bool := decide ((10 : Int) ^ 12 ≤ ((q.1.natAbs : Nat) : Int)) || decide ((10 : Int) ^ 12 ≤ q.2)
structure BCon (K : PySem.W.Frag) (mg : Str → Option Value) : Prop where
  reserved : ∃ a : Addr, mg "RESERVED" = some (.ref a) ∧ ∀ H, SqT K H a ((["abs", "max", "min", "real", "whole", "let", "keep", "least"] : List Str).map V.str)
  first : ∃ t, mg "FIRST_SIGNS" = some (.str "abcdefghijklmnopqrstuvwxyz" t)
  later : ∃ t, mg "LATER_SIGNS" = some (.str "abcdefghijklmnopqrstuvwxyz0123456789" t)
  beyond : ∃ t, mg "BEYOND" = some (.int (10 ^ 12) t)
def phLong : Pm Bool := fun as μ P => ∃ v : Q2, as = [sl v] ∧ P (longQ v) μ
theorem c_too_long (D : Dfn K mg "too_long" s_too_long ["value"]) (hab : mg "abs" = none) (bc : BCon K mg) : Cal P w K mg base "too_long" 1 ["value"] phLong := by
  refine D.cal sc_too_long (fun as μ P h => ?_) fun f cdv A outer s H E hr as μ Pd h => ?_
  · obtain ⟨_, rfl, _⟩ := h; rfl
  obtain ⟨v, rfl, q⟩ := h
  obtain ⟨t, hb⟩ := bc.beyond
  unfold longQ at q
  refine db_one (ds_ret <| de_or <| de_ge <| de_abs hab <| de_ix0 (α := Int) (β := Int) <| de_var (i := 0) rfl <| de_globI hb ⟨fun h1 => ?_, fun h1 => de_one <| de_ge <| de_ix1 (α := Int) (β := Int) <| de_var (i := 0) rfl <| de_globI hb ?_⟩)
  · rw [h1] at q; exact q
  · rw [h1] at q; exact q
structure NameOk (z : Str) : Prop where
  ok : PyData.strOk z = true
  ne : ¬ z = ""
  len : z.length ≤ 12
  res : ¬ z ∈ (["abs", "max", "min", "real", "whole", "let", "keep", "least"] : List Str)
  first : ∃ c, z.cps[0]? = some c ∧ occ ⟨#[c]⟩ "abcdefghijklmnopqrstuvwxyz" = true
  later : ∀ k c : Nat, z.cps[k]? = some c → occ ⟨#[c]⟩ "abcdefghijklmnopqrstuvwxyz0123456789" = true
theorem ok_empty : PyData.strOk ("" : Str) = true := by decide +kernel
def phName : Pm Bool := fun as μ P => ∃ z : Str, as = [sl z] ∧ NameOk z ∧ P true μ
theorem c_valid_name (D : Dfn K mg "valid_name" s_valid_name ["name"]) (hle : mg "len" = none) (bc : BCon K mg) : Cal P w K mg base "valid_name" 1 ["name"] phName := by
  refine D.cal sc_valid_name (fun as μ P h => ?_) fun f cdv A outer s H E hr as μ Pd h => ?_
  · obtain ⟨_, rfl, _⟩ := h; rfl
  obtain ⟨z, rfl, k, q⟩ := h
  obtain ⟨ar, hr1, hr2⟩ := bc.reserved
  obtain ⟨tf, hf⟩ := bc.first
  obtain ⟨tl, hl⟩ := bc.later
  obtain ⟨c0, hc0, hc1⟩ := k.first
  have hpos : (0 : Int) < z.length := by
    have : 0 < z.cps.size := by
      rcases Nat.eq_zero_or_pos z.cps.size with e | e
      · rw [Array.getElem?_eq_none (by omega)] at hc0; cases hc0
      · exact e
    exact_mod_cast this
  refine db_cons (ds_if (dw_or <| dt_eqS (un_of hr) <| de_var (i := 0) rfl <| de_str ⟨⟨k.ok, ok_empty⟩, ⟨fun h1 => absurd (of_decide_eq_true h1) k.ne, fun _ => dw_or <| dt_gt <| de_lenS hle <| de_var (i := 0) rfl ⟨Nat.le_trans k.len (by decide), de_int ⟨fun h1 => absurd (of_decide_eq_true h1) (by have := k.len; omega), fun _ => dw_or <| dt_inT (α := Str) <| de_var (i := 0) rfl <| de_globTS hr1 hr2 ⟨fun h1 => absurd (of_decide_eq_true h1) k.res, fun _ => dw_or1 <| dt_notInS <| de_ixS <| de_var (i := 0) rfl <| de_int ⟨c0, by decide, by decide, hpos, hc0, de_globS hf ⟨fun h1 => ?_, fun _ => db_nil ?_⟩⟩⟩⟩⟩⟩⟩).dt)
  · rw [hc1] at h1; cases h1
  refine db_cons (ds_forS PassesOwn.never rfl (pg_name (i := 1) sc_valid_name.nd rfl (Or.inl rfl)) (fun (x : Str) δ => δ.set 1 (sl x)) (fun x δ' => wg_name) (de_var (i := 0) rfl ⟨fun _ δ' μ' => (∃ s, δ' = [sl z, s]) ∧ μ' = μ, ⟨⟨_, rfl⟩, rfl⟩, fun i c δ' μ' hc hI => ?_, fun δ' μ' hI => ?_⟩))
  · obtain ⟨⟨s1, rfl⟩, rfl⟩ := hI
    exact db_one (ds_if <| dt_notInS <| de_var (i := 1) rfl <| de_globS hl ⟨fun h1 => (by rw [k.later i c hc] at h1; cases h1), fun _ => db_nil ⟨⟨_, rfl⟩, rfl⟩⟩)
  · obtain ⟨⟨s1, rfl⟩, rfl⟩ := hI
    exact db_one (ds_ret <| de_bl q)
end
end K17
namespace K17
open PySem PySem.Spec PyProof.Rows L2 Dl
section
variable {P : Program} {w : World} {K : PySem.W.Frag} {mg : Str → Option Value} {base : Heap}
/-! ### node_range over all kinds -/
def nrA (n : Nd) (R B : List St2) (y : St2) : Prop := match n with
  | .letter k => B[k]? = some y
  | .num v => y = (v, v)
  | .abs i => ∃ (s : RR) (A : Nat), R[i]? = some (canS s) ∧ NmS A s ∧ A ≤ 8000 ∧ y = canS (absS s)
  | .pow i n => ∃ (s : RR) (A : Nat), R[i]? = some (canS s) ∧ NmS A s ∧ 1 ≤ n * A ∧ n * A ≤ 9000 ∧ n ≤ 1000 ∧ y = canS (powS s n)
  | .op o i j => ∃ (s t : RR) (A A' : Nat), R[i]? = some (canS s) ∧ R[j]? = some (canS t) ∧ NmS A s ∧ NmS A' t ∧ A + A' ≤ 8000 ∧ (o = .div → t.1 ≠ 0 ∧ t.2 ≠ 0) ∧ y = canS (stOp o s t)
theorem c_node_range (D : Dfn K mg "node_range" s_node_range ["node", "found", "box"]) (cp : Cal P w K mg base "point_stretch" 1 ["number"] phPtS) (cab : Cal P w K mg base "abs_stretch" 3 ["one"] (phS1 absS))
    (cpw : Cal P w K mg base "power_stretch" 3 ["one", "count"] (fun as μ Q => ∃ (s : RR) (n A : Nat), as = [sl (canS s), sl (n : Int)] ∧ (NmS A s ∧ 1 ≤ n * A ∧ n * A ≤ 9000 ∧ n ≤ 1000) ∧ Q (canS (powS s n)) μ))
    (cc : Cal P w K mg base "combine_stretches" 5 ["kind", "one", "two"] phComb) : Cal P w K mg base "node_range" 6 ["node", "found", "box"] (phRange nrA) := by
  refine D.cal sc_node_range (fun as μ P h => ?_) fun f cdv A outer s H E hr as μ Pd h => ?_
  · obtain ⟨_, _, _, _, _, rfl, _⟩ := h; rfl
  obtain ⟨n, y, d, R, B, rfl, rfl, m, q⟩ := h
  refine db_cons (ds_if <| dt_eqS (un_of hr) <| de_nd0 <| de_var (i := 0) rfl <| de_str ⟨⟨n.kind_ok, ok_num⟩, ?_⟩)
  rw [kind_num]
  refine ⟨fun h1 => ?_, fun h1 => db_nil ?_⟩
  · cases n with
    | num v =>
      cases (m : y = (v, v))
      exact db_one (ds_ret <| de_c1 cp hr (by decide) <| da_cons <| de_nd1Q <| de_var (i := 0) rfl ⟨rfl, da_nil ⟨[], _, parts_none, v, rfl, q⟩⟩)
    | _ => cases h1
  refine db_cons (ds_if <| dt_eqS (un_of hr) <| de_nd0 <| de_var (i := 0) rfl <| de_str ⟨⟨n.kind_ok, ok_letter⟩, ?_⟩)
  rw [kind_letter]
  refine ⟨fun h2 => ?_, fun h2 => db_nil ?_⟩
  · cases n with
    | letter k => exact db_one (ds_ret <| de_ixL (α := St2) <| de_var (i := 2) rfl <| de_nd1 <| de_var (i := 0) rfl ⟨rfl, y, atI_nat m, q⟩)
    | _ => cases h2
  refine db_cons (ds_if <| dt_eqS (un_of hr) <| de_nd0 <| de_var (i := 0) rfl <| de_str ⟨⟨n.kind_ok, ok_abs⟩, ?_⟩)
  rw [kind_abs]
  refine ⟨fun h3 => ?_, fun h3 => db_nil ?_⟩
  · cases n with
    | abs i =>
      obtain ⟨x, A1, hx, hA, hk, rfl⟩ := m
      exact db_one (ds_ret <| de_c1 cab hr (by decide) <| da_cons <| de_ixC (α := St2) 0 <| de_var (i := 1) rfl <| de_nd1 <| de_var (i := 0) rfl ⟨rfl, R, rfl, _, atI_nat hx, da_nil ⟨[], _, parts_none, x, A1, rfl, ⟨hA, hk⟩, q⟩⟩)
    | _ => cases h3
  refine db_cons (ds_if <| dt_eqS (un_of hr) <| de_nd0 <| de_var (i := 0) rfl <| de_str ⟨⟨n.kind_ok, ok_pow⟩, ?_⟩)
  rw [kind_pow]
  refine ⟨fun h4 => ?_, fun h4 => db_nil ?_⟩
  · cases n with
    | pow i k =>
      obtain ⟨x, A1, hx, hA, k1, k2, k3, rfl⟩ := m
      exact db_one (ds_ret <| de_c1 cpw hr (by decide) <| da_cons <| de_ixC (α := St2) 0 <| de_var (i := 1) rfl <| de_nd1 <| de_var (i := 0) rfl ⟨rfl, R, rfl, _, atI_nat hx, da_cons <| de_nd2 <| de_var (i := 0) rfl ⟨rfl, da_nil ⟨[], _, parts_none, x, k, A1, rfl, ⟨hA, k1, k2, k3⟩, q⟩⟩⟩)
    | _ => cases h4
  cases n with
  | op o i j =>
    obtain ⟨x, t, A1, A2, hx, ht, hA, hA2, hk, hd, rfl⟩ := m
    exact db_one (ds_ret <| de_c1 cc hr (by decide) <| da_cons <| de_nd0 <| de_var (i := 0) rfl <| da_cons <| de_ixC (α := St2) 0 <| de_var (i := 1) rfl <| de_nd1 <| de_var (i := 0) rfl ⟨rfl, R, rfl, _, atI_nat hx, da_cons <| de_ixC (α := St2) 0 <| de_var (i := 1) rfl <| de_nd2 <| de_var (i := 0) rfl ⟨rfl, R, rfl, _, atI_nat ht, da_nil ⟨[], _, parts_none, o, x, t, A1, A2, rfl, ⟨hA, hA2, hk, hd⟩, q⟩⟩⟩)
  | letter k => cases h2
  | num v => cases h1
  | abs i => cases h3
  | pow i k => cases h4
end
end K17
namespace K17
open PySem PySem.Spec PyProof.Rows L2 Dl
section
variable {P : Program} {w : World} {K : PySem.W.Frag} {mg : Str → Option Value} {base : Heap}
/-! ### node_range, the box a tuple -/
def phRangeT (nr : Nd → List St2 → List St2 → St2 → Prop) : Pm St2 := fun as μ P => ∃ (n : Nd) (y : St2) (d : Addr) (R B : List St2), as = [sl n, sl (Ref.mk d), sl (Tup.mk B)] ∧ μ = [lst d R] ∧ nr n R B y ∧ P y μ
theorem c_node_rangeT (D : Dfn K mg "node_range" s_node_range ["node", "found", "box"]) (cp : Cal P w K mg base "point_stretch" 1 ["number"] phPtS) (cab : Cal P w K mg base "abs_stretch" 3 ["one"] (phS1 absS))
    (cpw : Cal P w K mg base "power_stretch" 3 ["one", "count"] (fun as μ Q => ∃ (s : RR) (n A : Nat), as = [sl (canS s), sl (n : Int)] ∧ (NmS A s ∧ 1 ≤ n * A ∧ n * A ≤ 9000 ∧ n ≤ 1000) ∧ Q (canS (powS s n)) μ))
    (cc : Cal P w K mg base "combine_stretches" 5 ["kind", "one", "two"] phComb) : Cal P w K mg base "node_range" 6 ["node", "found", "box"] (phRangeT nrA) := by
  refine D.cal sc_node_range (fun as μ P h => ?_) fun f cdv A outer s H E hr as μ Pd h => ?_
  · obtain ⟨_, _, _, _, _, rfl, _⟩ := h; rfl
  obtain ⟨n, y, d, R, B, rfl, rfl, m, q⟩ := h
  refine db_cons (ds_if <| dt_eqS (un_of hr) <| de_nd0 <| de_var (i := 0) rfl <| de_str ⟨⟨n.kind_ok, ok_num⟩, ?_⟩)
  rw [kind_num]
  refine ⟨fun h1 => ?_, fun h1 => db_nil ?_⟩
  · cases n with
    | num v =>
      cases (m : y = (v, v))
      exact db_one (ds_ret <| de_c1 cp hr (by decide) <| da_cons <| de_nd1Q <| de_var (i := 0) rfl ⟨rfl, da_nil ⟨[], _, parts_none, v, rfl, q⟩⟩)
    | _ => cases h1
  refine db_cons (ds_if <| dt_eqS (un_of hr) <| de_nd0 <| de_var (i := 0) rfl <| de_str ⟨⟨n.kind_ok, ok_letter⟩, ?_⟩)
  rw [kind_letter]
  refine ⟨fun h2 => ?_, fun h2 => db_nil ?_⟩
  · cases n with
    | letter k => exact db_one (ds_ret <| de_ixT (α := St2) <| de_var (i := 2) rfl <| de_nd1 <| de_var (i := 0) rfl ⟨rfl, y, atI_nat m, q⟩)
    | _ => cases h2
  refine db_cons (ds_if <| dt_eqS (un_of hr) <| de_nd0 <| de_var (i := 0) rfl <| de_str ⟨⟨n.kind_ok, ok_abs⟩, ?_⟩)
  rw [kind_abs]
  refine ⟨fun h3 => ?_, fun h3 => db_nil ?_⟩
  · cases n with
    | abs i =>
      obtain ⟨x, A1, hx, hA, hk, rfl⟩ := m
      exact db_one (ds_ret <| de_c1 cab hr (by decide) <| da_cons <| de_ixC (α := St2) 0 <| de_var (i := 1) rfl <| de_nd1 <| de_var (i := 0) rfl ⟨rfl, R, rfl, _, atI_nat hx, da_nil ⟨[], _, parts_none, x, A1, rfl, ⟨hA, hk⟩, q⟩⟩)
    | _ => cases h3
  refine db_cons (ds_if <| dt_eqS (un_of hr) <| de_nd0 <| de_var (i := 0) rfl <| de_str ⟨⟨n.kind_ok, ok_pow⟩, ?_⟩)
  rw [kind_pow]
  refine ⟨fun h4 => ?_, fun h4 => db_nil ?_⟩
  · cases n with
    | pow i k =>
      obtain ⟨x, A1, hx, hA, k1, k2, k3, rfl⟩ := m
      exact db_one (ds_ret <| de_c1 cpw hr (by decide) <| da_cons <| de_ixC (α := St2) 0 <| de_var (i := 1) rfl <| de_nd1 <| de_var (i := 0) rfl ⟨rfl, R, rfl, _, atI_nat hx, da_cons <| de_nd2 <| de_var (i := 0) rfl ⟨rfl, da_nil ⟨[], _, parts_none, x, k, A1, rfl, ⟨hA, k1, k2, k3⟩, q⟩⟩⟩)
    | _ => cases h4
  cases n with
  | op o i j =>
    obtain ⟨x, t, A1, A2, hx, ht, hA, hA2, hk, hd, rfl⟩ := m
    exact db_one (ds_ret <| de_c1 cc hr (by decide) <| da_cons <| de_nd0 <| de_var (i := 0) rfl <| da_cons <| de_ixC (α := St2) 0 <| de_var (i := 1) rfl <| de_nd1 <| de_var (i := 0) rfl ⟨rfl, R, rfl, _, atI_nat hx, da_cons <| de_ixC (α := St2) 0 <| de_var (i := 1) rfl <| de_nd2 <| de_var (i := 0) rfl ⟨rfl, R, rfl, _, atI_nat ht, da_nil ⟨[], _, parts_none, o, x, t, A1, A2, rfl, ⟨hA, hA2, hk, hd⟩, q⟩⟩⟩)
  | letter k => cases h2
  | num v => cases h1
  | abs i => cases h3
  | pow i k => cases h4
end
end K17
namespace K17
open PySem PySem.Spec PyProof.Rows L2 Dl
section
variable {P : Program} {w : World} {K : PySem.W.Frag} {mg : Str → Option Value} {base : Heap}
/-! ### combine, node_worth -/
def wtOp : Op2 → Rat → Rat → Rat
  | .add => fun a b => a + b
  | .sub => fun a b => a - b
  | .mul => fun a b => a * b
  | .div => fun a b => a / b
  | .max => maxQ
  | .min => minQ
def phCombW : Pm Q2 := fun as μ Q => ∃ (o : Op2) (a b : Rat) (A B : Nat), as = [sl o.s, sl (can a), sl (can b)] ∧ (Nm A (can a) ∧ Nm B (can b) ∧ A + B ≤ 8000 ∧ (o = .div → b ≠ 0)) ∧ Q (can (wtOp o a b)) μ
theorem c_combine (D : Dfn K mg "combine" s_combine ["kind", "one", "two"]) (ca : cAdd P w K mg base) (cs : cSub P w K mg base) (cm : cMul P w K mg base) (cd : Cal P w K mg base "div" 2 ["one", "two"] phDivN) (cx : Cal P w K mg base "greater" 2 ["one", "two"] phMaxR) (cn : Cal P w K mg base "lesser" 2 ["one", "two"] phMinR) :
    Cal P w K mg base "combine" 3 ["kind", "one", "two"] phCombW := by
  refine D.cal sc_combine (fun as μ P h => ?_) fun f cdv A' outer s' H E hr as μ Pd h => ?_
  · obtain ⟨_, _, _, _, _, rfl, _⟩ := h; rfl
  obtain ⟨o, x, y, A, B, rfl, ⟨a, b, k, hd⟩, q⟩ := h
  refine db_cons (ds_if <| dt_eqS (un_of hr) <| de_var (i := 0) rfl <| de_str ⟨⟨o.ok, ok_add⟩, ?_⟩)
  rw [op_add_eq]
  refine ⟨fun h1 => ?_, fun h1 => db_nil ?_⟩
  · cases of_decide_eq_true h1
    exact db_one (ds_ret <| de_c1 ca hr (by decide) <| da_cons <| de_var (i := 1) rfl <| da_cons <| de_var (i := 2) rfl <| da_nil ⟨[], _, parts_none, _, _, _, _, rfl, qv_can _, qv_can _, ok2_of a b (by omega), q⟩)
  refine db_cons (ds_if <| dt_eqS (un_of hr) <| de_var (i := 0) rfl <| de_str ⟨⟨o.ok, ok_sub⟩, ?_⟩)
  rw [op_sub_eq]
  refine ⟨fun h2 => ?_, fun h2 => db_nil ?_⟩
  · cases of_decide_eq_true h2
    exact db_one (ds_ret <| de_c1 cs hr (by decide) <| da_cons <| de_var (i := 1) rfl <| da_cons <| de_var (i := 2) rfl <| da_nil ⟨[], _, parts_none, _, _, _, _, rfl, qv_can _, qv_can _, ok2_of a b (by omega), q⟩)
  refine db_cons (ds_if <| dt_eqS (un_of hr) <| de_var (i := 0) rfl <| de_str ⟨⟨o.ok, ok_mul⟩, ?_⟩)
  rw [op_mul_eq]
  refine ⟨fun h3 => ?_, fun h3 => db_nil ?_⟩
  · cases of_decide_eq_true h3
    exact db_one (ds_ret <| de_c1 cm hr (by decide) <| da_cons <| de_var (i := 1) rfl <| da_cons <| de_var (i := 2) rfl <| da_nil ⟨[], _, parts_none, _, _, _, _, rfl, qv_can _, qv_can _, ok2_of a b (by omega), q⟩)
  refine db_cons (ds_if <| dt_eqS (un_of hr) <| de_var (i := 0) rfl <| de_str ⟨⟨o.ok, ok_div⟩, ?_⟩)
  rw [op_div_eq]
  refine ⟨fun h4 => ?_, fun h4 => db_nil ?_⟩
  · cases of_decide_eq_true h4
    exact db_one (ds_ret <| de_c1 cd hr (by decide) <| da_cons <| de_var (i := 1) rfl <| da_cons <| de_var (i := 2) rfl <| da_nil ⟨[], _, parts_none, x, y, A, B, rfl, ⟨hd rfl, a, b, by omega⟩, q⟩)
  refine db_cons (ds_if <| dt_eqS (un_of hr) <| de_var (i := 0) rfl <| de_str ⟨⟨o.ok, ok_max⟩, ?_⟩)
  rw [op_max_eq]
  refine ⟨fun h5 => ?_, fun h5 => db_nil ?_⟩
  · cases of_decide_eq_true h5
    exact db_one (ds_ret <| de_c1 cx hr (by decide) <| da_cons <| de_var (i := 1) rfl <| da_cons <| de_var (i := 2) rfl <| da_nil ⟨[], _, parts_none, _, _, rfl, okC_b a b (by omega), q⟩)
  have e : o = .min := by
    cases o with
    | add => exact absurd h1 (by decide)
    | sub => exact absurd h2 (by decide)
    | mul => exact absurd h3 (by decide)
    | div => exact absurd h4 (by decide)
    | max => exact absurd h5 (by decide)
    | min => rfl
  subst e
  exact db_one (ds_ret <| de_c1 cn hr (by decide) <| da_cons <| de_var (i := 1) rfl <| da_cons <| de_var (i := 2) rfl <| da_nil ⟨[], _, parts_none, _, _, rfl, okC_b a b (by omega), q⟩)
/-- the worth of a node: the earlier worths in a list that may change, the point a tuple -/
def nwA (n : Nd) (F X : List Q2) (y : Q2) : Prop := match n with
  | .letter k => X[k]? = some y
  | .num v => y = v
  | .abs i => ∃ a : Rat, F[i]? = some (can a) ∧ y = can (if a < 0 then -a else a)
  | .pow i n => ∃ (a : Rat) (A : Nat), F[i]? = some (can a) ∧ Nm A (can a) ∧ n * A ≤ 9000 ∧ n ≤ 1000 ∧ y = can (a ^ n)
  | .op o i j => ∃ (a b : Rat) (A B : Nat), F[i]? = some (can a) ∧ F[j]? = some (can b) ∧ Nm A (can a) ∧ Nm B (can b) ∧ A + B ≤ 8000 ∧ (o = .div → b ≠ 0) ∧ y = can (wtOp o a b)
def phWorthL : Pm Q2 := fun as μ Q => ∃ (n : Nd) (y : Q2) (d : Addr) (F X : List Q2), as = [sl n, sl (Ref.mk d), sl (Tup.mk X)] ∧ μ = [lst d F] ∧ nwA n F X y ∧ Q y μ
theorem c_node_worthL (D : Dfn K mg "node_worth" s_node_worth ["node", "found", "point"]) (cz : cSize P w K mg base) (cpw : Cal P w K mg base "power" 1 ["one", "count"] phPower) (cc : Cal P w K mg base "combine" 3 ["kind", "one", "two"] phCombW) : Cal P w K mg base "node_worth" 4 ["node", "found", "point"] phWorthL := by
  refine D.cal sc_node_worth (fun as μ P h => ?_) fun f cdv A outer s H E hr as μ Pd h => ?_
  · obtain ⟨_, _, _, _, _, rfl, _⟩ := h; rfl
  obtain ⟨n, y, d, F, X, rfl, rfl, m, q⟩ := h
  refine db_cons (ds_if <| dt_eqS (un_of hr) <| de_nd0 <| de_var (i := 0) rfl <| de_str ⟨⟨n.kind_ok, ok_num⟩, ?_⟩)
  rw [kind_num]
  refine ⟨fun h1 => ?_, fun h1 => db_nil ?_⟩
  · cases n with
    | num v =>
      cases (m : y = v)
      exact db_one (ds_ret <| de_nd1Q <| de_var (i := 0) rfl ⟨rfl, q⟩)
    | _ => cases h1
  refine db_cons (ds_if <| dt_eqS (un_of hr) <| de_nd0 <| de_var (i := 0) rfl <| de_str ⟨⟨n.kind_ok, ok_letter⟩, ?_⟩)
  rw [kind_letter]
  refine ⟨fun h2 => ?_, fun h2 => db_nil ?_⟩
  · cases n with
    | letter k => exact db_one (ds_ret <| de_ixT (α := Q2) <| de_var (i := 2) rfl <| de_nd1 <| de_var (i := 0) rfl ⟨rfl, y, atI_nat m, q⟩)
    | _ => cases h2
  refine db_cons (ds_if <| dt_eqS (un_of hr) <| de_nd0 <| de_var (i := 0) rfl <| de_str ⟨⟨n.kind_ok, ok_abs⟩, ?_⟩)
  rw [kind_abs]
  refine ⟨fun h3 => ?_, fun h3 => db_nil ?_⟩
  · cases n with
    | abs i =>
      obtain ⟨a, ha, rfl⟩ := m
      exact db_one (ds_ret <| de_c1 cz hr (by decide) <| da_cons <| de_ixC (α := Q2) 0 <| de_var (i := 1) rfl <| de_nd1 <| de_var (i := 0) rfl ⟨rfl, F, rfl, _, atI_nat ha, da_nil ⟨[], _, parts_none, a, rfl, trivial, q⟩⟩)
    | _ => cases h3
  refine db_cons (ds_if <| dt_eqS (un_of hr) <| de_nd0 <| de_var (i := 0) rfl <| de_str ⟨⟨n.kind_ok, ok_pow⟩, ?_⟩)
  rw [kind_pow]
  refine ⟨fun h4 => ?_, fun h4 => db_nil ?_⟩
  · cases n with
    | pow i k =>
      obtain ⟨a, A1, ha, zA, k2, k3, rfl⟩ := m
      exact db_one (ds_ret <| de_c1 cpw hr (by decide) <| da_cons <| de_ixC (α := Q2) 0 <| de_var (i := 1) rfl <| de_nd1 <| de_var (i := 0) rfl ⟨rfl, F, rfl, _, atI_nat ha, da_cons <| de_nd2 <| de_var (i := 0) rfl ⟨rfl, da_nil ⟨[], _, parts_none, a, k, A1, rfl, ⟨zA, k2, k3⟩, q⟩⟩⟩)
    | _ => cases h4
  cases n with
  | op o i j =>
    obtain ⟨a, b, A1, A2, ha, hb, zA, zB, hk, hd, rfl⟩ := m
    exact db_one (ds_ret <| de_c1 cc hr (by decide) <| da_cons <| de_nd0 <| de_var (i := 0) rfl <| da_cons <| de_ixC (α := Q2) 0 <| de_var (i := 1) rfl <| de_nd1 <| de_var (i := 0) rfl ⟨rfl, F, rfl, _, atI_nat ha, da_cons <| de_ixC (α := Q2) 0 <| de_var (i := 1) rfl <| de_nd2 <| de_var (i := 0) rfl ⟨rfl, F, rfl, _, atI_nat hb, da_nil ⟨[], _, parts_none, o, a, b, A1, A2, rfl, ⟨zA, zB, hk, hd⟩, q⟩⟩⟩)
  | letter k => cases h2
  | num v => cases h1
  | abs i => cases h3
  | pow i k => cases h4
/-- the worth of a node: the earlier worths in a dict -/
def nwD (n : Nd) (F : IKv Q2) (X : List Q2) (y : Q2) : Prop := match n with
  | .letter k => X[k]? = some y
  | .num v => y = v
  | .abs i => ∃ a : Rat, valI F (i : Int) = some (can a) ∧ y = can (if a < 0 then -a else a)
  | .pow i n => ∃ (a : Rat) (A : Nat), valI F (i : Int) = some (can a) ∧ Nm A (can a) ∧ n * A ≤ 9000 ∧ n ≤ 1000 ∧ y = can (a ^ n)
  | .op o i j => ∃ (a b : Rat) (A B : Nat), valI F (i : Int) = some (can a) ∧ valI F (j : Int) = some (can b) ∧ Nm A (can a) ∧ Nm B (can b) ∧ A + B ≤ 8000 ∧ (o = .div → b ≠ 0) ∧ y = can (wtOp o a b)
def phWorthD : Pm Q2 := fun as μ Q => ∃ (n : Nd) (y : Q2) (d : Addr) (F : IKv Q2) (X : List Q2), as = [sl n, sl (Ref.mk d), sl (Tup.mk X)] ∧ μ = [DkC d (inferInstance : Enc Q2) F] ∧ nwD n F X y ∧ Q y μ
theorem c_node_worthD (D : Dfn K mg "node_worth" s_node_worth ["node", "found", "point"]) (cz : cSize P w K mg base) (cpw : Cal P w K mg base "power" 1 ["one", "count"] phPower) (cc : Cal P w K mg base "combine" 3 ["kind", "one", "two"] phCombW) : Cal P w K mg base "node_worth" 4 ["node", "found", "point"] phWorthD := by
  refine D.cal sc_node_worth (fun as μ P h => ?_) fun f cdv A outer s H E hr as μ Pd h => ?_
  · obtain ⟨_, _, _, _, _, rfl, _⟩ := h; rfl
  obtain ⟨n, y, d, F, X, rfl, rfl, m, q⟩ := h
  refine db_cons (ds_if <| dt_eqS (un_of hr) <| de_nd0 <| de_var (i := 0) rfl <| de_str ⟨⟨n.kind_ok, ok_num⟩, ?_⟩)
  rw [kind_num]
  refine ⟨fun h1 => ?_, fun h1 => db_nil ?_⟩
  · cases n with
    | num v =>
      cases (m : y = v)
      exact db_one (ds_ret <| de_nd1Q <| de_var (i := 0) rfl ⟨rfl, q⟩)
    | _ => cases h1
  refine db_cons (ds_if <| dt_eqS (un_of hr) <| de_nd0 <| de_var (i := 0) rfl <| de_str ⟨⟨n.kind_ok, ok_letter⟩, ?_⟩)
  rw [kind_letter]
  refine ⟨fun h2 => ?_, fun h2 => db_nil ?_⟩
  · cases n with
    | letter k => exact db_one (ds_ret <| de_ixT (α := Q2) <| de_var (i := 2) rfl <| de_nd1 <| de_var (i := 0) rfl ⟨rfl, y, atI_nat m, q⟩)
    | _ => cases h2
  refine db_cons (ds_if <| dt_eqS (un_of hr) <| de_nd0 <| de_var (i := 0) rfl <| de_str ⟨⟨n.kind_ok, ok_abs⟩, ?_⟩)
  rw [kind_abs]
  refine ⟨fun h3 => ?_, fun h3 => db_nil ?_⟩
  · cases n with
    | abs i =>
      obtain ⟨a, ha, rfl⟩ := m
      exact db_one (ds_ret <| de_c1 cz hr (by decide) <| da_cons <| de_iget (α := Q2) (un_of hr) 0 <| de_var (i := 1) rfl <| de_nd1 <| de_var (i := 0) rfl ⟨rfl, F, _, rfl, ha, da_nil ⟨[], _, parts_none, a, rfl, trivial, q⟩⟩)
    | _ => cases h3
  refine db_cons (ds_if <| dt_eqS (un_of hr) <| de_nd0 <| de_var (i := 0) rfl <| de_str ⟨⟨n.kind_ok, ok_pow⟩, ?_⟩)
  rw [kind_pow]
  refine ⟨fun h4 => ?_, fun h4 => db_nil ?_⟩
  · cases n with
    | pow i k =>
      obtain ⟨a, A1, ha, zA, k2, k3, rfl⟩ := m
      exact db_one (ds_ret <| de_c1 cpw hr (by decide) <| da_cons <| de_iget (α := Q2) (un_of hr) 0 <| de_var (i := 1) rfl <| de_nd1 <| de_var (i := 0) rfl ⟨rfl, F, _, rfl, ha, da_cons <| de_nd2 <| de_var (i := 0) rfl ⟨rfl, da_nil ⟨[], _, parts_none, a, k, A1, rfl, ⟨zA, k2, k3⟩, q⟩⟩⟩)
    | _ => cases h4
  cases n with
  | op o i j =>
    obtain ⟨a, b, A1, A2, ha, hb, zA, zB, hk, hd, rfl⟩ := m
    exact db_one (ds_ret <| de_c1 cc hr (by decide) <| da_cons <| de_nd0 <| de_var (i := 0) rfl <| da_cons <| de_iget (α := Q2) (un_of hr) 0 <| de_var (i := 1) rfl <| de_nd1 <| de_var (i := 0) rfl ⟨rfl, F, _, rfl, ha, da_cons <| de_iget (α := Q2) (un_of hr) 0 <| de_var (i := 1) rfl <| de_nd2 <| de_var (i := 0) rfl ⟨rfl, F, _, rfl, hb, da_nil ⟨[], _, parts_none, o, a, b, A1, A2, rfl, ⟨zA, zB, hk, hd⟩, q⟩⟩⟩)
  | letter k => cases h2
  | num v => cases h1
  | abs i => cases h3
  | pow i k => cases h4
end
end K17
namespace K17
open PySem PySem.Spec PyProof.Rows L2 Dl
/-! ### builders -/
structure BAd where
  b : Addr
  dx : Addr
  l : Addr
  n : Addr
  r : Addr
  w : Addr
  c : Addr
  k : Addr
structure Bst where
  L : List L4 := []
  N : List Nd := []
  R : List St2 := []
  W : List Int := []
  C : List Nat := []
  G : Option Nat := none
structure Bst.Ok (S : Bst) : Prop where
  nd : S.N.Nodup
  n : S.N.length ≤ 5000
  r : S.R.length = S.N.length
  w : S.W.length = S.N.length
  l : S.L.length ≤ 6
  c : S.C.length ≤ 12
def Bst.addL (S : Bst) (x : L4) : Bst := { S with L := S.L ++ [x] }
def Bst.add (S : Bst) (x : Nd) (wt : Int) (y : St2) : Bst := { S with N := S.N ++ [x], W := S.W ++ [wt], R := S.R ++ [y] }
/-- the places of the nodes by their keys -/
def knwF (p : Nd × Nat) : List Elt × Int := (p.1.key, (p.2 : Int))
def knw (N : List Nd) : NKv Int := N.zipIdx.map knwF
theorem knw_snoc {N : List Nd} {x : Nd} : knw (N ++ [x]) = knw N ++ [(x.key, (N.length : Int))] := by
  unfold knw
  rw [List.zipIdx_append, List.map_append]
  simp [knwF]
theorem knw_len {N : List Nd} : (knw N).length = N.length := by unfold knw; simp
theorem knw_none' {x : Nd} : ∀ (N : List Nd) (m : Nat), x ∉ N → valN ((N.zipIdx m).map knwF) x.key = none
  | [], _, _ => rfl
  | y :: N, m, h => by
    rw [List.zipIdx_cons, List.map_cons, valN_neg fun e => h (by rw [(Nd.key_inj e : y = x)]; simp)]
    exact knw_none' N _ fun z => h (List.mem_cons_of_mem _ z)
theorem knw_none {N : List Nd} {x : Nd} (h : x ∉ N) : valN (knw N) x.key = none := knw_none' N 0 h
theorem knw_get' {x : Nd} : ∀ (N : List Nd) (m i : Nat), N.Nodup → N[i]? = some x → valN ((N.zipIdx m).map knwF) x.key = some ((m + i : Nat) : Int)
  | [], _, _, _, h => by simp at h
  | y :: N, m, 0, _, h => by
    rw [List.zipIdx_cons, List.map_cons, valN_pos]
    · rfl
    · have : y = x := by simpa using h
      rw [this]; rfl
  | y :: N, m, i + 1, d, h => by
    have h' : N[i]? = some x := by simpa using h
    rw [List.zipIdx_cons, List.map_cons, valN_neg fun e => ?_]
    · rw [knw_get' N (m + 1) i (List.nodup_cons.mp d).2 h', show m + 1 + i = m + (i + 1) by omega]
    · have : y = x := Nd.key_inj e
      exact (List.nodup_cons.mp d).1 (by rw [this]; exact List.mem_of_getElem? h')
theorem knw_get {N : List Nd} {x : Nd} {i : Nat} (d : N.Nodup) (h : N[i]? = some x) : valN (knw N) x.key = some (i : Int) := by
  have := knw_get' N 0 i d h
  rwa [Nat.zero_add] at this
theorem take_snoc {α β : Type} {l : List α} {i : Nat} {x : α} {f : α → β} (h : l[i]? = some x) : (l.take (i + 1)).map f = (l.take i).map f ++ [f x] := by
  rw [List.take_add_one, h, List.map_append]; rfl
def boxL (L : List L4) : List St2 := L.map fun r => (r.x2, r.x3)
def nI (l : List Nat) : List Int := l.map fun (x : Nat) => (x : Int)
def bldF (A : BAd) (g : Option Nat) : Flds := [("letters", sl (Ref.mk A.l)), ("nodes", sl (Ref.mk A.n)), ("ranges", sl (Ref.mk A.r)), ("weights", sl (Ref.mk A.w)), ("conditions", sl (Ref.mk A.c)), ("goal", sl (g.map (fun (x : Nat) => (x : Int)) : Option Int)), ("_known", sl (Ref.mk A.k))]
structure BldK (K : PySem.W.Frag) (C : Addr) : Prop where
  cls : Cls K C
  letters : NoAttr K C "letters"
  nodes : NoAttr K C "nodes"
  ranges : NoAttr K C "ranges"
  weights : NoAttr K C "weights"
  conditions : NoAttr K C "conditions"
  goal : NoAttr K C "goal"
  known : NoAttr K C "_known"
  ml : ∃ u, Con K C "MOST_LETTERS" (.int 6) u
  mn : ∃ u, Con K C "MOST_NODES" (.int 60) u
  mc : ∃ u, Con K C "MOST_CONDITIONS" (.int 12) u
  mw : ∃ u, Con K C "MOST_WEIGHT" (.int 40) u
section
variable {P : Program} {w : World} {K : PySem.W.Frag} {mg : Str → Option Value} {base : Heap} {C : Addr}
def bldM (P : Program) (w : World) (C : Addr) (A : BAd) (S : Bst) : List Cell := [ObjC A.b A.dx C (bldF A S.G), lst A.l S.L, lst A.n S.N, lst A.r S.R, lst A.w S.W, lst A.c (nI S.C), NdC P w A.k (inferInstance : Enc Int) (knw S.N)]
def phBInit (P : Program) (w : World) (C : Addr) : Pm Unit := fun as μ Q => ∃ b dx, as = [sl (Ref.mk b)] ∧ μ = [ObjC b dx C []] ∧ ∀ A : BAd, A.b = b → Q () (bldM P w C A {})
theorem c_binit (D : DfnI K mg "Builder" C "Builder.__init__" s_Builder_init ["self"]) (k : BldK K C) : MakD P w K mg base "Builder" C 1 ["self"] (phBInit P w C) := by
  refine D.mak sc_Builder_init (fun as μ Q h => ?_) fun f cdv A outer s H E hr as μ Pd h => ?_
  · obtain ⟨b, dx, rfl, _⟩ := h; rfl
  obtain ⟨b, dx, rfl, rfl, q⟩ := h
  refine db_cons (ds_fld 0 <| de_lstN (α := L4) <| da_nil ⟨[], rfl, (by decide), fun la => de_var (i := 0) rfl ⟨_, _, _, rfl, k.cls, k.letters, (by show (0 : Nat) < 1000; decide), ?_⟩⟩)
  refine db_cons (ds_fld 0 <| de_lstN (α := Nd) <| da_nil ⟨[], rfl, (by decide), fun na => de_var (i := 0) rfl ⟨_, _, _, rfl, k.cls, k.nodes, (by show (1 : Nat) < 1000; decide), ?_⟩⟩)
  refine db_cons (ds_fld 0 <| de_lstN (α := St2) <| da_nil ⟨[], rfl, (by decide), fun ra => de_var (i := 0) rfl ⟨_, _, _, rfl, k.cls, k.ranges, (by show (2 : Nat) < 1000; decide), ?_⟩⟩)
  refine db_cons (ds_fld 0 <| de_lstN (α := Int) <| da_nil ⟨[], rfl, (by decide), fun wa => de_var (i := 0) rfl ⟨_, _, _, rfl, k.cls, k.weights, (by show (3 : Nat) < 1000; decide), ?_⟩⟩)
  refine db_cons (ds_fld 0 <| de_lstN (α := Int) <| da_nil ⟨[], rfl, (by decide), fun ca => de_var (i := 0) rfl ⟨_, _, _, rfl, k.cls, k.conditions, (by show (4 : Nat) < 1000; decide), ?_⟩⟩)
  refine db_cons (ds_fld (α := Option Int) 0 <| de_nonO <| de_var (i := 0) rfl ⟨_, _, _, rfl, k.cls, k.goal, (by show (5 : Nat) < 1000; decide), ?_⟩)
  exact db_one (ds_fld 0 <| de_ndict (A := (inferInstance : Enc Int)) fun ka => de_var (i := 0) rfl ⟨_, _, _, rfl, k.cls, k.known, (by show (6 : Nat) < 1000; decide), ⟨(), fun _ _ _ => rfl, q ⟨b, dx, la, na, ra, wa, ca, ka⟩ rfl⟩⟩)
/-- the node is there, or it is added -/
def PlR (P : Program) (w : World) (C : Addr) (nr : Nd → List St2 → List St2 → St2 → Prop) (A : BAd) (S : Bst) (x : Nd) (Q : Int → List Cell → Prop) : Prop :=
  (∃ i : Nat, S.N[i]? = some x ∧ Q (i : Int) (bldM P w C A S)) ∨ (x ∉ S.N ∧ ∃ wt y, WtN S.W x wt ∧ wt ≤ 40 ∧ nr x S.R (boxL S.L) y ∧ Q (S.N.length : Int) (bldM P w C A (S.add x wt y)))
def phPlace (P : Program) (w : World) (C : Addr) (nr : Nd → List St2 → List St2 → St2 → Prop) : Pm Int := fun as μ Q => ∃ (A : BAd) (S : Bst) (x : Nd), as = [sl (Ref.mk A.b), sl x] ∧ μ = bldM P w C A S ∧ S.Ok ∧ PlR P w C nr A S x Q
theorem c_place {nr : Nd → List St2 → List St2 → St2 → Prop} (D : DfnM K C "_place" "Builder._place" s_Builder_place ["self", "node"]) (hle : mg "len" = none) (k : BldK K C) (cw : Cal P w K mg base "node_weight" 1 ["node", "found"] phWeight) {kr : Nat} (hkr : kr ≤ 20)
    (cr : Cal P w K mg base "node_range" kr ["node", "found", "box"] (phRange nr)) : MetD P w K mg base C "_place" 21 ["self", "node"] (phPlace P w C nr) := by
  refine D.met sc_Builder_place (fun as μ Q h => ?_) fun f cdv A' outer s H E hr as μ Pd h => ?_
  · obtain ⟨_, _, _, rfl, _⟩ := h; rfl
  obtain ⟨A, S, x, rfl, rfl, ok, q⟩ := h
  obtain ⟨uw, hw⟩ := k.mw
  have n5 := ok.n
  have e1 := ok.r
  have e2 := ok.w
  have e3 := ok.l
  rcases q with ⟨i, hi, q⟩ | ⟨hx, wt, y, hwt, hw40, hnr, q⟩
  · have hv := knw_get ok.nd hi
    refine db_cons (ds_if <| dt_nin (α := Int) (un_of hr) 6 <| de_ndK <| de_var (i := 1) rfl <| de_fld 0 <| de_var (i := 0) rfl ⟨_, _, _, _, rfl, rfl, k.cls, k.known, knw S.N, rfl, ?_⟩)
    rw [hv]
    refine ⟨fun _ => ?_, fun z => (nomatch z)⟩
    exact db_one (ds_ret <| de_nget (α := Int) (un_of hr) 6 <| de_fld 0 <| de_var (i := 0) rfl ⟨_, _, _, _, rfl, rfl, k.cls, k.known, de_ndK <| de_var (i := 1) rfl ⟨knw S.N, (i : Int), rfl, hv, q⟩⟩)
  have hv := knw_none hx
  refine db_cons (ds_if <| dt_nin (α := Int) (un_of hr) 6 <| de_ndK <| de_var (i := 1) rfl <| de_fld 0 <| de_var (i := 0) rfl ⟨_, _, _, _, rfl, rfl, k.cls, k.known, knw S.N, rfl, ?_⟩)
  rw [hv]
  refine ⟨fun z => (nomatch z), fun _ => db_nil ?_⟩
  refine db_cons (ds_set (i := 2) sc_Builder_place.nd <| de_c1M cw hr (by decide) <| da_cons <| de_var (i := 1) rfl <| da_cons <| de_fld 0 <| de_var (i := 0) rfl ⟨_, _, _, _, rfl, rfl, k.cls, k.weights, da_nil ⟨(bldM P w C A S).take 4, [lst A.w S.W], (bldM P w C A S).drop 5, rfl, x, wt, A.w, S.W, rfl, rfl, hwt, ?_⟩⟩)
  refine db_cons (ds_if <| dt_gt <| de_var (i := 2) rfl <| de_con 0 <| de_var (i := 0) rfl ⟨_, _, _, uw, rfl, rfl, k.cls, hw, ⟨fun h1 => absurd (of_decide_eq_true h1) (by omega), fun _ => db_nil ?_⟩⟩)
  refine db_cons (ds_lcC (own := [("row", 3)]) (α := L4) (β := St2) (i := 4) rfl sc_Builder_place.nd (blkOk_by (N := ["self", "node", "weight", "row", "box"]) (sc := defScope s_Builder_place) (by decide +kernel)) (fun (x : L4) δ => δ.set 3 (sl x)) (fun _ _ _ _ _ => pg_name (i := 3) sc_Builder_place.nd rfl (Or.inl rfl)) (fun x => wb_name) (by decide)
    (de_fld 0 <| de_var (i := 0) rfl ⟨_, _, _, _, rfl, rfl, k.cls, k.letters, ⟨1, S.L, rfl, fun i ys => ys = (S.L.take i).map fun r => (r.x2, r.x3), rfl, fun i x ys hx hJ => ?_, fun ys hJ => ?_⟩⟩) (by rfl))
  · subst hJ
    intro s' H C' cl' fp
    refine de_tup2 <| de_t42 <| de_var (i := 3) rfl <| de_t43 <| de_var (i := 3) rfl ⟨?_, rfl, (take_snoc hx).symm⟩
    rw [List.length_map, List.length_take]; omega
  have hJ : ys = (S.L.take S.L.length).map fun r => (r.x2, r.x3) := hJ
  rw [List.take_length] at hJ
  have hJ : ys = boxL S.L := hJ
  subst hJ
  refine db_cons (ds_expr (de_append (α := St2) 3 <| de_fld 0 <| de_var (i := 0) rfl ⟨_, _, _, _, rfl, rfl, k.cls, k.ranges, ⟨S.R, rfl⟩, de_c1M cr hr hkr <| da_cons <| de_var (i := 1) rfl <| da_cons <| de_fld 0 <| de_var (i := 0) rfl ⟨_, _, _, _, rfl, rfl, k.cls, k.ranges, da_cons <| de_var (i := 4) rfl <| da_nil ⟨(bldM P w C A S).take 3, [lst A.r S.R], (bldM P w C A S).drop 4, rfl, x, y, A.r, S.R, boxL S.L, rfl, rfl, hnr, S.R, rfl, (by omega), ?_⟩⟩⟩))
  refine db_cons (ds_expr (de_append (α := Int) 4 <| de_fld 0 <| de_var (i := 0) rfl ⟨_, _, _, _, rfl, rfl, k.cls, k.weights, ⟨S.W, rfl⟩, de_var (i := 2) rfl ⟨S.W, rfl, (by omega), ?_⟩⟩))
  refine db_cons (ds_expr (de_append (α := Nd) 2 <| de_fld 0 <| de_var (i := 0) rfl ⟨_, _, _, _, rfl, rfl, k.cls, k.nodes, ⟨S.N, rfl⟩, de_var (i := 1) rfl ⟨S.N, rfl, (by omega), ?_⟩⟩))
  have hl1 : (((S.N ++ [x]).length : Nat) : Int) - 1 = (S.N.length : Int) := by rw [List.length_append]; simp
  refine db_cons (ds_nput (α := Int) (un_of hr) 6 <| de_sub <| de_lenC (α := Nd) 2 hle <| de_fld 0 <| de_var (i := 0) rfl ⟨_, _, _, _, rfl, rfl, k.cls, k.nodes, S.N ++ [x], rfl, de_int <| de_fld 0 <| de_var (i := 0) rfl ⟨_, _, _, _, rfl, rfl, k.cls, k.known, de_ndK <| de_var (i := 1) rfl ⟨knw S.N, rfl, hv, (by rw [knw_len]; omega), ?_⟩⟩⟩)
  refine db_one (ds_ret <| de_sub <| de_lenC (α := Nd) 2 hle <| de_fld 0 <| de_var (i := 0) rfl ⟨_, _, _, _, rfl, rfl, k.cls, k.nodes, S.N ++ [x], rfl, de_int ?_⟩)
  rw [hl1, ← knw_snoc]
  exact q
def phNumber (P : Program) (w : World) (C : Addr) (nr : Nd → List St2 → List St2 → St2 → Prop) : Pm Int := fun as μ Q => ∃ (A : BAd) (S : Bst) (v : Q2), as = [sl (Ref.mk A.b), sl v] ∧ μ = bldM P w C A S ∧ S.Ok ∧ longQ v = false ∧ PlR P w C nr A S (.num v) Q
theorem c_number {nr : Nd → List St2 → List St2 → St2 → Prop} (D : DfnM K C "number" "Builder.number" s_Builder_number ["self", "value"]) (k : BldK K C) (cl : Cal P w K mg base "too_long" 1 ["value"] phLong)
    (cp : MetD P w K mg base C "_place" 21 ["self", "node"] (phPlace P w C nr)) : MetD P w K mg base C "number" 22 ["self", "value"] (phNumber P w C nr) := by
  refine D.met sc_Builder_number (fun as μ Q h => ?_) fun f cdv A' outer s H E hr as μ Pd h => ?_
  · obtain ⟨_, _, _, rfl, _⟩ := h; rfl
  obtain ⟨A, S, v, rfl, rfl, ok, hv, q⟩ := h
  refine db_cons (ds_if <| dt_val <| de_c1 cl hr (by decide) <| da_cons <| de_var (i := 1) rfl <| da_nil ⟨[], _, parts_none, v, rfl, ⟨fun h1 => (by rw [hv] at h1; cases h1), fun _ => db_nil ?_⟩⟩)
  exact db_one (ds_ret <| de_mt cp hr (by decide) <| de_var (i := 0) rfl ⟨⟨0, A.dx, _, rfl, rfl⟩, da_cons <| de_asNdQ <| de_tup2 <| de_str <| de_var (i := 1) rfl ⟨rfl, da_nil ⟨_, _, parts_all, A, S, _, rfl, rfl, ok, by simpa only [List.append_nil] using q⟩⟩⟩)
def phLeastB (P : Program) (w : World) (C : Addr) : Pm Unit := fun as μ Q => ∃ (A : BAd) (S : Bst) (i : Nat), as = [sl (Ref.mk A.b), sl (i : Int)] ∧ μ = bldM P w C A S ∧ Q () (bldM P w C A { S with G := some i })
theorem c_bleast (D : DfnM K C "least" "Builder.least" s_Builder_least ["self", "node"]) (k : BldK K C) : MetD P w K mg base C "least" 1 ["self", "node"] (phLeastB P w C) := by
  refine D.met sc_Builder_least (fun as μ Q h => ?_) fun f cdv A' outer s H E hr as μ Pd h => ?_
  · obtain ⟨_, _, _, rfl, _⟩ := h; rfl
  obtain ⟨A, S, i, rfl, rfl, q⟩ := h
  exact db_one (ds_fld (α := Option Int) 0 <| de_some <| de_var (i := 1) rfl <| de_var (i := 0) rfl ⟨_, _, _, rfl, k.cls, k.goal, (by show (7 : Nat) < 1000; decide), ⟨(), fun _ _ _ => rfl, q⟩⟩)
/-- the ends of a new letter -/
def endQ (wk : Bool) (lo hi : Rat) : Rat × Rat := if wk then (((ceQ lo : Int) : Rat), ((flQ hi : Int) : Rat)) else (lo, hi)
def phLetter (P : Program) (w : World) (C : Addr) (nr : Nd → List St2 → List St2 → St2 → Prop) : Pm Int := fun as μ Q => ∃ (A : BAd) (S : Bst) (z : Str) (wk : Bool) (lo hi : Rat) (Z : Nat), as = [sl (Ref.mk A.b), sl z, sl (kS wk), sl (can lo), sl (can hi)] ∧ μ = bldM P w C A S ∧
  (S.Ok ∧ NameOk z ∧ z ∉ S.L.map T4.x0 ∧ Nm Z (can lo) ∧ Nm Z (can hi) ∧ 1 ≤ Z ∧ Z ≤ 8000 ∧ lo ≤ hi ∧ (endQ wk lo hi).1 ≤ (endQ wk lo hi).2 ∧ longQ (can (endQ wk lo hi).1) = false ∧ longQ (can (endQ wk lo hi).2) = false ∧ S.L.length < 6) ∧
  PlR P w C nr A (S.addL ⟨z, kS wk, can (endQ wk lo hi).1, can (endQ wk lo hi).2⟩) (.letter S.L.length) Q
theorem c_letter {nr : Nd → List St2 → List St2 → St2 → Prop} (D : DfnM K C "letter" "Builder.letter" s_Builder_letter ["self", "name", "kind", "low", "high"]) (hle : mg "len" = none) (k : BldK K C) (cn : Cal P w K mg base "valid_name" 1 ["name"] phName) (cu : cUpto P w K mg base)
    (cce : Cal P w K mg base "ceil" 1 ["one"] phCeil) (cfl : Cal P w K mg base "floor" 1 ["one"] phFloor) (cl : Cal P w K mg base "too_long" 1 ["value"] phLong)
    (cp : MetD P w K mg base C "_place" 21 ["self", "node"] (phPlace P w C nr)) : MetD P w K mg base C "letter" 22 ["self", "name", "kind", "low", "high"] (phLetter P w C nr) := by
  refine D.met sc_Builder_letter (fun as μ Q h => ?_) fun f cdv A' outer s H E hr as μ Pd h => ?_
  · obtain ⟨_, _, _, _, _, _, _, rfl, _⟩ := h; rfl
  obtain ⟨A, S, z, wk, lo, hi, Z, rfl, rfl, ⟨ok, hz, hnew, zl, zh, hZ1, hZ, hle1, hle2, hg1, hg2, h6⟩, q⟩ := h
  obtain ⟨ul, hul⟩ := k.ml
  refine db_cons (ds_if (dw_or <| dt_not <| dt_val <| de_c1 cn hr (by decide) <| da_cons <| de_var (i := 1) rfl <| da_nil ⟨[], _, parts_none, z, rfl, hz, ⟨fun h1 => (nomatch h1), fun _ => dw_or1 <| dt_inL (α := Str) <| de_var (i := 1) rfl <| de_lcC (own := [("row", 5)]) (α := L4) (β := Str) rfl sc_Builder_letter.nd (blkOk_by (N := ["self", "name", "kind", "low", "high", "row"]) (sc := defScope s_Builder_letter) (by decide +kernel)) (fun (x : L4) δ => δ.set 5 (sl x)) (fun _ _ _ _ _ => pg_name (i := 5) sc_Builder_letter.nd rfl (Or.inl rfl)) (fun x => wb_name) (by decide)
    (de_fld 0 <| de_var (i := 0) rfl ⟨_, _, _, _, rfl, rfl, k.cls, k.letters, ⟨1, S.L, rfl, fun i ys => ys = (S.L.take i).map T4.x0, rfl, fun i x ys hx hJ => ?_, fun ys hJ => ?_⟩⟩)⟩⟩).dt)
  · subst hJ
    intro s' H C' cl' fp
    refine de_t40 <| de_var (i := 5) rfl ⟨?_, rfl, (take_snoc hx).symm⟩
    have := ok.l
    rw [List.length_map, List.length_take]; omega
  have hJ : ys = (S.L.take S.L.length).map T4.x0 := hJ
  rw [List.take_length] at hJ
  subst hJ
  refine ⟨fun h1 => absurd (of_decide_eq_true h1) hnew, fun _ => db_nil ?_⟩
  refine db_cons (ds_if <| dt_not <| dt_val <| de_c1 cu hr (by decide) <| da_cons <| de_var (i := 3) rfl <| da_cons <| de_var (i := 4) rfl <| da_nil ⟨[], _, parts_none, can lo, can hi, _, _, rfl, qv_can _, qv_can _, okC_b zl zh (by omega), ⟨fun h1 => ?_, fun _ => db_nil ?_⟩⟩)
  · have h1 : (!decide (lo ≤ hi)) = true := h1
    rw [decide_eq_true hle1] at h1; cases h1
  refine db_cons (DS.mid (fun δ' μ' => δ' = [sl (Ref.mk A.b), sl z, sl (kS wk), sl (can (endQ wk lo hi).1), sl (can (endQ wk lo hi).2), .any] ∧ μ' = bldM P w C A S) ?_ ?_)
  · refine ds_if <| dt_eqS (un_of hr) <| de_var (i := 2) rfl <| de_str ⟨⟨kS_ok wk, ok_whole⟩, ?_⟩
    rw [kS_eq]
    refine ⟨fun h => ?_, fun h => db_nil ?_⟩
    · subst h
      refine db_cons (ds_set (α := Q2) (A := inferInstance) (i := 3) sc_Builder_letter.nd <| de_tup2 (α := Int) (β := Int) <| de_c1 cce hr (by decide) <| da_cons <| de_var (i := 3) rfl <| da_nil ⟨[], _, parts_none, _, _, rfl, ⟨zl, by omega⟩, de_int ?_⟩)
      refine db_cons (ds_set (α := Q2) (A := inferInstance) (i := 4) sc_Builder_letter.nd <| de_tup2 (α := Int) (β := Int) <| de_c1 cfl hr (by decide) <| da_cons <| de_var (i := 4) rfl <| da_nil ⟨[], _, parts_none, _, _, rfl, ⟨zh, by omega⟩, de_int ?_⟩)
      refine db_one (ds_if <| dt_not <| dt_val <| de_c1 cu hr (by decide) <| da_cons <| de_var (i := 3) rfl <| da_cons <| de_var (i := 4) rfl <| da_nil ⟨[], _, parts_none, can ((ceQ lo : Int) : Rat), can ((flQ hi : Int) : Rat), _, _, rfl, qv_can _, qv_can _, okC_b (nm_ce zl hZ1) (nm_fl zh hZ1) (by omega), ⟨fun h1 => ?_, fun _ => db_nil ⟨rfl, rfl⟩⟩⟩)
      have h1 : (!decide (((ceQ lo : Int) : Rat) ≤ ((flQ hi : Int) : Rat))) = true := h1
      rw [decide_eq_true (show ((ceQ lo : Int) : Rat) ≤ ((flQ hi : Int) : Rat) from hle2)] at h1; cases h1
    · subst h; exact ⟨rfl, rfl⟩
  rintro δ' μ' ⟨rfl, rfl⟩
  refine db_cons (ds_if (dw_or <| dt_val <| de_c1 cl hr (by decide) <| da_cons <| de_var (i := 3) rfl <| da_nil ⟨[], _, parts_none, _, rfl, ⟨fun h1 => (by rw [hg1] at h1; cases h1), fun _ => dw_or1 <| dt_val <| de_c1 cl hr (by decide) <| da_cons <| de_var (i := 4) rfl <| da_nil ⟨[], _, parts_none, _, rfl, ⟨fun h1 => (by rw [hg2] at h1; cases h1), fun _ => db_nil ?_⟩⟩⟩⟩).dt)
  refine db_cons (ds_if <| dt_ge <| de_lenC (α := L4) 1 hle <| de_fld 0 <| de_var (i := 0) rfl ⟨_, _, _, _, rfl, rfl, k.cls, k.letters, S.L, rfl, de_con 0 <| de_var (i := 0) rfl ⟨_, _, _, ul, rfl, rfl, k.cls, hul, ⟨fun h1 => absurd (of_decide_eq_true h1) (by omega), fun _ => db_nil ?_⟩⟩⟩)
  refine db_cons (ds_expr (de_append (α := L4) 1 <| de_fld 0 <| de_var (i := 0) rfl ⟨_, _, _, _, rfl, rfl, k.cls, k.letters, ⟨S.L, rfl⟩, de_tup4 <| de_var (i := 1) rfl <| de_var (i := 2) rfl <| de_var (i := 3) rfl <| de_var (i := 4) rfl ⟨S.L, rfl, (by omega), ?_⟩⟩))
  have hl1 : (((S.L ++ [⟨z, kS wk, can (endQ wk lo hi).1, can (endQ wk lo hi).2⟩] : List L4).length : Nat) : Int) - 1 = (S.L.length : Int) := by rw [List.length_append]; simp
  exact db_one (ds_ret <| de_mt cp hr (by decide) <| de_var (i := 0) rfl ⟨⟨0, A.dx, _, rfl, rfl⟩, da_cons <| de_asNd2 <| de_tup2 <| de_str <| de_sub <| de_lenC (α := L4) 1 hle <| de_fld 0 <| de_var (i := 0) rfl ⟨_, _, _, _, rfl, rfl, k.cls, k.letters, _, rfl, de_int ⟨.letter S.L.length, (by show _ = [Elt.s "letter", Elt.i _]; rw [hl1]; rfl), da_nil ⟨_, _, parts_all, A, S.addL ⟨z, kS wk, can (endQ wk lo hi).1, can (endQ wk lo hi).2⟩, _, rfl, rfl, ⟨ok.nd, ok.n, ok.r, ok.w, (by show (S.L ++ [_]).length ≤ 6; rw [List.length_append]; exact h6), ok.c⟩, by simpa only [List.append_nil] using q⟩⟩⟩⟩)
end
end K17
namespace K17
open PySem PySem.Spec PyProof.Rows L2 Dl
/-! ### the order of a problem's nodes: plain -/
def argsT : Nd → List Nat
  | .abs i => [i]
  | .pow i _ => [i]
  | .op _ i j => [i, j]
  | _ => []
theorem argsN_eq (n : Nd) : argsN n = nI (argsT n) := by cases n <;> rfl
theorem nI_snoc {l : List Nat} {x : Nat} : nI (l ++ [x]) = nI l ++ [(x : Int)] := by unfold nI; rw [List.map_append]; rfl
theorem nI_len {l : List Nat} : (nI l).length = l.length := List.length_map _
theorem nI_get {l : List Nat} {k : Nat} {y : Int} (h : (nI l)[k]? = some y) : ∃ i : Nat, l[k]? = some i ∧ y = (i : Int) := by
  unfold nI at h
  rw [List.getElem?_map] at h
  cases e : l[k]? with
  | none => rw [e] at h; cases h
  | some i => rw [e] at h; cases h; exact ⟨i, rfl, rfl⟩
theorem nI_at {l : List Nat} {k i : Nat} (h : l[k]? = some i) : (nI l)[k]? = some (i : Int) := by unfold nI; rw [List.getElem?_map, h]; rfl
structure OrdI (S : Bst) (o : List Nat) : Prop where
  nd : o.Nodup
  lt : ∀ x ∈ o, x < S.N.length
  lets : ∀ k : Nat, k < S.L.length → ∃ i : Nat, o[k]? = some i ∧ S.N[i]? = some (.letter k)
  args : ∀ (k i : Nat) (n : Nd), o[k]? = some i → S.N[i]? = some n → ∀ a ∈ argsT n, ∃ j : Nat, j < k ∧ o[j]? = some a
/-- what the builder keeps: arguments stand ahead of their nodes, letters are there -/
structure Bst.Wf (S : Bst) : Prop where
  ok : S.Ok
  args : ∀ (i : Nat) (n : Nd), S.N[i]? = some n → ∀ a ∈ argsT n, a < i
  lets : ∀ k, k < S.L.length → Nd.letter k ∈ S.N
  conds : ∀ c ∈ S.C, c < S.N.length
structure StI (S : Bst) (o st : List Nat) (root : Nat) : Prop where
  pw : st.Pairwise (· > ·)
  lt : ∀ x ∈ st, x < S.N.length
  tl : ∀ x ∈ st.tail, x ∉ o
  hd : st = [] → root ∈ o
  hd2 : ∀ x, st.head? = some x → x = root
def msO (S : Bst) (o st : List Nat) : Nat := (S.N.length - o.length) * (S.N.length + 2) + (match st.getLast? with | some t => t + 1 | none => 0)
theorem ms_snoc {S : Bst} {o ini : List Nat} {t : Nat} : msO S o (ini ++ [t]) = (S.N.length - o.length) * (S.N.length + 2) + (t + 1) := by unfold msO; rw [List.getLast?_append]; rfl
theorem ms_nil {S : Bst} {o : List Nat} : msO S o [] = (S.N.length - o.length) * (S.N.length + 2) := rfl
theorem ms_le {S : Bst} {o st : List Nat} {root : Nat} (h : StI S o st root) : msO S o st ≤ (S.N.length - o.length) * (S.N.length + 2) + (S.N.length + 1) := by
  rcases List.eq_nil_or_concat st with rfl | ⟨ini, t, rfl⟩
  · rw [ms_nil]; omega
  · rw [List.concat_eq_append] at h ⊢
    rw [ms_snoc]
    have := h.lt t (by simp)
    omega
theorem StI.start {S : Bst} {o : List Nat} {root : Nat} (h : root < S.N.length) : StI S o [root] root :=
  ⟨by simp, fun x hx => by rw [List.mem_singleton.mp hx]; exact h, fun x hx => by simp at hx, fun e => by simp at e, fun x hx => by simpa using hx.symm⟩
theorem StI.push {S : Bst} {o ini : List Nat} {t y root : Nat} (h : StI S o (ini ++ [t]) root) (hy : y < t) (hn : y ∉ o) : StI S o (ini ++ [t] ++ [y]) root ∧ msO S o (ini ++ [t] ++ [y]) < msO S o (ini ++ [t]) := by
  have ht : ∀ x ∈ ini ++ [t], t ≤ x := fun x hx => by
    rcases List.mem_append.mp hx with hx | hx
    · exact Nat.le_of_lt ((List.pairwise_append.mp h.pw).2.2 x hx t (by simp))
    · rw [List.mem_singleton.mp hx]; exact Nat.le_refl _
  refine ⟨⟨List.pairwise_append.mpr ⟨h.pw, List.pairwise_singleton _ _, fun x hx z hz => ?_⟩, fun x hx => ?_, fun x hx => ?_, fun e => by simp at e, fun x hx => h.hd2 x ?_⟩, ?_⟩
  · rw [List.mem_singleton.mp hz]; exact Nat.lt_of_lt_of_le hy (ht x hx)
  · rcases List.mem_append.mp hx with hx | hx
    · exact h.lt x hx
    · rw [List.mem_singleton.mp hx]; exact Nat.lt_trans hy (h.lt t (by simp))
  · rw [List.tail_append_of_ne_nil (by simp)] at hx
    rcases List.mem_append.mp hx with hx | hx
    · exact h.tl x hx
    · rw [List.mem_singleton.mp hx]; exact hn
  · cases ini with
    | nil => simpa using hx
    | cons a r => simpa using hx
  · rw [ms_snoc, ms_snoc]; omega
theorem StI.pop {S : Bst} {o ini : List Nat} {t root : Nat} (h : StI S o (ini ++ [t]) root) (ht : t ∈ o) : StI S o ini root ∧ msO S o ini < msO S o (ini ++ [t]) := by
  cases ini with
  | nil =>
    refine ⟨⟨List.Pairwise.nil, fun x hx => (nomatch hx), fun x hx => (nomatch hx), fun _ => ?_, fun x hx => (nomatch hx)⟩, ?_⟩
    · rw [← h.hd2 t rfl]; exact ht
    · rw [ms_snoc, ms_nil]; omega
  | cons a r => exact absurd ht (h.tl t (by simp))
theorem OrdI.len {S : Bst} {o : List Nat} (h : OrdI S o) : o.length ≤ S.N.length := by
  have := h.nd.length_le_of_subset (l₂ := List.range S.N.length) fun x hx => List.mem_range.mpr (h.lt x hx)
  rwa [List.length_range] at this
theorem OrdI.snoc {S : Bst} {o : List Nat} {t : Nat} (h : OrdI S o) (hn : t ∉ o) (hl : t < S.N.length) (ha : ∀ n, S.N[t]? = some n → ∀ a ∈ argsT n, a ∈ o) : OrdI S (o ++ [t]) := by
  refine ⟨List.nodup_append.mpr ⟨h.nd, by simp, fun x hx y hy => ?_⟩, fun x hx => ?_, fun k hk => ?_, fun k i n hi hn' a ham => ?_⟩
  · rw [List.mem_singleton.mp hy]; exact fun e => hn (e ▸ hx)
  · rcases List.mem_append.mp hx with hx | hx
    · exact h.lt x hx
    · rw [List.mem_singleton.mp hx]; exact hl
  · obtain ⟨i, e1, e2⟩ := h.lets k hk
    exact ⟨i, by rw [List.getElem?_append_left (List.getElem?_eq_some_iff.mp e1).1]; exact e1, e2⟩
  · by_cases hk : k < o.length
    · rw [List.getElem?_append_left hk] at hi
      obtain ⟨j, hj, e⟩ := h.args k i n hi hn' a ham
      exact ⟨j, hj, by rw [List.getElem?_append_left (by omega)]; exact e⟩
    · rw [List.getElem?_append_right (by omega)] at hi
      have hk0 : k - o.length = 0 := by
        rcases Nat.eq_zero_or_pos (k - o.length) with e | e
        · exact e
        · rw [List.getElem?_eq_none (by simp; omega)] at hi; cases hi
      rw [hk0] at hi
      have : t = i := by simpa using hi
      subst this
      obtain ⟨j, hj⟩ := List.mem_iff_getElem?.mp (ha n hn' a ham)
      have := (List.getElem?_eq_some_iff.mp hj).1
      exact ⟨j, by omega, by rw [List.getElem?_append_left this]; exact hj⟩
theorem StI.popd {S : Bst} {o ini : List Nat} {t root : Nat} (h : StI S o (ini ++ [t]) root) (ho : OrdI S (o ++ [t])) (ht : t ∉ o) : StI S (o ++ [t]) ini root ∧ msO S (o ++ [t]) ini < msO S o (ini ++ [t]) := by
  have gt : ∀ x ∈ ini, x > t := fun x hx => (List.pairwise_append.mp h.pw).2.2 x hx t (by simp)
  have hs : StI S (o ++ [t]) ini root := by
    refine ⟨(List.pairwise_append.mp h.pw).1, fun x hx => h.lt x (List.mem_append_left _ hx), fun x hx hm => ?_, fun e => ?_, fun x hx => h.hd2 x ?_⟩
    · rcases List.mem_append.mp hm with hm | hm
      · cases ini with
        | nil => cases hx
        | cons a r => exact h.tl x (List.mem_append_left _ hx) hm
      · have := gt x (List.mem_of_mem_tail hx)
        rw [List.mem_singleton.mp hm] at this
        omega
    · subst e
      rw [← h.hd2 t rfl]; simp
    · cases ini with
      | nil => cases hx
      | cons a r => exact hx
  refine ⟨hs, ?_⟩
  have h1 := ms_le hs
  have h2 := ho.len
  rw [List.length_append, List.length_singleton] at h1 h2
  rw [ms_snoc]
  obtain ⟨d, hd⟩ : ∃ d, S.N.length - o.length = d + 1 := ⟨S.N.length - o.length - 1, by omega⟩
  rw [hd, Nat.add_mul, Nat.one_mul]
  rw [show S.N.length - (o.length + 1) = d by omega] at h1
  omega
/-- the letters first -/
structure OrdL (S : Bst) (k : Nat) (o : List Nat) : Prop where
  len : o.length = k
  nd : o.Nodup
  at_ : ∀ j : Nat, j < k → ∃ i : Nat, o[j]? = some i ∧ S.N[i]? = some (.letter j)
theorem OrdL.snoc {S : Bst} {k i : Nat} {o : List Nat} (h : OrdL S k o) (hi : S.N[i]? = some (.letter k)) : OrdL S (k + 1) (o ++ [i]) := by
  refine ⟨by rw [List.length_append, h.len]; rfl, List.nodup_append.mpr ⟨h.nd, by simp, fun x hx y hy => ?_⟩, fun j hj => ?_⟩
  · rw [List.mem_singleton.mp hy]
    intro e
    obtain ⟨j, hj⟩ := List.mem_iff_getElem?.mp hx
    have hj' := (List.getElem?_eq_some_iff.mp hj).1
    rw [h.len] at hj'
    obtain ⟨i', e1, e2⟩ := h.at_ j hj'
    rw [hj] at e1
    cases e1
    rw [e, hi] at e2
    cases e2
    omega
  · by_cases e : j < k
    · obtain ⟨i', e1, e2⟩ := h.at_ j e
      exact ⟨i', by rw [List.getElem?_append_left (by rw [h.len]; exact e)]; exact e1, e2⟩
    · have : j = k := by omega
      subst this
      exact ⟨i, by rw [List.getElem?_append_right (by rw [h.len]; exact Nat.le_refl _), h.len, Nat.sub_self]; rfl, hi⟩
theorem OrdL.ord {S : Bst} {o : List Nat} (h : OrdL S S.L.length o) : OrdI S o := by
  refine ⟨h.nd, fun x hx => ?_, h.at_, fun k i n hi hn a ha => ?_⟩
  · obtain ⟨j, hj⟩ := List.mem_iff_getElem?.mp hx
    have hj' := (List.getElem?_eq_some_iff.mp hj).1
    rw [h.len] at hj'
    obtain ⟨i', e1, e2⟩ := h.at_ j hj'
    rw [hj] at e1
    cases e1
    exact (List.getElem?_eq_some_iff.mp e2).1
  · have hj' := (List.getElem?_eq_some_iff.mp hi).1
    rw [h.len] at hj'
    obtain ⟨i', e1, e2⟩ := h.at_ k hj'
    rw [hi] at e1
    cases e1
    rw [hn] at e2
    cases e2
    cases ha
/-- what is done, as the dict -/
def dnO (o : List Nat) : IKv Bool := o.map fun (i : Nat) => ((i : Int), true)
theorem dnO_in {i : Nat} : ∀ {o : List Nat}, (valI (dnO o) (i : Int)).isSome = decide (i ∈ o)
  | [] => by simp [dnO, valI]
  | y :: o => by
    have ih := dnO_in (i := i) (o := o)
    show (valI (((y : Int), true) :: dnO o) (i : Int)).isSome = _
    by_cases e : y = i
    · rw [valI_pos (by show (y : Int) = i; rw [e])]; simp [e]
    · rw [valI_neg (by show ¬ (y : Int) = i; omega), ih]; simp [Ne.symm e]
theorem dnO_put {i : Nat} {o : List Nat} (h : i ∉ o) : putI (dnO o) (i : Int) true = dnO (o ++ [i]) := by
  unfold putI
  rw [if_neg]
  · unfold dnO; rw [List.map_append]; rfl
  · intro z
    obtain ⟨p, hp, e⟩ := List.any_eq_true.mp z
    unfold dnO at hp
    obtain ⟨y, hy, rfl⟩ := List.mem_map.mp hp
    have e : (y : Int) = i := of_decide_eq_true e
    exact h (by rw [← show y = i by omega]; exact hy)
theorem dnO_len {o : List Nat} : (dnO o).length = o.length := List.length_map _
/-- the place of a number in a list -/
def plI : List Nat → Nat → Nat
  | [], _ => 0
  | y :: l, x => if y = x then 0 else plI l x + 1
theorem plI_get {x : Nat} : ∀ {l : List Nat}, x ∈ l → l[plI l x]? = some x
  | y :: l, h => by
    unfold plI
    by_cases e : y = x
    · rw [if_pos e, e]; rfl
    · rw [if_neg e, List.getElem?_cons_succ]
      rcases List.mem_cons.mp h with z | z
      · exact absurd z.symm e
      · exact plI_get z
def plcF (p : Nat × Nat) : Int × Int := ((p.1 : Int), (p.2 : Int))
def plc (o : List Nat) : IKv Int := o.zipIdx.map plcF
theorem plc_snoc {o : List Nat} {x : Nat} : plc (o ++ [x]) = plc o ++ [((x : Int), (o.length : Int))] := by
  unfold plc
  rw [List.zipIdx_append, List.map_append]
  simp [plcF]
theorem plc_len {o : List Nat} : (plc o).length = o.length := by unfold plc; simp
theorem plc_put {o : List Nat} {x : Nat} (h : x ∉ o) : putI (plc o) (x : Int) (o.length : Int) = plc (o ++ [x]) := by
  rw [plc_snoc]
  unfold putI
  rw [if_neg]
  intro z
  obtain ⟨p, hp, e⟩ := List.any_eq_true.mp z
  unfold plc at hp
  obtain ⟨y, hy, rfl⟩ := List.mem_map.mp hp
  have e : (y.1 : Int) = x := of_decide_eq_true e
  have hm : y.1 ∈ o := by
    have := List.mem_map_of_mem (f := Prod.fst) hy
    simpa using this
  exact h (by rw [← show y.1 = x by omega]; exact hm)
theorem plc_get' {x : Nat} : ∀ (o : List Nat) (m : Nat), x ∈ o → valI ((o.zipIdx m).map plcF) (x : Int) = some ((m + plI o x : Nat) : Int)
  | y :: o, m, h => by
    rw [List.zipIdx_cons, List.map_cons]
    unfold plI
    by_cases e : y = x
    · rw [valI_pos (by show (y : Int) = x; rw [e]), if_pos e]; rfl
    · rw [valI_neg (by show ¬ (y : Int) = x; omega), if_neg e]
      rcases List.mem_cons.mp h with z | z
      · exact absurd z.symm e
      · rw [plc_get' o (m + 1) z, show m + 1 + plI o x = m + (plI o x + 1) by omega]
theorem plc_get {o : List Nat} {x : Nat} (h : x ∈ o) : valI (plc o) (x : Int) = some ((plI o x : Nat) : Int) := by
  have := plc_get' o 0 h
  rwa [Nat.zero_add] at this
/-- the node over the places of an order -/
def mvO (o : List Nat) : Nd → Nd
  | .abs i => .abs (plI o i)
  | .pow i n => .pow (plI o i) n
  | .op k i j => .op k (plI o i) (plI o j)
  | x => x
theorem mvO_ok {o : List Nat} {n : Nd} (h : ∀ a ∈ argsT n, a ∈ o) : MvN (plc o) n (mvO o n) := by
  cases n with
  | letter k => rfl
  | num v => rfl
  | abs i => exact ⟨_, plc_get (h i (by simp [argsT])), rfl⟩
  | pow i n => exact ⟨_, plc_get (h i (by simp [argsT])), rfl⟩
  | op k i j => exact ⟨_, _, plc_get (h i (by simp [argsT])), plc_get (h j (by simp [argsT])), rfl⟩
theorem take_nodup_not {o : List Nat} {k i : Nat} (d : o.Nodup) (h : o[k]? = some i) : i ∉ o.take k := by
  intro hm
  obtain ⟨e, hk⟩ := List.getElem?_eq_some_iff.mp h
  have : o = o.take k ++ i :: o.drop (k + 1) := by
    rw [← hk, ← List.drop_eq_getElem_cons, List.take_append_drop]
  rw [this] at d
  exact (List.nodup_append.mp d).2.2 i hm i (by simp) rfl
end K17
namespace K17
open PySem PySem.Spec PyProof.Rows L2 Dl
/-! ### the exact order: depth first, from left to right -/
section
variable {A : Nat → List Nat}
theorem foldl_same {f g : List Nat → Nat → List Nat} : ∀ (l : List Nat) (o : List Nat), (∀ o, ∀ a ∈ l, f o a = g o a) → l.foldl f o = l.foldl g o
  | [], _, _ => rfl
  | a :: l, o, h => by
    rw [List.foldl_cons, List.foldl_cons, h o a (by simp)]
    exact foldl_same l _ fun o b hb => h o b (List.mem_cons_of_mem _ hb)
def dfsF (A : Nat → List Nat) : Nat → List Nat → Nat → List Nat
  | 0, o, _ => o
  | f + 1, o, t => if t ∈ o then o else (A t).foldl (dfsF A f) o ++ [t]
theorem dfsF_eq (hA : ∀ t, ∀ a ∈ A t, a < t) : ∀ t f g o, t < f → t < g → dfsF A f o t = dfsF A g o t := by
  intro t
  induction t using Nat.strongRecOn with
  | _ t ih =>
    intro f g o hf hg
    cases f with
    | zero => omega
    | succ f =>
      cases g with
      | zero => omega
      | succ g =>
        show (if t ∈ o then o else (A t).foldl (dfsF A f) o ++ [t]) = if t ∈ o then o else (A t).foldl (dfsF A g) o ++ [t]
        congr 2
        exact foldl_same _ _ fun o a ha => ih a (hA t a ha) f g o (by have := hA t a ha; omega) (by have := hA t a ha; omega)
def dfsO (A : Nat → List Nat) (o : List Nat) (t : Nat) : List Nat := dfsF A (t + 1) o t
theorem dfsO_eq (hA : ∀ t, ∀ a ∈ A t, a < t) (o : List Nat) (t : Nat) : dfsO A o t = if t ∈ o then o else (A t).foldl (dfsO A) o ++ [t] := by
  show (if t ∈ o then o else (A t).foldl (dfsF A t) o ++ [t]) = _
  congr 2
  exact foldl_same _ _ fun o a ha => dfsF_eq hA a t (a + 1) o (hA t a ha) (Nat.lt_succ_self a)
/-- old ones stay in front -/
theorem dfsF_pre : ∀ f o t, o <+: dfsF A f o t
  | 0, o, t => List.prefix_refl o
  | f + 1, o, t => by
    show o <+: if t ∈ o then o else (A t).foldl (dfsF A f) o ++ [t]
    split
    · exact List.prefix_refl o
    · have : ∀ (l : List Nat) (o : List Nat), o <+: l.foldl (dfsF A f) o := by
        intro l
        induction l with
        | nil => exact fun o => List.prefix_refl o
        | cons a l ih => exact fun o => (dfsF_pre f o a).trans (ih _)
      exact (this (A t) o).trans (List.prefix_append _ _)
theorem dfsO_pre {o : List Nat} {t : Nat} : o <+: dfsO A o t := dfsF_pre _ _ _
theorem dfsO_in (hA : ∀ t, ∀ a ∈ A t, a < t) {o : List Nat} {t : Nat} (h : t ∈ o) : dfsO A o t = o := by rw [dfsO_eq hA, if_pos h]
theorem dfsO_mem (hA : ∀ t, ∀ a ∈ A t, a < t) {o : List Nat} {t : Nat} : t ∈ dfsO A o t := by
  rw [dfsO_eq hA]
  split
  · assumption
  · simp
/-- new ones are not above t -/
theorem dfsO_new (hA : ∀ t, ∀ a ∈ A t, a < t) : ∀ t o x, x ∈ dfsO A o t → x ∈ o ∨ x ≤ t := by
  intro t
  induction t using Nat.strongRecOn with
  | _ t ih =>
    intro o x hx
    rw [dfsO_eq hA] at hx
    split at hx
    · exact .inl hx
    · rcases List.mem_append.mp hx with hx | hx
      · have : ∀ (l : List Nat) (o : List Nat), (∀ a ∈ l, a < t) → x ∈ l.foldl (dfsO A) o → x ∈ o ∨ x ≤ t := by
          intro l
          induction l with
          | nil => exact fun o _ h => .inl h
          | cons a l il =>
            intro o hl h
            rcases il _ (fun b hb => hl b (List.mem_cons_of_mem _ hb)) h with h | h
            · rcases ih a (hl a (by simp)) o x h with h | h
              · exact .inl h
              · exact .inr (Nat.le_trans h (Nat.le_of_lt (hl a (by simp))))
            · exact .inr h
        exact this _ _ (hA t) hx
      · exact .inr (Nat.le_of_eq (List.mem_singleton.mp hx))
theorem fold_in (hA : ∀ t, ∀ a ∈ A t, a < t) : ∀ (l : List Nat) (o : List Nat), (∀ a ∈ l, a ∈ o) → l.foldl (dfsO A) o = o
  | [], _, _ => rfl
  | a :: l, o, h => by
    rw [List.foldl_cons, dfsO_in hA (h a (by simp))]
    exact fold_in hA l o fun b hb => h b (List.mem_cons_of_mem _ hb)
/-- all arguments there: the node alone is added -/
theorem dfsO_leaf (hA : ∀ t, ∀ a ∈ A t, a < t) {o : List Nat} {t : Nat} (h : t ∉ o) (ha : ∀ a ∈ A t, a ∈ o) : dfsO A o t = o ++ [t] := by
  rw [dfsO_eq hA, if_neg h, fold_in hA _ _ ha]
/-- the first argument that is not there comes first -/
theorem dfsO_push (hA : ∀ t, ∀ a ∈ A t, a < t) {o l1 l2 : List Nat} {t y : Nat} (h : t ∉ o) (e : A t = l1 ++ y :: l2) (h1 : ∀ a ∈ l1, a ∈ o) : dfsO A (dfsO A o y) t = dfsO A o t := by
  have hy : y < t := hA t y (by rw [e]; simp)
  have h2 : t ∉ dfsO A o y := fun z => by
    rcases dfsO_new hA y o t z with z | z
    · exact h z
    · omega
  rw [dfsO_eq hA (dfsO A o y), if_neg h2, dfsO_eq hA o t, if_neg h, e, List.foldl_append, List.foldl_append, List.foldl_cons, List.foldl_cons, fold_in hA l1 o h1, fold_in hA l1 _ fun a ha => dfsO_pre.subset (h1 a ha), dfsO_in hA (dfsO_mem hA)]
/-- what a stack still brings: its last is worked at first -/
def finO (A : Nat → List Nat) (o st : List Nat) : List Nat := st.reverse.foldl (dfsO A) o
theorem finO_snoc {o ini : List Nat} {t : Nat} : finO A o (ini ++ [t]) = finO A (dfsO A o t) ini := by unfold finO; rw [List.reverse_append]; rfl
theorem finO_nil {o : List Nat} : finO A o [] = o := rfl
end
end K17
namespace K17
open PySem PySem.Spec PyProof.Rows L2 Dl
section
variable {P : Program} {w : World} {K : PySem.W.Frag} {mg : Str → Option Value} {base : Heap} {C : Addr}
/-! ### a problem out of a builder -/
theorem atI_last {l : List Int} {x : Int} : atI (l ++ [x]) (-1) = some x := by
  unfold atI
  rw [List.length_append, List.length_singleton, show ixN (l.length + 1) (-1) = some l.length by unfold ixN; rw [if_neg (by decide), if_pos (by omega)]; congr 1; omega]
  simp
theorem stk_len {S : Bst} {o st : List Nat} {root : Nat} (h : StI S o st root) (n5 : S.N.length ≤ 5000) : st.length < 10000 := by
  have d : st.Nodup := h.pw.imp fun {a b} z => (show a ≠ b by have : a > b := z; omega)
  have := d.length_le_of_subset (l₂ := List.range S.N.length) fun x hx => List.mem_range.mpr (h.lt x hx)
  rw [List.length_range] at this
  omega
/-- all orders that fit -/
def argsA (S : Bst) (t : Nat) : List Nat := match S.N[t]? with
  | some n => argsT n
  | none => []
theorem argsA_eq {S : Bst} {t : Nat} {n : Nd} (h : S.N[t]? = some n) : argsA S t = argsT n := by unfold argsA; rw [h]
theorem Bst.Wf.lt {S : Bst} (h : S.Wf) : ∀ t, ∀ a ∈ argsA S t, a < t := fun t a ha => by
  unfold argsA at ha
  cases e : S.N[t]? with
  | none => rw [e] at ha; cases ha
  | some n => rw [e] at ha; exact h.args t n e a ha
/-- where a node stands -/
def ndP : List Nd → Nd → Nat
  | [], _ => 0
  | y :: l, x => if y = x then 0 else ndP l x + 1
theorem ndP_get {x : Nd} : ∀ {l : List Nd}, x ∈ l → l[ndP l x]? = some x
  | y :: l, h => by
    unfold ndP
    by_cases e : y = x
    · rw [if_pos e, e]; rfl
    · rw [if_neg e, List.getElem?_cons_succ]
      rcases List.mem_cons.mp h with z | z
      · exact absurd z.symm e
      · exact ndP_get z
/-- the letters' nodes -/
def lts (S : Bst) (k : Nat) : List Nat := (List.range k).map fun i => ndP S.N (.letter i)
theorem lts_snoc {S : Bst} {k : Nat} : lts S (k + 1) = lts S k ++ [ndP S.N (.letter k)] := by unfold lts; rw [List.range_succ, List.map_append]; rfl
/-- the order, exactly -/
def ordX (S : Bst) (g : Nat) : List Nat := (S.C ++ [g]).foldl (dfsO (argsA S)) (lts S S.L.length)
def OrdQ (S : Bst) (g : Nat) (o : List Nat) : Prop := OrdI S o ∧ g ∈ o ∧ (∀ c ∈ S.C, c ∈ o) ∧ o = ordX S g
def phOrder (P : Program) (w : World) (C : Addr) : Pm (List Int) := fun as μ Q => ∃ (A : BAd) (S : Bst) (g : Nat), as = [sl (Ref.mk A.b)] ∧ μ = bldM P w C A S ∧ (S.Wf ∧ S.G = some g ∧ g < S.N.length) ∧ ∀ o, OrdQ S g o → Q (nI o) (bldM P w C A S)
theorem c_order (D : DfnM K C "_order" "Builder._order" s_Builder_order ["self"]) (hle : mg "len" = none) (hra : mg "range" = none) (k : BldK K C) (ca : Cal P w K mg base "arguments" 1 ["node"] phArgs) : MetD P w K mg base C "_order" 2 ["self"] (phOrder P w C) := by
  refine D.met sc_Builder_order (fun as μ Q h => ?_) fun f cdv A' outer s H E hr as μ Pd h => ?_
  · obtain ⟨_, _, _, rfl, _⟩ := h; rfl
  obtain ⟨A, S, g, rfl, rfl, ⟨wf, hg, hgl⟩, q⟩ := h
  have ok := wf.ok
  have n5 := ok.n
  have l6 := ok.l
  have c12 := ok.c
  refine db_cons (ds_lcRN (own := [("k", 1)]) (i0 := 1) (i := 2) (β := Int) rfl sc_Builder_order.nd (blkOk_by (N := ["self", "k", "order", "at", "done", "root_node", "waiting", "part", "open_parts"]) (sc := defScope s_Builder_order) (by decide +kernel)) (by decide) (fun _ _ _ _ _ => pg_name (i := 1) sc_Builder_order.nd rfl (Or.inl rfl)) (by decide) hra
    (de_lenC (α := L4) 1 hle <| de_fld 0 <| de_var (i := 0) rfl ⟨_, _, _, _, rfl, rfl, k.cls, k.letters, S.L, rfl, ⟨by omega, by omega⟩, fun i ys μ' => μ' = bldM P w C A S ∧ ∃ o, ys = nI o ∧ OrdL S i o ∧ o = lts S i, ⟨rfl, [], rfl, ⟨rfl, List.nodup_nil, fun j hj => absurd hj (Nat.not_lt_zero _)⟩, rfl⟩, fun i ys μ' hi hJ => ?_, fun ys μ' hJ oa => ?_⟩) (by rfl))
  · obtain ⟨rfl, o, rfl, hL, hlt⟩ := hJ
    have hi : i < S.L.length := by omega
    obtain ⟨x, hxe⟩ : ∃ x, x = ndP S.N (.letter i) := ⟨_, rfl⟩
    have hx : S.N[x]? = some (.letter i) := by rw [hxe]; exact ndP_get (wf.lets i hi)
    intro s' H' C' cl' fp
    refine de_nget (α := Int) (un_of hr) 6 <| de_fld 0 <| de_var (i := 0) rfl ⟨_, _, _, _, rfl, rfl, k.cls, k.known, de_ndK <| de_asNd2 <| de_tup2 <| de_str <| de_var (i := 1) rfl ⟨.letter i, rfl, knw S.N, (x : Int), rfl, knw_get ok.nd hx, ?_, rfl, o ++ [x], nI_snoc.symm, hL.snoc hx, by rw [hlt, hxe, lts_snoc]⟩⟩
    rw [nI_len, hL.len]; omega
  obtain ⟨rfl, o0, rfl, hL, hlt⟩ := hJ
  rw [Int.toNat_natCast] at hL hlt
  have hA := wf.lt
  have hO := hL.ord
  refine db_cons (ds_set (i := 4) sc_Builder_order.nd <| de_dcC (own := [("at", 3)]) (α := Int) (β := Bool) rfl sc_Builder_order.nd (blkOk_by (N := ["self", "k", "order", "at", "done", "root_node", "waiting", "part", "open_parts"]) (sc := defScope s_Builder_order) (by decide +kernel)) (fun (x : Int) δ => δ.set 3 (sl x)) (fun _ _ _ _ _ => pg_name (i := 3) sc_Builder_order.nd rfl (Or.inl rfl)) (fun x => wb_name)
    (de_var (i := 2) rfl ⟨7, nI o0, rfl, fun i kvs => kvs = dnO (o0.take i), rfl, fun i x kvs hx hJ => ?_, fun kvs hJ da => ?_⟩))
  · subst hJ
    obtain ⟨y, hy, rfl⟩ := nI_get hx
    intro s' H' C' cl' fp
    refine de_var (i := 3) rfl fun s' H' C' cl' fp => de_bl ⟨?_, rfl, ?_⟩
    · have := hO.len
      rw [dnO_len, List.length_take]; omega
    · show _ = dnO (o0.take (i + 1))
      rw [dnO_put (take_nodup_not hO.nd hy), List.take_add_one, hy]; rfl
  rw [nI_len, List.take_length] at hJ
  subst hJ
  refine db_cons (ds_forL (α := Int) PassesOwn.never rfl (pg_name (i := 5) sc_Builder_order.nd rfl (Or.inl rfl)) (fun (x : Int) δ => δ.set 5 (sl x)) (fun x δ' => wg_name)
    (de_frz (α := Int) 10 <| de_cat (α := Int) <| de_fld 0 <| de_var (i := 0) rfl ⟨_, _, _, _, rfl, rfl, k.cls, k.conditions, de_lstN (α := Int) <| da_cons <| de_unsome (α := Int) <| de_fld (α := Option Int) 0 <| de_var (i := 0) rfl ⟨_, _, _, _, rfl, rfl, k.cls, k.goal, (g : Int), (by rw [hg]; rfl), da_nil ⟨[(g : Int)], rfl, (by show 1 ≤ 1000; decide), fun ga => ⟨5, 9, nI S.C, [(g : Int)], rfl, rfl, (by rw [nI_len]; show S.C.length + 1 ≤ 10000; omega), fun la => ⟨nI S.C ++ [(g : Int)], rfl,
      fun j δ' μ' => ∃ o s1 s3 s5 s6 s7 s8, δ' = [sl (Ref.mk A.b), s1, sl (Ref.mk oa), s3, sl (Ref.mk da), s5, s6, s7, s8] ∧ μ' = bldM P w C A S ++ [lst oa (nI o), DkC da (inferInstance : Enc Bool) (dnO o), lst ga [(g : Int)]] ∧ OrdI S o ∧ (∀ i c, i < j → (S.C ++ [g])[i]? = some c → c ∈ o) ∧ o = ((S.C ++ [g]).take j).foldl (dfsO (argsA S)) o0,
      ⟨o0, _, _, _, _, _, _, rfl, rfl, hO, fun i c hi => absurd hi (Nat.not_lt_zero _), rfl⟩, fun j x δ' μ' hx hI => ?_, fun δ' μ' hI => ?_⟩⟩⟩⟩⟩))
  · obtain ⟨o, s1, s3, s5, s6, s7, s8, rfl, rfl, hO, hR, hX⟩ := hI
    rw [← nI_snoc] at hx
    obtain ⟨oS, hoS⟩ : ∃ oS, oS = o := ⟨_, rfl⟩
    rw [← hoS] at hX
    obtain ⟨root, hroot, rfl⟩ := nI_get hx
    have hrl : root < S.N.length := by
      have := List.mem_of_getElem? hroot
      rcases List.mem_append.mp this with z | z
      · exact wf.conds root z
      · rw [List.mem_singleton.mp z]; exact hgl
    refine db_cons (ds_set (i := 6) sc_Builder_order.nd <| de_lstN (α := Int) <| da_cons <| de_var (i := 5) rfl <| da_nil ⟨[(root : Int)], rfl, (by show 1 ≤ 1000; decide), fun wa => ?_⟩)
    let Inv : List Nat → List Nat → PN := fun o st δ' μ' => ∃ s1 s3 s7 s8, δ' = [sl (Ref.mk A.b), s1, sl (Ref.mk oa), s3, sl (Ref.mk da), sl (root : Int), sl (Ref.mk wa), s7, s8] ∧ μ' = bldM P w C A S ++ [lst oa (nI o), DkC da (inferInstance : Enc Bool) (dnO o), lst ga [(g : Int)], lst wa (nI st)] ∧ OrdI S o ∧ (∀ i c, i < j → (S.C ++ [g])[i]? = some c → c ∈ o) ∧ StI S o st root ∧ finO (argsA S) o st = dfsO (argsA S) oS root
    refine db_cons (ds_while PassesOwn.never (fun m δ' μ' => ∃ o st, m = msO S o st ∧ Inv o st δ' μ') (msO S o [root]) ⟨o, [root], rfl, _, _, _, _, rfl, rfl, hO, hR, StI.start hrl, by rw [hoS]; rfl⟩ fun m δ' μ' hI => ?_)
    obtain ⟨o, st, rfl, s1, s3, s7, s8, rfl, rfl, hO, hR, hS, hF⟩ := hI
    refine dt_lstC (α := Int) 10 <| de_var (i := 6) rfl ⟨nI st, rfl, ⟨fun hne => ?_, fun he => ?_⟩⟩
    · refine ⟨fun δ' μ' => ∃ o' st', msO S o' st' < msO S o st ∧ Inv o' st' δ' μ', fun δ' μ' ⟨o', st', h1, h2⟩ => ⟨_, h1, o', st', rfl, h2⟩, ?_⟩
      rcases List.eq_nil_or_concat st with rfl | ⟨ini, t, hst⟩
      · cases hne
      rw [List.concat_eq_append] at hst
      subst hst
      have htl := hS.lt t (by simp)
      obtain ⟨n, hn⟩ : ∃ n, S.N[t]? = some n := ⟨S.N[t], List.getElem?_eq_getElem htl⟩
      refine db_cons (ds_set (i := 3) sc_Builder_order.nd <| de_ixC (α := Int) 10 <| de_var (i := 6) rfl <| de_neg <| de_int ⟨nI (ini ++ [t]), rfl, (t : Int), (by rw [nI_snoc]; exact atI_last), ?_⟩)
      refine db_cons (ds_lcT (own := [("part", 7)]) (α := Int) (β := Int) (i := 8) rfl sc_Builder_order.nd (blkOk_by (N := ["self", "k", "order", "at", "done", "root_node", "waiting", "part", "open_parts"]) (sc := defScope s_Builder_order) (by decide +kernel)) (fun (x : Int) δ => δ.set 7 (sl x)) (fun _ _ _ _ _ => pg_name (i := 7) sc_Builder_order.nd rfl (Or.inl rfl)) (fun x => wb_name) (by decide)
        (de_c1 ca hr (by decide) <| da_cons <| de_ixC (α := Nd) 2 <| de_fld 0 <| de_var (i := 0) rfl ⟨_, _, _, _, rfl, rfl, k.cls, k.nodes, de_var (i := 3) rfl ⟨S.N, rfl, n, atI_nat hn, da_nil ⟨[], _, parts_none, n, rfl, fun i ys μ' => μ' = bldM P w C A S ++ [lst oa (nI o), DkC da (inferInstance : Enc Bool) (dnO o), lst ga [(g : Int)], lst wa (nI (ini ++ [t]))] ∧ ys = nI (((argsT n).take i).filter fun a => !decide (a ∈ o)), ⟨rfl, rfl⟩, fun i x ys μ' hx hJ => ?_, fun ys μ' hJ => ?_⟩⟩⟩) (by rfl))
      · obtain ⟨rfl, rfl⟩ := hJ
        rw [show (Tup.mk (argsN n)).l = nI (argsT n) from argsN_eq n] at hx
        obtain ⟨y, hy, rfl⟩ := nI_get hx
        intro s' H' C' cl' fp
        refine dt_inotin (α := Bool) (un_of hr) 8 <| de_var (i := 7) rfl <| de_var (i := 4) rfl ⟨dnO o, rfl, ?_⟩
        have eT : ((argsT n).take (i + 1)).filter (fun a => !decide (a ∈ o)) = ((argsT n).take i).filter (fun a => !decide (a ∈ o)) ++ ([y] : List Nat).filter (fun a => !decide (a ∈ o)) := by rw [List.take_add_one, hy, List.filter_append]; rfl
        rw [dnO_in]
        refine ⟨fun hb s' H' C' cl' fp => de_var (i := 7) rfl ⟨?_, rfl, ?_⟩, fun hb => ⟨rfl, ?_⟩⟩
        · rw [nI_len]
          refine Nat.lt_of_le_of_lt (List.length_filter_le _ _) ?_
          rw [List.length_take]
          have : (argsT n).length ≤ 2 := by cases n <;> simp [argsT]
          omega
        · show _ = nI (((argsT n).take (i + 1)).filter fun a => !decide (a ∈ o))
          rw [eT, show ([y] : List Nat).filter (fun a => !decide (a ∈ o)) = [y] by simp only [List.filter_cons, hb, if_true, List.filter_nil]]
          exact nI_snoc.symm
        · show _ = nI (((argsT n).take (i + 1)).filter fun a => !decide (a ∈ o))
          rw [eT, show ([y] : List Nat).filter (fun a => !decide (a ∈ o)) = [] by simp only [List.filter_cons, hb, List.filter_nil]; rfl, List.append_nil]
      obtain ⟨rfl, hys⟩ := hJ
      rw [show (Tup.mk (argsN n)).l = nI (argsT n) from argsN_eq n, nI_len, List.take_length] at hys
      subst hys
      refine db_cons (ds_if <| dt_lst (α := Int) <| de_var (i := 8) rfl ⟨fun h1 => ?_, fun h1 => db_nil ?_⟩)
      · cases ef : (argsT n).filter fun a => !decide (a ∈ o) with
        | nil => rw [ef] at h1; cases h1
        | cons y r =>
          have hy : y ∈ (argsT n).filter fun a => !decide (a ∈ o) := by rw [ef]; simp
          obtain ⟨hy1, hy2⟩ := List.mem_filter.mp hy
          have hy2 : y ∉ o := by simpa using hy2
          obtain ⟨p1, p2⟩ := hS.push (wf.args t n hn y hy1) hy2
          obtain ⟨l1, l2, el, hl1, _, _⟩ := List.filter_eq_cons_iff.mp ef
          have hto : t ∉ o := fun z => by
            obtain ⟨kk, hkk⟩ := List.mem_iff_getElem?.mp z
            obtain ⟨jj, _, hjj⟩ := hO.args kk t n hkk hn y hy1
            exact hy2 (List.mem_of_getElem? hjj)
          have hF2 : finO (argsA S) o (ini ++ [t] ++ [y]) = dfsO (argsA S) oS root := by
            rw [finO_snoc, finO_snoc, dfsO_push hA hto (by rw [argsA_eq hn]; exact el) (fun a ha => by simpa using hl1 a ha), ← finO_snoc]
            exact hF
          exact db_cons (ds_expr (de_append (α := Int) 10 <| de_var (i := 6) rfl ⟨⟨nI (ini ++ [t]), rfl⟩, de_ixL (α := Int) <| de_var (i := 8) rfl <| de_int ⟨(y : Int), atI_nat (j := 0) rfl, nI (ini ++ [t]), rfl, (by have := hS.pw; rw [nI_len]; exact stk_len hS n5), db_one (ds_continue ⟨o, ini ++ [t] ++ [y], p2, _, _, _, _, rfl, (by rw [nI_snoc (l := ini ++ [t])]; rfl), hO, hR, p1, hF2⟩)⟩⟩))
      have hall : ∀ a ∈ argsT n, a ∈ o := fun a ha => by
        refine Classical.byContradiction fun hno => ?_
        have : a ∈ (argsT n).filter fun a => !decide (a ∈ o) := List.mem_filter.mpr ⟨ha, by simpa using hno⟩
        cases ef : (argsT n).filter fun a => !decide (a ∈ o) with
        | nil => rw [ef] at this; cases this
        | cons y r => rw [ef] at h1; cases h1
      refine db_cons (ds_expr (de_pop (α := Int) 10 <| de_var (i := 6) rfl ⟨nI (ini ++ [t]), rfl, (t : Int), (by rw [nI_snoc]; simp), ?_⟩))
      have edl : (nI (ini ++ [t])).dropLast = nI ini := by rw [nI_snoc, List.dropLast_concat]
      rw [edl]
      refine db_one (ds_if <| dt_inotin (α := Bool) (un_of hr) 8 <| de_var (i := 3) rfl <| de_var (i := 4) rfl ⟨dnO o, rfl, ?_⟩)
      rw [dnO_in]
      refine ⟨fun h2 => ?_, fun h2 => db_nil ?_⟩
      · have h2 : t ∉ o := by simpa using h2
        have hO' := hO.snoc h2 htl fun n' hn' => by rw [hn] at hn'; cases hn'; exact hall
        obtain ⟨p1, p2⟩ := hS.popd hO' h2
        have ol := hO.len
        refine db_cons (ds_iput (α := Bool) (un_of hr) 8 <| de_bl <| de_var (i := 4) rfl <| de_var (i := 3) rfl ⟨dnO o, rfl, (by rw [dnO_len]; omega), ?_⟩)
        rw [dnO_put h2]
        refine db_one (ds_expr (de_append (α := Int) 7 <| de_var (i := 2) rfl ⟨⟨nI o, rfl⟩, de_var (i := 3) rfl ⟨nI o, rfl, (by rw [nI_len]; omega), ?_⟩⟩))
        exact ⟨o ++ [t], ini, p2, _, _, _, _, rfl, (by rw [nI_snoc (l := o)]; rfl), hO', fun i c hi hc => List.mem_append_left _ (hR i c hi hc), p1, by rw [← dfsO_leaf hA h2 (by rw [argsA_eq hn]; exact hall), ← finO_snoc]; exact hF⟩
      · have h2 : t ∈ o := by simpa using h2
        obtain ⟨p1, p2⟩ := hS.pop h2
        exact ⟨o, ini, p2, _, _, _, _, rfl, rfl, hO, hR, p1, by rw [← hF, finO_snoc, dfsO_in hA h2]⟩
    · have : st = [] := by
        cases st with
        | nil => rfl
        | cons a r => cases he
      subst this
      refine db_drop (α := Int) 10 rfl (db_nil ⟨o, _, _, _, _, _, _, rfl, rfl, hO, fun i c hi hc => ?_, by rw [List.take_add_one, hroot, List.foldl_append, ← hX]; exact hF⟩)
      by_cases e : i < j
      · exact hR i c e hc
      · have : i = j := by omega
        subst this
        rw [hroot] at hc; cases hc
        exact hS.hd rfl
  · obtain ⟨o, s1, s3, s5, s6, s7, s8, rfl, rfl, hO, hR, hX⟩ := hI
    have hm : ∀ c, c ∈ S.C ++ [g] → c ∈ o := fun c hc => by
      obtain ⟨i, hi⟩ := List.mem_iff_getElem?.mp hc
      refine hR i c ?_ hi
      have := (List.getElem?_eq_some_iff.mp hi).1
      rw [List.length_append, List.length_singleton] at this
      rw [List.length_append, nI_len]; exact this
    exact db_one (ds_ret <| de_drop <| de_frz (α := Int) 7 <| de_var (i := 2) rfl ⟨nI o, rfl, bldM P w C A S, _, ⟨List.Perm.refl _⟩, q o ⟨hO, hm g (by simp), fun c hc => hm c (List.mem_append_left _ hc), by rw [hX, hlt]; unfold ordX; rw [List.length_append, nI_len]; congr 1; exact List.take_of_length_le (by rw [List.length_append]; exact Nat.le_refl _)⟩⟩)
end
end K17
namespace K17
open PySem PySem.Spec PyProof.Rows L2 Dl
section
variable {P : Program} {w : World} {K : PySem.W.Frag} {mg : Str → Option Value} {base : Heap} {C : Addr}
/-! ### a problem out of a builder -/
def phPInit (P : Program) (w : World) (CP : Addr) : Pm Unit := fun as μ Q => ∃ (p dx : Addr) (y : Prb), as = [sl (Ref.mk p), sl (Tup.mk y.letters), sl (Tup.mk y.nodes), sl (Tup.mk y.ranges), sl (Tup.mk y.conds), sl y.goal] ∧ μ = [ObjC p dx CP []] ∧ Q () [ObjC p dx CP (prbF y)]
theorem c_pinit (D : DfnI K mg "Problem" (He.ga K "Problem") "Problem.__init__" s_Problem_init ["self", "letters", "nodes", "ranges", "conditions", "goal"]) (k : PrbK K) : MakD P w K mg base "Problem" (He.ga K "Problem") 1 ["self", "letters", "nodes", "ranges", "conditions", "goal"] (phPInit P w (He.ga K "Problem")) := by
  refine D.mak sc_Problem_init (fun as μ Q h => ?_) fun f cdv A outer s H E hr as μ Pd h => ?_
  · obtain ⟨_, _, _, rfl, _⟩ := h; rfl
  obtain ⟨p, dx, y, rfl, rfl, q⟩ := h
  refine db_cons (ds_fld 0 <| de_var (i := 1) rfl <| de_var (i := 0) rfl ⟨_, _, _, rfl, k.cls, k.letters, (by show (0 : Nat) < 1000; decide), ?_⟩)
  refine db_cons (ds_fld 0 <| de_var (i := 2) rfl <| de_var (i := 0) rfl ⟨_, _, _, rfl, k.cls, k.nodes, (by show (1 : Nat) < 1000; decide), ?_⟩)
  refine db_cons (ds_fld 0 <| de_var (i := 3) rfl <| de_var (i := 0) rfl ⟨_, _, _, rfl, k.cls, k.ranges, (by show (2 : Nat) < 1000; decide), ?_⟩)
  refine db_cons (ds_fld 0 <| de_var (i := 4) rfl <| de_var (i := 0) rfl ⟨_, _, _, rfl, k.cls, k.conditions, (by show (3 : Nat) < 1000; decide), ?_⟩)
  exact db_one (ds_fld 0 <| de_var (i := 5) rfl <| de_var (i := 0) rfl ⟨_, _, _, rfl, k.cls, k.goal, (by show (4 : Nat) < 1000; decide), ⟨(), fun _ _ _ => rfl, q⟩⟩)
/-- the problem that comes of an order -/
def ndAt (S : Bst) (i : Nat) : Nd := S.N.getD i (.num (0, 1))
def rgAt (S : Bst) (i : Nat) : St2 := S.R.getD i ((0, 1), (0, 1))
def prbOf (S : Bst) (g : Nat) (o : List Nat) : Prb := ⟨S.L, o.map fun i => mvO o (ndAt S i), o.map (rgAt S), nI (S.C.map (plI o)), (plI o g : Int)⟩
def phProblem (P : Program) (w : World) (C : Addr) : Pm Prb := fun as μ Q => ∃ (A : BAd) (S : Bst) (g : Nat), as = [sl (Ref.mk A.b)] ∧ μ = bldM P w C A S ∧ (S.Wf ∧ S.G = some g ∧ g < S.N.length ∧ S.N.length ≤ 60) ∧ ∀ o, OrdQ S g o → Q (prbOf S g o) (bldM P w C A S)
theorem OrdI.arg_in {S : Bst} {o : List Nat} (h : OrdI S o) {i : Nat} (hi : i ∈ o) : ∀ a ∈ argsT (ndAt S i), a ∈ o := fun a ha => by
  obtain ⟨k, hk⟩ := List.mem_iff_getElem?.mp hi
  have hl := h.lt i hi
  have hn : S.N[i]? = some (ndAt S i) := by unfold ndAt; rw [List.getD_eq_getElem?_getD, List.getElem?_eq_getElem hl]; rfl
  obtain ⟨j, _, hj⟩ := h.args k i _ hk hn a ha
  exact List.mem_of_getElem? hj
theorem ndAt_get {S : Bst} {i : Nat} (h : i < S.N.length) : S.N[i]? = some (ndAt S i) := by unfold ndAt; rw [List.getD_eq_getElem?_getD, List.getElem?_eq_getElem h]; rfl
theorem rgAt_get {S : Bst} {i : Nat} (h : i < S.R.length) : S.R[i]? = some (rgAt S i) := by unfold rgAt; rw [List.getD_eq_getElem?_getD, List.getElem?_eq_getElem h]; rfl
theorem c_problem (D : DfnM K C "problem" "Builder.problem" s_Builder_problem ["self"]) (hle : mg "len" = none) (hra : mg "range" = none) (htu : mg "tuple" = none) (k : BldK K C) (co : MetD P w K mg base C "_order" 2 ["self"] (phOrder P w C)) (cm : Cal P w K mg base "moved_node" 1 ["node", "places"] phMoved)
    (ci : MakD P w K mg base "Problem" (He.ga K "Problem") 1 ["self", "letters", "nodes", "ranges", "conditions", "goal"] (phPInit P w (He.ga K "Problem"))) : MetD P w K mg base C "problem" 4 ["self"] (phProblem P w C) := by
  refine D.met sc_Builder_problem (fun as μ Q h => ?_) fun f cdv A' outer s H E hr as μ Pd h => ?_
  · obtain ⟨_, _, _, rfl, _⟩ := h; rfl
  obtain ⟨A, S, g, rfl, rfl, ⟨wf, hg, hgl, n60⟩, q⟩ := h
  have ok := wf.ok
  have c12 := ok.c
  obtain ⟨un, hun⟩ := k.mn
  refine db_cons (ds_if <| dt_isN (α := Int) <| de_fld (α := Option Int) 0 <| de_var (i := 0) rfl ⟨_, _, _, _, rfl, rfl, k.cls, k.goal, ⟨fun h => (by rw [hg] at h; cases h), fun _ => db_nil ?_⟩⟩)
  refine db_cons (ds_set (i := 1) sc_Builder_problem.nd <| de_mt0 co hr (by decide) <| de_var (i := 0) rfl ⟨⟨0, A.dx, _, rfl, rfl⟩, _, _, parts_all, A, S, g, rfl, rfl, ⟨wf, hg, hgl⟩, fun o ho => ?_⟩)
  have hO := ho.1
  have ol := hO.len
  refine db_cons (ds_if <| dt_gt <| de_lenL hle <| de_var (i := 1) rfl <| de_con 0 <| de_var (i := 0) rfl ⟨_, _, _, un, rfl, rfl, k.cls, hun, ⟨fun h1 => absurd (of_decide_eq_true h1) (by rw [nI_len]; omega), fun _ => db_nil ?_⟩⟩)
  refine db_cons (ds_set (i := 3) sc_Builder_problem.nd <| de_dcR (own := [("k", 2)]) (i0 := 2) (β := Int) rfl sc_Builder_problem.nd (blkOk_by (N := ["self", "order", "k", "places", "at", "nodes", "ranges", "conditions"]) (sc := defScope s_Builder_problem) (by decide +kernel)) (by decide) (fun _ _ _ _ _ => pg_name (i := 2) sc_Builder_problem.nd rfl (Or.inl rfl)) hra
    (de_lenL hle <| de_var (i := 1) rfl ⟨(by rw [nI_len]; omega), fun i kvs μ' => μ' = bldM P w C A S ∧ kvs = plc (o.take i), ⟨rfl, rfl⟩, fun i kvs μ' hi hJ => ?_, fun kvs μ' hJ pa => ?_⟩))
  · obtain ⟨rfl, rfl⟩ := hJ
    have hi : i < o.length := by rw [nI_len] at hi; omega
    have hx : o[i]? = some o[i] := List.getElem?_eq_getElem hi
    intro s' H' C' cl' fp
    refine de_ixL (α := Int) <| de_var (i := 1) rfl <| de_var (i := 2) rfl ⟨_, atI_nat (nI_at hx), fun s' H' C' cl' fp => de_var (i := 2) rfl ⟨?_, rfl, ?_⟩⟩
    · rw [plc_len, List.length_take]; omega
    · have e : (i : Int) = ((o.take i).length : Int) := by rw [List.length_take]; omega
      show putI (plc (o.take i)) _ (i : Int) = plc (o.take (i + 1))
      rw [e, plc_put (by exact take_nodup_not hO.nd hx), List.take_add_one, hx]; rfl
  obtain ⟨rfl, rfl⟩ := hJ
  rw [nI_len, Int.toNat_natCast, List.take_length]
  refine db_cons (ds_set (i := 5) sc_Builder_problem.nd <| de_tuple (α := Nd) htu <| de_lcL (own := [("at", 4)]) (α := Int) (β := Nd) rfl sc_Builder_problem.nd (blkOk_by (N := ["self", "order", "k", "places", "at", "nodes", "ranges", "conditions"]) (sc := defScope s_Builder_problem) (by decide +kernel)) (fun (x : Int) δ => δ.set 4 (sl x)) (fun _ _ _ _ _ => pg_name (i := 4) sc_Builder_problem.nd rfl (Or.inl rfl)) (fun x => wb_name) (by decide)
    (de_var (i := 1) rfl ⟨fun i ys μ' => μ' = bldM P w C A S ++ [DkC pa (inferInstance : Enc Int) (plc o)] ∧ ys = (o.take i).map fun i => mvO o (ndAt S i), ⟨rfl, rfl⟩, fun i x ys μ' hx hJ => ?_, fun ys μ' hJ => ?_⟩))
  · obtain ⟨rfl, rfl⟩ := hJ
    obtain ⟨y, hy, rfl⟩ := nI_get hx
    have hyo := List.mem_of_getElem? hy
    intro s' H' C' cl' fp
    refine de_c1M cm hr (by decide) <| da_cons <| de_ixC (α := Nd) 2 <| de_fld 0 <| de_var (i := 0) rfl ⟨_, _, _, _, rfl, rfl, k.cls, k.nodes, de_var (i := 4) rfl ⟨S.N, rfl, _, atI_nat (ndAt_get (hO.lt y hyo)), da_cons <| de_var (i := 3) rfl <| da_nil ⟨bldM P w C A S, [DkC pa (inferInstance : Enc Int) (plc o)], [], (by rw [List.append_nil]), _, mvO o (ndAt S y), pa, plc o, rfl, rfl, mvO_ok (hO.arg_in hyo), ?_, by rw [List.append_nil], (take_snoc hy).symm⟩⟩⟩
    rw [List.length_map, List.length_take]; omega
  obtain ⟨rfl, hys⟩ := hJ
  rw [nI_len, List.take_length] at hys
  subst hys
  refine db_cons (ds_set (i := 6) sc_Builder_problem.nd <| de_tuple (α := St2) htu <| de_lcL (own := [("at", 4)]) (α := Int) (β := St2) rfl sc_Builder_problem.nd (blkOk_by (N := ["self", "order", "k", "places", "at", "nodes", "ranges", "conditions"]) (sc := defScope s_Builder_problem) (by decide +kernel)) (fun (x : Int) δ => δ.set 4 (sl x)) (fun _ _ _ _ _ => pg_name (i := 4) sc_Builder_problem.nd rfl (Or.inl rfl)) (fun x => wb_name) (by decide)
    (de_var (i := 1) rfl ⟨fun i ys μ' => μ' = bldM P w C A S ++ [DkC pa (inferInstance : Enc Int) (plc o)] ∧ ys = (o.take i).map (rgAt S), ⟨rfl, rfl⟩, fun i x ys μ' hx hJ => ?_, fun ys μ' hJ => ?_⟩))
  · obtain ⟨rfl, rfl⟩ := hJ
    obtain ⟨y, hy, rfl⟩ := nI_get hx
    have hyo := List.mem_of_getElem? hy
    intro s' H' C' cl' fp
    refine de_ixC (α := St2) 3 <| de_fld 0 <| de_var (i := 0) rfl ⟨_, _, _, _, rfl, rfl, k.cls, k.ranges, de_var (i := 4) rfl ⟨S.R, rfl, _, atI_nat (rgAt_get (by rw [ok.r]; exact hO.lt y hyo)), ?_, rfl, (take_snoc hy).symm⟩⟩
    rw [List.length_map, List.length_take]; omega
  obtain ⟨rfl, hys⟩ := hJ
  rw [nI_len, List.take_length] at hys
  subst hys
  refine db_cons (ds_set (i := 7) sc_Builder_problem.nd <| de_tuple (α := Int) htu <| de_lcC (own := [("at", 4)]) (α := Int) (β := Int) rfl sc_Builder_problem.nd (blkOk_by (N := ["self", "order", "k", "places", "at", "nodes", "ranges", "conditions"]) (sc := defScope s_Builder_problem) (by decide +kernel)) (fun (x : Int) δ => δ.set 4 (sl x)) (fun _ _ _ _ _ => pg_name (i := 4) sc_Builder_problem.nd rfl (Or.inl rfl)) (fun x => wb_name) (by decide)
    (de_fld 0 <| de_var (i := 0) rfl ⟨_, _, _, _, rfl, rfl, k.cls, k.conditions, ⟨5, nI S.C, rfl, fun i ys => ys = nI ((S.C.take i).map (plI o)), rfl, fun i x ys hx hJ => ?_, fun ys hJ => ?_⟩⟩))
  · subst hJ
    obtain ⟨y, hy, rfl⟩ := nI_get hx
    have hyo := ho.2.2.1 y (List.mem_of_getElem? hy)
    intro s' H' C' cl' fp
    refine de_iget (α := Int) (un_of hr) 6 <| de_var (i := 3) rfl <| de_var (i := 4) rfl ⟨plc o, _, rfl, plc_get hyo, ?_, rfl, ?_⟩
    · rw [nI_len, List.length_map, List.length_take]; omega
    · show _ = nI ((S.C.take (i + 1)).map (plI o))
      rw [take_snoc hy, nI_snoc]
  rw [nI_len] at hJ
  have hJ : ys = nI ((S.C.take S.C.length).map (plI o)) := hJ
  rw [List.take_length] at hJ
  subst hJ
  exact db_one (ds_ret <| de_drop <| de_frzP 0 <| de_mk ci hr (by decide) <| da_cons <| de_tupleC (α := L4) 1 htu <| de_fld 0 <| de_var (i := 0) rfl ⟨_, _, _, _, rfl, rfl, k.cls, k.letters, S.L, rfl, da_cons <| de_var (i := 5) rfl <| da_cons <| de_var (i := 6) rfl <| da_cons <| de_var (i := 7) rfl <| da_cons <| de_iget (α := Int) (un_of hr) 7 <| de_var (i := 3) rfl <| de_unsome (α := Int) <| de_fld (α := Option Int) 0 <| de_var (i := 0) rfl ⟨_, _, _, _, rfl, rfl, k.cls, k.goal, (g : Int), (by rw [hg]; rfl), plc o, _, rfl, plc_get ho.2.1, da_nil fun x dx => ⟨[ObjC x dx (He.ga K "Problem") []], _, ⟨List.perm_append_comm⟩, x, dx, prbOf S g o, rfl, rfl, dx, prbOf S g o, rfl, bldM P w C A S, _, ⟨List.Perm.refl _⟩, q o ho⟩⟩⟩)
def phKeep (P : Program) (w : World) (C : Addr) : Pm Unit := fun as μ Q => ∃ (A : BAd) (S : Bst) (i : Nat), as = [sl (Ref.mk A.b), sl (i : Int)] ∧ μ = bldM P w C A S ∧ S.C.length < 12 ∧ Q () (bldM P w C A { S with C := S.C ++ [i] })
theorem c_keep (D : DfnM K C "keep" "Builder.keep" s_Builder_keep ["self", "node"]) (hle : mg "len" = none) (k : BldK K C) : MetD P w K mg base C "keep" 1 ["self", "node"] (phKeep P w C) := by
  refine D.met sc_Builder_keep (fun as μ Q h => ?_) fun f cdv A' outer s H E hr as μ Pd h => ?_
  · obtain ⟨_, _, _, rfl, _⟩ := h; rfl
  obtain ⟨A, S, i, rfl, rfl, h12, q⟩ := h
  obtain ⟨uc, huc⟩ := k.mc
  refine db_cons (ds_if <| dt_ge <| de_lenC (α := Int) 5 hle <| de_fld 0 <| de_var (i := 0) rfl ⟨_, _, _, _, rfl, rfl, k.cls, k.conditions, nI S.C, rfl, de_con 0 <| de_var (i := 0) rfl ⟨_, _, _, uc, rfl, rfl, k.cls, huc, ⟨fun h1 => absurd (of_decide_eq_true h1) (by rw [nI_len]; omega), fun _ => db_nil ?_⟩⟩⟩)
  refine db_one (ds_expr (de_append (α := Int) 5 <| de_fld 0 <| de_var (i := 0) rfl ⟨_, _, _, _, rfl, rfl, k.cls, k.conditions, ⟨nI S.C, rfl⟩, de_var (i := 1) rfl ⟨nI S.C, rfl, (by rw [nI_len]; omega), ⟨(), fun _ _ _ => rfl, ?_⟩⟩⟩))
  rw [← nI_snoc]
  exact q
end
end K17
namespace K17
open PySem PySem.Spec PyProof.Rows L2 Dl
section
variable {P : Program} {w : World} {K : PySem.W.Frag} {mg : Str → Option Value} {base : Heap} {C : Addr}
/-! ### an operation is added -/
/-- the node that a call asks for -/
def NdOf (z : Str) (i : Nat) (t : Int) (x : Nd) : Prop := (∃ (o : Op2) (j : Nat), z = o.s ∧ t = (j : Int) ∧ x = if o = .mul ∧ i = j then .pow i 2 else .op o i j) ∨ (z = "pow" ∧ ∃ n : Nat, t = (n : Int) ∧ 2 ≤ n ∧ n ≤ 6 ∧ x = .pow i n)
/-- the numbers of a node's parts, by their places -/
def wrD (S : Bst) (l : List Nat) : IKv Q2 := l.foldl (fun kvs (a : Nat) => putI kvs (a : Int) (ndAt S a).val) []
theorem wrD_snoc {S : Bst} {l : List Nat} {a : Nat} : wrD S (l ++ [a]) = putI (wrD S l) (a : Int) (ndAt S a).val := by unfold wrD; rw [List.foldl_append]; rfl
theorem putI_len {α : Type} {kvs : IKv α} {k : Int} {y : α} : (putI kvs k y).length ≤ kvs.length + 1 := by
  unfold putI
  split
  · rw [List.length_map]; omega
  · rw [List.length_append]; exact Nat.le_refl _
theorem wrD_len {S : Bst} : ∀ l : List Nat, (wrD S l).length ≤ l.length := fun l => by
  have : ∀ (l : List Nat) (kvs : IKv Q2), (l.foldl (fun kvs (a : Nat) => putI kvs (a : Int) (ndAt S a).val) kvs).length ≤ kvs.length + l.length := by
    intro l
    induction l with
    | nil => intro kvs; exact Nat.le_refl _
    | cons a l ih =>
      intro kvs
      rw [List.foldl_cons, List.length_cons]
      have h1 := ih (putI kvs (a : Int) (ndAt S a).val)
      have h2 := putI_len (kvs := kvs) (k := (a : Int)) (y := (ndAt S a).val)
      omega
  have := this l []
  unfold wrD
  simpa using this
def allNum (S : Bst) (x : Nd) : Bool := (argsT x).all fun a => (ndAt S a).isNum
def NodeR (P : Program) (w : World) (C : Addr) (nr : Nd → List St2 → List St2 → St2 → Prop) (A : BAd) (S : Bst) (x : Nd) (Q : Int → List Cell → Prop) : Prop :=
  (allNum S x = false ∧ PlR P w C nr A S x Q) ∨ (allNum S x = true ∧ ∃ y : Q2, nwD x (wrD S (argsT x)) [] y ∧ longQ y = false ∧ PlR P w C nr A S (.num y) Q)
def phNode (P : Program) (w : World) (C : Addr) (nr : Nd → List St2 → List St2 → St2 → Prop) : Pm Int := fun as μ Q => ∃ (A : BAd) (S : Bst) (z : Str) (i : Nat) (t : Int) (x : Nd), as = [sl (Ref.mk A.b), sl z, sl (i : Int), sl t] ∧ μ = bldM P w C A S ∧
  (S.Ok ∧ NdOf z i t x ∧ (z = "div" → ∃ s : RR, S.R[t.toNat]? = some (canS s) ∧ ¬ (s.1 ≤ 0 ∧ 0 ≤ s.2)) ∧ ∀ a ∈ argsT x, a < S.N.length) ∧ NodeR P w C nr A S x Q
theorem args_few (x : Nd) : (argsT x).length ≤ 2 := by cases x <;> simp [argsT]
theorem op_abs_eq (o : Op2) : decide (o.s = ("abs" : Str)) = false := by cases o <;> decide +kernel
theorem op_pow_eq (o : Op2) : decide (o.s = ("pow" : Str)) = false := by cases o <;> decide +kernel
theorem c_node {nr : Nd → List St2 → List St2 → St2 → Prop} (D : DfnM K C "node" "Builder.node" s_Builder_node ["self", "kind", "one", "two"]) (hal : mg "all" = none) (k : BldK K C) (cz : Cal P w K mg base "has_zero" 1 ["one"] phHasZ) (ca : Cal P w K mg base "arguments" 1 ["node"] phArgs) (cw : Cal P w K mg base "node_worth" 4 ["node", "found", "point"] phWorthD)
    (cnu : MetD P w K mg base C "number" 22 ["self", "value"] (phNumber P w C nr)) (cp : MetD P w K mg base C "_place" 21 ["self", "node"] (phPlace P w C nr)) : MetD P w K mg base C "node" 23 ["self", "kind", "one", "two"] (phNode P w C nr) := by
  refine D.met sc_Builder_node (fun as μ Q h => ?_) fun f cdv A' outer s H E hr as μ Pd h => ?_
  · obtain ⟨_, _, _, _, _, _, rfl, _⟩ := h; rfl
  obtain ⟨A, S, z, i, t, x, rfl, rfl, ⟨ok, hx, hdiv, hlt⟩, q⟩ := h
  have fin : ∀ δ', δ' = [sl (Ref.mk A.b), sl z, sl (i : Int), sl t, sl x, .any, .any, .any] → DB (cxD P w K mg base ["self", "kind", "one", "two", "found", "parts", "part", "worths_here"] "Builder.node" s_Builder_node f cdv A' outer s H E) [(defBody s_Builder_node).getD 3 (.Pass ⟨0, 0, 0, 0⟩), (defBody s_Builder_node).getD 4 (.Pass ⟨0, 0, 0, 0⟩), (defBody s_Builder_node).getD 5 (.Pass ⟨0, 0, 0, 0⟩)] δ' (bldM P w C A S) (fun _ μ' => ∃ x : Int, (∀ K M H, Enc.R K M H .non x) ∧ Pd x μ') Pd (fun _ _ => False) (fun _ _ => False) := by
    rintro δ' rfl
    refine db_cons (ds_set (α := Tup Int) (i := 5) sc_Builder_node.nd <| de_c1 ca hr (by decide) <| da_cons <| de_var (i := 4) rfl <| da_nil ⟨[], _, parts_none, x, rfl, ?_⟩)
    have e5 := argsN_eq x
    have few := args_few x
    refine db_cons (ds_if <| dt_val <| de_all rfl hal <| de_lcT (own := [("part", 6)]) (α := Int) (β := Bool) rfl sc_Builder_node.nd (blkOk_by (N := ["self", "kind", "one", "two", "found", "parts", "part", "worths_here"]) (sc := defScope s_Builder_node) (by decide +kernel)) (fun (x : Int) δ => δ.set 6 (sl x)) (fun _ _ _ _ _ => pg_name (i := 6) sc_Builder_node.nd rfl (Or.inl rfl)) (fun x => wb_name) (by decide)
      (de_var (i := 5) rfl ⟨fun n ys μ' => μ' = bldM P w C A S ∧ ys = ((argsT x).take n).map fun a => (ndAt S a).isNum, ⟨rfl, rfl⟩, fun n y ys μ' hy hJ => ?_, fun ys μ' hJ => ?_⟩))
    · obtain ⟨rfl, rfl⟩ := hJ
      rw [show (Tup.mk (argsN x)).l = nI (argsT x) from e5] at hy
      obtain ⟨a, ha, rfl⟩ := nI_get hy
      have hal := ndAt_get (hlt a (List.mem_of_getElem? ha))
      intro s' H' C' cl' fp
      refine de_eqS (un_of hr) <| de_nd0 <| de_ixC (α := Nd) 2 <| de_fld 0 <| de_var (i := 0) rfl ⟨_, _, _, _, rfl, rfl, k.cls, k.nodes, de_var (i := 6) rfl ⟨S.N, rfl, ndAt S a, atI_nat hal, de_str ⟨⟨Nd.kind_ok _, ok_num⟩, ?_⟩⟩⟩
      rw [kind_num]
      refine ⟨?_, rfl, (take_snoc ha).symm⟩
      rw [List.length_map, List.length_take]; omega
    obtain ⟨rfl, hys⟩ := hJ
    rw [show (Tup.mk (argsN x)).l.length = (argsT x).length by show (argsN x).length = _; rw [e5, nI_len], List.take_length] at hys
    subst hys
    have eall : (((argsT x).map fun a => (ndAt S a).isNum).all id) = allNum S x := by unfold allNum; rw [List.all_map]; rfl
    rw [eall]
    rcases q with ⟨hn, q⟩ | ⟨hn, y, hy, hl, q⟩
    · rw [hn]
      refine ⟨fun h => (nomatch h), fun _ => db_nil ?_⟩
      exact db_one (ds_ret <| de_mt cp hr (by decide) <| de_var (i := 0) rfl ⟨⟨0, A.dx, _, rfl, rfl⟩, da_cons <| de_var (i := 4) rfl <| da_nil ⟨_, _, parts_all, A, S, x, rfl, rfl, ok, by simpa only [List.append_nil] using q⟩⟩)
    · rw [hn]
      refine ⟨fun _ => ?_, fun h => (nomatch h)⟩
      refine db_cons (ds_dcT (i := 7) (own := [("part", 6)]) (α := Int) (β := Q2) rfl sc_Builder_node.nd (blkOk_by (N := ["self", "kind", "one", "two", "found", "parts", "part", "worths_here"]) (sc := defScope s_Builder_node) (by decide +kernel)) (fun (x : Int) δ => δ.set 6 (sl x)) (fun _ _ _ _ _ => pg_name (i := 6) sc_Builder_node.nd rfl (Or.inl rfl)) (fun x => wb_name)
        (de_var (i := 5) rfl ⟨fun n kvs μ' => μ' = bldM P w C A S ∧ kvs = wrD S ((argsT x).take n), ⟨rfl, rfl⟩, fun n y kvs μ' hy hJ => ?_, fun kvs μ' hJ pa => ?_⟩) (sw_trueD rfl rfl rfl (by decide +kernel)))
      · obtain ⟨rfl, rfl⟩ := hJ
        rw [show (Tup.mk (argsN x)).l = nI (argsT x) from e5] at hy
        obtain ⟨a, ha, rfl⟩ := nI_get hy
        have hal := ndAt_get (hlt a (List.mem_of_getElem? ha))
        have han : (ndAt S a).isNum = true := by
          unfold allNum at hn
          exact List.all_eq_true.mp hn a (List.mem_of_getElem? ha)
        intro s' H' C' cl' fp
        refine de_var (i := 6) rfl fun s' H' C' cl' fp => de_nd1Q <| de_ixC (α := Nd) 2 <| de_fld 0 <| de_var (i := 0) rfl ⟨_, _, _, _, rfl, rfl, k.cls, k.nodes, de_var (i := 6) rfl ⟨S.N, rfl, ndAt S a, atI_nat hal, han, ?_, rfl, ?_⟩⟩
        · have := wrD_len (S := S) ((argsT x).take n)
          rw [List.length_take] at this; omega
        · rw [List.take_add_one, ha]; exact wrD_snoc.symm
      obtain ⟨rfl, rfl⟩ := hJ
      rw [show (Tup.mk (argsN x)).l.length = (argsT x).length by show (argsN x).length = _; rw [e5, nI_len], List.take_length]
      refine db_one (ds_ret <| de_drop <| de_mtM cnu hr (by decide) <| de_var (i := 0) rfl ⟨⟨0, A.dx, _, rfl, rfl⟩, da_cons <| de_c1M cw hr (by decide) <| da_cons <| de_var (i := 4) rfl <| da_cons <| de_var (i := 7) rfl <| da_cons <| de_tupN (α := Q2) <| da_nil ⟨[], rfl, by decide, da_nil ⟨bldM P w C A S, [DkC pa (inferInstance : Enc Q2) (wrD S (argsT x))], [], (by rw [List.append_nil]), x, y, pa, _, [], rfl, rfl, hy, da_nil ⟨[], bldM P w C A S, [DkC pa (inferInstance : Enc Q2) (wrD S (argsT x))], ?_, A, S, y, rfl, rfl, ok, hl, ?_⟩⟩⟩⟩)
      · rw [List.append_nil]; rfl
      · have mono : ∀ {x : Nd} {Q Q' : Int → List Cell → Prop}, (∀ i μ, Q i μ → Q' i μ) → PlR P w C nr A S x Q → PlR P w C nr A S x Q' := fun f h => by
          rcases h with ⟨i, a, b⟩ | ⟨a, wt, y, b, c, d, e⟩
          · exact .inl ⟨i, a, f _ _ b⟩
          · exact .inr ⟨a, wt, y, b, c, d, f _ _ e⟩
        exact mono (fun i μ h => ⟨μ, [DkC pa (inferInstance : Enc Q2) (wrD S (argsT x))], ⟨List.Perm.refl _⟩, h⟩) q
  rcases hx with ⟨o, j, rfl, rfl, hxe⟩ | ⟨rfl, n, rfl, h2, h6, rfl⟩
  · refine db_cons (ds_if (dw_and <| dt_eqS (un_of hr) <| de_var (i := 1) rfl <| de_str ⟨⟨o.ok, ok_pow⟩, ?_⟩).dt)
    rw [op_pow_eq]
    refine ⟨fun h => (nomatch h), fun _ => ⟨fun h => (nomatch h), fun _ => db_nil ?_⟩⟩
    refine db_cons (ds_if (dw_and <| dt_eqS (un_of hr) <| de_var (i := 1) rfl <| de_str ⟨⟨o.ok, ok_div⟩, ⟨fun h => ?_, fun _ => ⟨fun h => (nomatch h), fun _ => db_nil ?_⟩⟩⟩).dt)
    · obtain ⟨s0, hs0, hno⟩ := hdiv (of_decide_eq_true h)
      rw [Int.toNat_natCast] at hs0
      refine dw_and1 <| dt_val <| de_c1 cz hr (by decide) <| da_cons <| de_ixC (α := St2) 3 <| de_fld 0 <| de_var (i := 0) rfl ⟨_, _, _, _, rfl, rfl, k.cls, k.ranges, de_var (i := 3) rfl ⟨S.R, rfl, _, atI_nat hs0, da_nil ⟨[], _, parts_none, s0, rfl, ?_⟩⟩⟩
      rw [show (decide (s0.1 ≤ 0) && decide (0 ≤ s0.2)) = false by
        rw [Bool.and_eq_false_iff]
        by_cases c : s0.1 ≤ 0
        · exact .inr (decide_eq_false fun z => hno ⟨c, z⟩)
        · exact .inl (decide_eq_false c)]
      refine ⟨fun h => (nomatch h), fun _ => db_nil ?_⟩
      have eo : o = .div := by
        have h := of_decide_eq_true h
        exact Op2.s_inj (h : o.s = Op2.div.s)
      subst eo
      refine db_cons (DS.mid (fun δ' μ' => δ' = [sl (Ref.mk A.b), sl Op2.div.s, sl (i : Int), sl (j : Int), sl x, .any, .any, .any] ∧ μ' = bldM P w C A S) ?_ fun δ' μ' e => by obtain ⟨e1, rfl⟩ := e; exact fin δ' e1)
      refine ds_if <| dt_eqS (un_of hr) <| de_var (i := 1) rfl <| de_str ⟨⟨Op2.ok _, ok_abs⟩, ?_⟩
      rw [op_abs_eq]
      refine ⟨fun h => (nomatch h), fun _ => db_one (ds_if (dw_and <| dt_eqS (un_of hr) <| de_var (i := 1) rfl <| de_str ⟨⟨Op2.ok _, ok_mul⟩, ⟨fun h => absurd (of_decide_eq_true h) (by decide), fun _ => ⟨fun h => (nomatch h), fun _ => ?_⟩⟩⟩).dt)⟩
      rw [if_neg (by simp)] at hxe
      subst hxe
      exact db_one (ds_set (α := Nd) (i := 4) sc_Builder_node.nd <| de_asNd3 <| de_tup3 <| de_var (i := 1) rfl <| de_var (i := 2) rfl <| de_var (i := 3) rfl ⟨.op .div i j, rfl, rfl, rfl⟩)
    · refine db_cons (DS.mid (fun δ' μ' => δ' = [sl (Ref.mk A.b), sl o.s, sl (i : Int), sl (j : Int), sl x, .any, .any, .any] ∧ μ' = bldM P w C A S) ?_ fun δ' μ' e => by obtain ⟨e1, rfl⟩ := e; exact fin δ' e1)
      refine ds_if <| dt_eqS (un_of hr) <| de_var (i := 1) rfl <| de_str ⟨⟨Op2.ok _, ok_abs⟩, ?_⟩
      rw [op_abs_eq]
      refine ⟨fun h => (nomatch h), fun _ => db_one (ds_if (dw_and <| dt_eqS (un_of hr) <| de_var (i := 1) rfl <| de_str ⟨⟨Op2.ok _, ok_mul⟩, ?_⟩).dt)⟩
      rw [op_mul_eq]
      refine ⟨fun h => dw_and1 <| dt_eqI <| de_var (i := 2) rfl <| de_var (i := 3) rfl ⟨fun h2 => ?_, fun h2 => ?_⟩, fun h => ⟨fun h => (nomatch h), fun _ => ?_⟩⟩
      · have h := of_decide_eq_true h
        have h2 := of_decide_eq_true h2
        rw [if_pos ⟨h, by omega⟩] at hxe
        subst hxe
        exact db_one (ds_set (α := Nd) (i := 4) sc_Builder_node.nd <| de_asNd3 <| de_tup3 <| de_str <| de_var (i := 2) rfl <| de_int ⟨.pow i 2, rfl, rfl, rfl⟩)
      · have h2 := of_decide_eq_false h2
        rw [if_neg (fun z => h2 (by rw [z.2]))] at hxe
        subst hxe
        exact db_one (ds_set (α := Nd) (i := 4) sc_Builder_node.nd <| de_asNd3 <| de_tup3 <| de_var (i := 1) rfl <| de_var (i := 2) rfl <| de_var (i := 3) rfl ⟨.op o i j, rfl, rfl, rfl⟩)
      · have h := of_decide_eq_false h
        rw [if_neg (fun z => h z.1)] at hxe
        subst hxe
        exact db_one (ds_set (α := Nd) (i := 4) sc_Builder_node.nd <| de_asNd3 <| de_tup3 <| de_var (i := 1) rfl <| de_var (i := 2) rfl <| de_var (i := 3) rfl ⟨.op o i j, rfl, rfl, rfl⟩)
  · refine db_cons (ds_if (dw_and <| dt_eqS (un_of hr) <| de_var (i := 1) rfl <| de_str ⟨⟨ok_pow, ok_pow⟩, ⟨fun _ => dw_and1 <| dt_not <| dt_le_le <| de_int <| de_var (i := 3) rfl ⟨fun _ => de_int ?_, fun h => absurd (by omega) h⟩, fun h => absurd h (by decide)⟩⟩).dt)
    rw [decide_eq_true (show (n : Int) ≤ 6 by omega)]
    refine ⟨fun h => (nomatch h), fun _ => db_nil ?_⟩
    refine db_cons (ds_if (dw_and <| dt_eqS (un_of hr) <| de_var (i := 1) rfl <| de_str ⟨⟨ok_pow, ok_div⟩, ⟨fun h => absurd h (by decide), fun _ => ⟨fun h => (nomatch h), fun _ => db_nil ?_⟩⟩⟩).dt)
    refine db_cons (DS.mid (fun δ' μ' => δ' = [sl (Ref.mk A.b), sl ("pow" : Str), sl (i : Int), sl (n : Int), sl (Nd.pow i n), .any, .any, .any] ∧ μ' = bldM P w C A S) ?_ fun δ' μ' e => by obtain ⟨e1, rfl⟩ := e; exact fin δ' e1)
    refine ds_if <| dt_eqS (un_of hr) <| de_var (i := 1) rfl <| de_str ⟨⟨ok_pow, ok_abs⟩, ⟨fun h => absurd h (by decide), fun _ => db_one (ds_if (dw_and <| dt_eqS (un_of hr) <| de_var (i := 1) rfl <| de_str ⟨⟨ok_pow, ok_mul⟩, ⟨fun h => absurd h (by decide), fun _ => ⟨fun h => (nomatch h), fun _ => ?_⟩⟩⟩).dt)⟩⟩
    exact db_one (ds_set (α := Nd) (i := 4) sc_Builder_node.nd <| de_asNd3 <| de_tup3 <| de_var (i := 1) rfl <| de_var (i := 2) rfl <| de_var (i := 3) rfl ⟨.pow i n, rfl, rfl, rfl⟩)
end
end K17
namespace K17
open PySem PySem.Spec PyProof.Rows L2 Dl
/-! ### the jar -/
section
variable {P : Program} {w : World} {K : PySem.W.Frag} {mg : Str → Option Value} {base : Heap}
theorem c_draw (D : Dfn K mg "_law_draw" s_law_draw ["jar", "many"]) (ml : mg "len" = none) (mi : mg "int" = none) : Cal P w K mg base "_law_draw" 1 ["jar", "many"] phDraw := by
  refine D.cal sc_law_draw (fun as μ P h => ?_) fun f cdv A outer s H0 E hr as μ Pd h => ?_
  · obtain ⟨j, g, m, rfl, _⟩ := h; rfl
  obtain ⟨j, g, m, rfl, rfl, ⟨m0, m9⟩, q⟩ := h
  refine of_pss (C8.pss_cut (ps_if (pw_and (pt_cmpR op_eq (pe_ix ix_list (pv 0) pe_int (fun _ _ => rfl)) pe_int (nomark _)) (pw_and1 (pt_cmpR op_gt (pe_callB call_len (by rfl) ml boot_len (pa_cons (pe_ix ix_list (pv 0) pe_int (fun _ _ => rfl)) pa_nil)) pe_int (nomark _)))).pt
      (pss_one (ps_asg (pe_bm PySem.F.plainAttrs_list PySem.F.slot_list_pop PySem.F.type_list_pop mt_popAt (pe_ix ix_list (pv 0) pe_int (fun _ _ => rfl)) (pa_cons pe_int pa_nil)) (pg_sub (pv 0) pe_int set_list))) pss_nil)
    (pss_cons (ps_if (pt_cmpR op_gt (pe_ix ix_list (pv 0) pe_int (fun _ _ => rfl)) pe_int (nomark _)) (pss_cons (ps_set (i := 2) sc_law_draw.nd rfl (.inl rfl) (pe_op op_mod (pe_callTy call_int1 (by rfl) mi (by decide +kernel) (pa_cons (pe_ix ix_list (pv 0) pe_int (fun _ _ => rfl)) pa_nil)) (pv 1)))
        (pss_cons (ps_asg (pe_op op_fdivW (pe_ix ix_list (pv 0) pe_int (fun _ _ => rfl)) (pv 1)) (pg_sub (pv 0) pe_int set_list)) (pss_one (ps_ret (pv 2))))) pss_nil)
    (pss_cons (ps_asg (pe_op op_add (pe_ix ix_list (pv 0) pe_int (fun _ _ => rfl)) pe_int) (pg_sub (pv 0) pe_int set_list))
    (pss_cons (ps_asg (pe_op op_mod (pe_op op_add (pe_op op_add (pe_op op_mul (pe_ix ix_list (pv 0) pe_int (fun _ _ => rfl)) pe_int) (pe_op op_mul (pe_ix ix_list (pv 0) pe_int (fun _ _ => rfl)) pe_int)) pe_int) pe_int) (pg_sub (pv 0) pe_int set_list))
    (pss_one (ps_ret (pe_op op_mod (pe_op op_fdiv (pe_ix ix_list (pv 0) pe_int (fun _ _ => rfl)) pe_int) (pv 1)))))))) fun M σ H En D nk rk bk ck => ?_
  obtain ⟨w0, e0, r0⟩ := En.get (i := 0) (x := Ref.mk j) rfl
  obtain ⟨w1, e1, r1⟩ := En.get (i := 1) (x := m) rfl
  cases r0; cases r1
  obtain ⟨ne, gs, a, b, c, hj, hg⟩ := En.h.cell _ (List.mem_singleton.mpr rfl)
  have at_ : ∀ (k : Nat) (x0 x1 x2 x3 v : V), [x0, x1, x2, x3][k]? = some v → atI [x0, x1, x2, x3] (k : Int) = some v := fun k _ _ _ _ _ h => atI_nat h
  have out : ∀ (H' : Hp) (gs : List Int) (a b c d : Int), H' j = some (.lst [.ref g, .int a, .int b, .int c]) → H' g = some (.lst (gs.map V.int)) → (∀ b o, H b = some o → b ≠ j → b ≠ g → H' b = some o) → 0 ≤ d → d < m → D.rt (.int d) H' := fun H' gs a b c d h1 h2 k d0 d1 => by
    obtain ⟨s1, s2⟩ := jar_ste En.h gs a b c h1 h2 ne k
    exact rk d _ M (.int d) H' (q d d0 d1) s1 s2 rfl
  refine ⟨fun σ' H' => σ' = σ ∧ ∃ (gs : List Int) (a b c : Int), H' j = some (.lst [.ref g, .int a, .int b, .int c]) ∧ H' g = some (.lst (gs.map V.int)) ∧ ∀ b o, H b = some o → b ≠ j → b ≠ g → H' b = some o, ?_, ?_⟩
  · -- jar[1] == 0 and len(jar[0]) > 0
    refine ⟨_, e0, j, _, 1, _, rfl, rfl, .inl (.inl hj), rfl, rfl, _, rfl, ?_⟩
    refine ite2 (fun _ => ?_) (fun _ => iteF ⟨rfl, gs, a, b, c, hj, hg, fun _ _ e _ _ => e⟩)
    refine ⟨_, e0, j, _, 0, _, rfl, rfl, .inl (.inl hj), rfl, _, (gs.map V.int).length, rfl, .inl ⟨_, .inl (.inl hg), rfl⟩, _, _, rfl, rfl, _, rfl, ?_⟩
    refine ite2 (fun hl => ?_) (fun _ => ⟨rfl, gs, a, b, c, hj, hg, fun _ _ e _ _ => e⟩)
    have hl := of_decide_eq_true hl
    obtain ⟨x, xs, rfl⟩ : ∃ x xs, gs = x :: xs := by
      cases gs with
      | nil => simp at hl
      | cons x xs => exact ⟨x, xs, rfl⟩
    refine ⟨_, e0, j, _, 0, _, rfl, rfl, .inl (.inl hj), rfl, .inl ⟨rfl, _, .inl (.inl hg)⟩, g, _, 0, 0, .int x, rfl, rfl, hg, by decide, by decide, by simp [seqIndex?], rfl, ?_⟩
    refine ⟨_, e0, j, _, 1, 1, rfl, rfl, by rw [upd_ne ne]; exact hj, rfl, rfl, xs, x, b, c, upd_same, by rw [upd_ne ne.symm, upd_same] <;> rfl, fun b o e n1 n2 => by rw [upd_ne n1, upd_ne n2]; exact e⟩
  · rintro σ' H' ⟨rfl, gs, a, b, c, hj, hg, kp⟩
    refine ⟨_, e0, j, _, 1, _, rfl, rfl, .inl (.inl hj), rfl, _, _, rfl, rfl, _, rfl, ?_⟩
    refine ite2 (fun _ => ?_) (fun _ => ?_)
    · refine ⟨_, e0, j, _, 1, _, rfl, rfl, .inl (.inl hj), rfl, .inl ⟨_, rfl, _, e1, _, _, rfl, rfl, m0, ?_⟩⟩
      have i0 : (σ'.set 2 (some (V.int (a % m))))[0]? = some (some (.ref j)) := by rw [List.getElem?_set_ne (by decide)]; exact e0
      have i1 : (σ'.set 2 (some (V.int (a % m))))[1]? = some (some (.int m)) := by rw [List.getElem?_set_ne (by decide)]; exact e1
      have i2 : (σ'.set 2 (some (V.int (a % m))))[2]? = some (some (.int (a % m))) := by rw [List.getElem?_set_self]; rw [En.len]; show 2 < 3; decide
      refine ⟨_, i0, j, _, 1, _, rfl, rfl, .inl (.inl hj), rfl, _, i1, _, _, rfl, rfl, ⟨m0, m9⟩, _, i0, j, _, 1, 1, rfl, rfl, hj, rfl, _, i2, ?_⟩
      exact out _ gs _ _ _ _ upd_same (by rw [upd_ne ne.symm]; exact hg) (fun b o e n1 n2 => by rw [upd_ne n1]; exact kp b o e n1 n2) (Int.emod_nonneg _ (by omega)) (Int.emod_lt_of_pos _ m0)
    · refine ⟨_, e0, j, _, 3, _, rfl, rfl, .inl (.inl hj), rfl, _, _, rfl, rfl, _, e0, j, _, 3, 3, rfl, rfl, hj, rfl, ?_⟩
      refine ⟨_, e0, j, _, 2, _, rfl, rfl, .inl (.inl upd_same), rfl, _, _, rfl, rfl, .inr ⟨by decide, by decide⟩, _, e0, j, _, 3, _, rfl, rfl, .inl (.inl upd_same), rfl, _, _, rfl, rfl, .inr ⟨by decide, by decide⟩, _, _, rfl, rfl, _, _, rfl, rfl, _, _, rfl, rfl, (show (0 : Int) < 2147483647 by decide), _, e0, j, _, 2, 2, rfl, rfl, upd_same, rfl, ?_⟩
      refine ⟨_, e0, j, _, 2, _, rfl, rfl, .inl (.inl upd_same), rfl, _, _, rfl, rfl, ⟨by decide, by decide⟩, _, e1, _, _, rfl, rfl, m0, ?_⟩
      exact out _ gs _ _ _ _ upd_same (by rw [upd_ne ne.symm, upd_ne ne.symm]; exact hg) (fun b o e n1 n2 => by rw [upd_ne n1, upd_ne n1]; exact kp b o e n1 n2) (Int.emod_nonneg _ (by omega)) (Int.emod_lt_of_pos _ m0)
def phJar : Pm Ref := fun as μ P => ∃ s : Scr, as = [sl s] ∧ μ = [] ∧ ∀ j g, P ⟨j⟩ [JarC j g]
theorem c_jar (D : Dfn K mg "_law_jar" s_law_jar ["script"]) (mi : mg "int" = none) : Cal P w K mg base "_law_jar" 1 ["script"] phJar := by
  refine D.cal sc_law_jar (fun as μ P h => ?_) fun f cdv A outer s H0 E hr as μ Pd h => ?_
  · obtain ⟨s, rfl, _⟩ := h; rfl
  obtain ⟨sc, rfl, rfl, q⟩ := h
  refine db_cons (ds_lcLN (i := 2) (own := [("cell", 1)]) (β := Int) rfl sc_law_jar.nd (blkOk_by (N := ["script", "cell", "great", "mix"]) (sc := defScope s_law_jar) (by decide +kernel)) (fun (x : Int) δ => δ.set 1 (sl x)) (fun _ _ _ _ _ => pg_name (i := 1) sc_law_jar.nd rfl (Or.inl rfl)) (fun x => wb_name) (by decide)
    (de_sliceScr (n := 63) (de_var (i := 0) rfl ⟨fun k ys μ' => μ' = [] ∧ ys.length ≤ k, ⟨rfl, Nat.le_refl _⟩, fun k x ys μ' hx hJ => ?_, fun ys μ' hJ g => ?_⟩)) (sw_true rfl rfl rfl (by decide +kernel)))
  · obtain ⟨rfl, hk⟩ := hJ
    have hk2 : k < 63 := by
      have := (List.getElem?_eq_some_iff.mp hx).1
      rw [List.length_take] at this
      omega
    intro s H C cl fp
    refine dt_ge (de_var (i := 1) rfl (de_pow (de_int (de_int ⟨⟨by decide, by decide, by decide⟩, ⟨fun _ s H C cl fp => ?_, fun _ => ?_⟩⟩))))
    · exact de_var (i := 1) rfl ⟨by omega, rfl, by rw [List.length_append]; exact Nat.succ_le_succ hk⟩
    · exact ⟨rfl, by omega⟩
  obtain ⟨rfl, hk⟩ := hJ
  refine db_cons (ds_set (i := 3) sc_law_jar.nd (de_int ?_))
  refine db_cons (ds_forL PassesOwn.never rfl (pg_name (i := 1) sc_law_jar.nd rfl (Or.inl rfl)) (fun (x : Int) δ => δ.set 1 (sl x)) (fun x δ => wg_name) (de_sliceScr (n := 63) (de_var (i := 0) rfl
    ⟨fun k δ1 μ1 => ∃ (c : Slot) (m : Int), δ1 = [sl sc, c, sl (Ref.mk g), sl m] ∧ μ1 = [lst g ys], ⟨_, _, rfl, rfl⟩, fun k x δ1 μ1 hx hI => ?_, fun δ1 μ1 hI => ?_⟩)))
  · obtain ⟨c, m, rfl, rfl⟩ := hI
    refine db_one (ds_set (i := 3) sc_law_jar.nd (de_mod (de_add (de_add (de_mulS (de_var (i := 3) rfl (de_int ⟨.inr ⟨by decide, by decide⟩, (de_mod (de_intI mi (de_var (i := 1) rfl (de_int ⟨by decide, (de_int (de_int ⟨by decide, ?_⟩))⟩))))⟩)))))))
    exact ⟨_, _, rfl, rfl⟩
  obtain ⟨c, m, rfl, rfl⟩ := hI
  exact db_one (ds_ret (de_jarLit (da_cons (de_var (i := 2) rfl (da_cons (de_int (da_cons (de_var (i := 3) rfl (da_cons (de_int (da_nil ⟨g, ys, _, _, _, rfl, rfl, fun j => q j g⟩)))))))))))
end
end K17
namespace K17
open PySem PySem.Spec PyProof.Rows L2 Dl
/-- names of the top that no def changes -/
structure Txt (mg : Str → Option Value) : Prop where
  gcd : mg "gcd" = some (.builtin "math.gcd")
  range : mg "range" = none
  abs : mg "abs" = none
  int : mg "int" = none
  len : mg "len" = none
  isinstance : mg "isinstance" = none
  tuple : mg "tuple" = none
  bool : mg "bool" = none
  str : mg "str" = none
  list : mg "list" = none
section
variable {P : Program} {w : World} {K : PySem.W.Frag} {mg : Str → Option Value} {base : Heap}
/-! ### the law's numbers -/
def phLow : Pm Q2 := fun as μ P => ∃ t b : Int, as = [sl t, sl b] ∧ (b ≠ 0 ∧ b.natAbs < 2 ^ 9000) ∧ P (can ((t : Rat) / (b : Rat))) μ
abbrev cLow (P : Program) (w : World) (K : PySem.W.Frag) (mg : Str → Option Value) (base : Heap) : Prop := Cal P w K mg base "_law_low" 1 ["top", "bottom"] phLow
theorem fdiv_neg_dvd {t : Int} {g : Nat} (hg : 0 < g) (h : (g : Int) ∣ t) : t.fdiv (-(g : Int)) = (-t) / (g : Int) := by
  obtain ⟨k, rfl⟩ := h
  have e : (g : Int) * k = (-(g : Int)) * (-k) := by rw [Int.neg_mul_neg]
  rw [e, Int.mul_fdiv_cancel_left _ (by omega)]
  rw [show -(-(g : Int) * -k) = (g : Int) * (-k) by rw [Int.neg_mul, Int.neg_neg]]
  rw [Int.mul_ediv_cancel_left _ (by omega)]
theorem c_low (D : Dfn K mg "_law_low" s_law_low ["top", "bottom"]) (T : Txt mg) : cLow P w K mg base := by
  refine D.cal sc_law_low (fun as μ P h => ?_) fun f cdv A outer s H E hr as μ Pd h => ?_
  · obtain ⟨t, b, rfl, _⟩ := h; rfl
  obtain ⟨t, b, rfl, ⟨hb, hb2⟩, q⟩ := h
  have hg : 0 < Nat.gcd t.natAbs b.natAbs := Nat.gcd_pos_of_pos_right _ (by omega)
  have hl : Nat.gcd t.natAbs b.natAbs ≤ b.natAbs := Nat.gcd_le_right _ (by omega)
  have d1 : ((Nat.gcd t.natAbs b.natAbs : Nat) : Int) ∣ t := gcd_dl t b
  have d2 : ((Nat.gcd t.natAbs b.natAbs : Nat) : Int) ∣ b := gcd_dr t b
  refine db_cons (ds_set (i := 2) sc_law_low.nd (de_abs T.abs (de_var (i := 0) rfl ?_)))
  refine db_cons (ds_set (i := 3) sc_law_low.nd (de_abs T.abs (de_var (i := 1) rfl ?_)))
  refine db_cons (ds_while PassesOwn.never (fun m δ' μ' => ∃ x y : Nat, δ' = [sl t, sl b, sl (x : Int), sl (y : Int)] ∧ μ' = μ ∧ m = y ∧ Nat.gcd x y = Nat.gcd t.natAbs b.natAbs) b.natAbs ⟨_, _, rfl, rfl, rfl, rfl⟩ fun m δ' μ' hI => ?_)
  obtain ⟨x, y, rfl, rfl, rfl, e⟩ := hI
  refine dt_gt (de_var (i := 3) rfl (de_int ⟨fun h => ⟨fun δ2 μ2 => ∃ x' y' : Nat, δ2 = [sl t, sl b, sl (x' : Int), sl (y' : Int)] ∧ μ2 = μ' ∧ y' < m ∧ Nat.gcd x' y' = Nat.gcd t.natAbs b.natAbs, ?_, ?_⟩, fun h => ?_⟩))
  · rintro δ2 μ2 ⟨x', y', e1, e2, l, r⟩
    exact ⟨y', l, x', y', e1, e2, rfl, r⟩
  · have h := of_decide_eq_true h
    have hm : 0 < m := by omega
    refine db_one (ds_par (i := 2) (j := 3) rfl sc_law_low.nd (by decide) (de_var (i := 3) rfl (de_mod (de_intI T.int (de_var (i := 2) rfl (de_var (i := 3) rfl ⟨h, ?_⟩))))) (by rfl))
    refine ⟨m, x % m, rfl, rfl, Nat.mod_lt _ hm, ?_⟩
    rw [Nat.gcd_comm, ← Nat.gcd_rec, Nat.gcd_comm] <;> exact e
  have h := of_decide_eq_false h
  have hm : m = 0 := by omega
  subst hm
  rw [Nat.gcd_zero_right] at e
  subst e
  refine db_cons (ds_if (dt_lt (de_var (i := 1) rfl (de_int ⟨fun h => ?_, fun h => ?_⟩))))
  · have h := of_decide_eq_true h
    have hd : ∀ z : Int, CDivZ z (-((Nat.gcd t.natAbs b.natAbs : Nat) : Int)) := fun z => ⟨by omega, Nat.lt_of_lt_of_le (bits_of (n := 9000) (by rw [Int.natAbs_neg, Int.natAbs_natCast]; omega) (by decide)) (Nat.le_refl _)⟩
    refine db_one (ds_set (i := 2) sc_law_low.nd (de_neg (de_var (i := 2) rfl ?_)))
    refine db_one (ds_ret (de_tup2 (de_divZ (de_var (i := 0) rfl (de_var (i := 2) rfl ⟨hd _, (de_divZ (de_var (i := 1) rfl (de_var (i := 2) rfl ⟨hd _, ?_⟩)))⟩)))))
    rw [fdiv_neg_dvd hg d1, fdiv_neg_dvd hg d2]
    have e1 : can ((t : Rat) / (b : Rat)) = lo (-t) (-b) := by
      rw [lo_can (by omega), Rat.intCast_neg, Rat.intCast_neg]
      congr 1
      grind
    have e2 : lo (-t) (-b) = ((-t) / ((Nat.gcd t.natAbs b.natAbs : Nat) : Int), (-b) / ((Nat.gcd t.natAbs b.natAbs : Nat) : Int)) := by
      unfold Dl.lo
      rw [Int.natAbs_neg, Int.natAbs_neg]
    rw [e1, e2] at q
    exact q
  have h := of_decide_eq_false h
  have hb0 : 0 < b := by omega
  rw [← lo_can hb0] at q
  have hd : ∀ z : Int, CDivW z ((Nat.gcd t.natAbs b.natAbs : Nat) : Int) := fun z => divW_of (n := 9000) (by omega) (by rw [Int.natAbs_natCast]; omega) (by decide) (by decide)
  refine db_nil ?_
  exact db_one (ds_ret (de_tup2 (de_div (de_var (i := 0) rfl (de_var (i := 2) rfl ⟨hd _, (de_div (de_var (i := 1) rfl (de_var (i := 2) rfl ⟨hd _, q⟩)))⟩)))))
theorem nat_two {x : Int} {n : Nat} (h1 : 0 < x) (h2 : x < 2 ^ n) : x.natAbs < 2 ^ n := by
  have : ((x.natAbs : Nat) : Int) < ((2 ^ n : Nat) : Int) := by
    rw [Int.natAbs_of_nonneg (by omega), Int.natCast_pow]; exact h2
  exact Int.ofNat_lt.mp this
theorem low_pos {x : Int} (h1 : 0 < x) (h2 : x < 2 ^ 9000) : x ≠ 0 ∧ x.natAbs < 2 ^ 9000 := ⟨by omega, nat_two h1 h2⟩
abbrev cLless (P : Program) (w : World) (K : PySem.W.Frag) (mg : Str → Option Value) (base : Heap) : Prop := Cal P w K mg base "_law_less" 1 ["one", "two"] (phCR fun a b => decide (a < b))
theorem c_lless (D : Dfn K mg "_law_less" s_law_less ["one", "two"]) : cLless P w K mg base := by
  refine D.cal sc_law_less (fun as μ P h => ?_) fun f cdv A outer s H E hr as μ Pd h => ?_
  · obtain ⟨x, y, a, b, rfl, _⟩ := h; rfl
  obtain ⟨x, y, a, b, rfl, rfl, rfl, ok, q⟩ := h
  obtain ⟨m1, m2⟩ := ok.mul
  obtain ⟨Z, _, z1, z2⟩ := ok
  have e : decide (x.1 * y.2 < y.1 * x.2) = decide (qv x < qv y) := decide_eq_decide.mpr (qv_lt z1.pos z2.pos)
  have q : Pd (decide (qv x < qv y)) μ := q
  rw [← e] at q
  exact db_one (ds_ret (de_lt (de_mul (de_ix0 (de_var (i := 0) rfl (de_ix1 (de_var (i := 1) rfl ⟨m1, (de_mul (de_ix0 (de_var (i := 1) rfl (de_ix1 (de_var (i := 0) rfl ⟨m2, q⟩)))))⟩)))))))
abbrev cPlus (P : Program) (w : World) (K : PySem.W.Frag) (mg : Str → Option Value) (base : Heap) : Prop := Cal P w K mg base "_law_plus" 2 ["one", "two"] (ph2R fun a b => a + b)
theorem c_plus (D : Dfn K mg "_law_plus" s_law_plus ["one", "two"]) (cr : cLow P w K mg base) : cPlus P w K mg base := by
  refine D.cal sc_law_plus (fun as μ P h => ?_) fun f cdv A outer s H E hr as μ Pd h => ?_
  · obtain ⟨x, y, a, b, rfl, _⟩ := h; rfl
  obtain ⟨x, y, a, b, rfl, rfl, rfl, ok, q⟩ := h
  obtain ⟨m1, m2, m3, m4, p⟩ := ok.mul
  obtain ⟨⟨Z, _, z1, z2⟩, _⟩ := id ok
  have q : Pd (can (qv x + qv y)) μ := q
  rw [← fadd_q z1.pos z2.pos, show fadd x y = Dl.lo _ _ from rfl, lo_can p] at q
  exact db_one (ds_ret (de_c1 cr hr (by decide) (da_cons (de_add (de_mul (de_ix0 (de_var (i := 0) rfl (de_ix1 (de_var (i := 1) rfl ⟨m1, (de_mul (de_ix0 (de_var (i := 1) rfl (de_ix1 (de_var (i := 0) rfl ⟨m2, (da_cons (de_mul (de_ix1 (de_var (i := 0) rfl (de_ix1 (de_var (i := 1) rfl ⟨m3, (da_nil ⟨[], _, parts_none, _, _, rfl, low_pos p ok.2, q⟩)⟩))))))⟩)))))⟩)))))))))
abbrev cMinus (P : Program) (w : World) (K : PySem.W.Frag) (mg : Str → Option Value) (base : Heap) : Prop := Cal P w K mg base "_law_minus" 2 ["one", "two"] (ph2R fun a b => a - b)
theorem c_minus (D : Dfn K mg "_law_minus" s_law_minus ["one", "two"]) (cr : cLow P w K mg base) : cMinus P w K mg base := by
  refine D.cal sc_law_minus (fun as μ P h => ?_) fun f cdv A outer s H E hr as μ Pd h => ?_
  · obtain ⟨x, y, a, b, rfl, _⟩ := h; rfl
  obtain ⟨x, y, a, b, rfl, rfl, rfl, ok, q⟩ := h
  obtain ⟨m1, m2, m3, m4, p⟩ := ok.mul
  obtain ⟨⟨Z, _, z1, z2⟩, _⟩ := id ok
  have q : Pd (can (qv x - qv y)) μ := q
  rw [← fsub_q z1.pos z2.pos, show fsub x y = Dl.lo _ _ from rfl, lo_can p] at q
  exact db_one (ds_ret (de_c1 cr hr (by decide) (da_cons (de_sub (de_mul (de_ix0 (de_var (i := 0) rfl (de_ix1 (de_var (i := 1) rfl ⟨m1, (de_mul (de_ix0 (de_var (i := 1) rfl (de_ix1 (de_var (i := 0) rfl ⟨m2, (da_cons (de_mul (de_ix1 (de_var (i := 0) rfl (de_ix1 (de_var (i := 1) rfl ⟨m3, (da_nil ⟨[], _, parts_none, _, _, rfl, low_pos p ok.2, q⟩)⟩))))))⟩)))))⟩)))))))))
abbrev cTimes (P : Program) (w : World) (K : PySem.W.Frag) (mg : Str → Option Value) (base : Heap) : Prop := Cal P w K mg base "_law_times" 2 ["one", "two"] (ph2R fun a b => a * b)
theorem c_times (D : Dfn K mg "_law_times" s_law_times ["one", "two"]) (cr : cLow P w K mg base) : cTimes P w K mg base := by
  refine D.cal sc_law_times (fun as μ P h => ?_) fun f cdv A outer s H E hr as μ Pd h => ?_
  · obtain ⟨x, y, a, b, rfl, _⟩ := h; rfl
  obtain ⟨x, y, a, b, rfl, rfl, rfl, ok, q⟩ := h
  obtain ⟨m1, m2, m3, m4, p⟩ := ok.mul
  obtain ⟨⟨Z, _, z1, z2⟩, _⟩ := id ok
  have q : Pd (can (qv x * qv y)) μ := q
  rw [← fmul_q z1.pos z2.pos, show fmul x y = Dl.lo _ _ from rfl, lo_can p] at q
  exact db_one (ds_ret (de_c1 cr hr (by decide) (da_cons (de_mul (de_ix0 (de_var (i := 0) rfl (de_ix0 (de_var (i := 1) rfl ⟨m4, (da_cons (de_mul (de_ix1 (de_var (i := 0) rfl (de_ix1 (de_var (i := 1) rfl ⟨m3, (da_nil ⟨[], _, parts_none, _, _, rfl, low_pos p ok.2, q⟩)⟩))))))⟩))))))))
end
end K17
namespace K17
open PySem PySem.Spec PyProof.Rows L2 Dl
/-! ### what nodes stand for, by what their parts stand for -/
structure SemF (α : Type) where
  z : α
  f : Nd → (Nat → α) → α
  loc : ∀ (x : Nd) (e e' : Nat → α), (∀ a ∈ argsT x, e a = e' a) → f x e = f x e'
  mv : ∀ (o : List Nat) (x : Nd) (e : Nat → α), f (mvO o x) e = f x fun a => e (plI o a)
def ndG (N : List Nd) (t : Nat) : Nd := N.getD t (.num (0, 1))
def evF {α : Type} (s : SemF α) (N : List Nd) : Nat → Nat → α
  | 0, _ => s.z
  | f + 1, t => s.f (ndG N t) (evF s N f)
def ev {α : Type} (s : SemF α) (N : List Nd) (t : Nat) : α := evF s N (t + 1) t
def ArgsLt (N : List Nd) : Prop := ∀ (t : Nat) (x : Nd), N[t]? = some x → ∀ a ∈ argsT x, a < t
section
variable {α : Type} {s : SemF α} {N L : List Nd} {x : Nd} {t : Nat}
theorem ndG_get (h : t < N.length) : N[t]? = some (ndG N t) := by unfold ndG; rw [List.getD_eq_getElem?_getD, List.getElem?_eq_getElem h]; rfl
theorem ndG_some (h : N[t]? = some x) : ndG N t = x := by unfold ndG; rw [List.getD_eq_getElem?_getD, h]; rfl
theorem ndG_app (h : t < N.length) : ndG (N ++ L) t = ndG N t := by unfold ndG; rw [List.getD_eq_getElem?_getD, List.getD_eq_getElem?_getD, List.getElem?_append_left h]
theorem ndG_new : ndG (N ++ [x]) N.length = x := by unfold ndG; rw [List.getD_eq_getElem?_getD, List.getElem?_append_right (Nat.le_refl _), Nat.sub_self]; rfl
theorem argsG (h : ArgsLt N) (t : Nat) : ∀ a ∈ argsT (ndG N t), a < t := fun a ha => by
  by_cases c : t < N.length
  · exact h t _ (ndG_get c) a ha
  · unfold ndG at ha
    rw [List.getD_eq_getElem?_getD, List.getElem?_eq_none (by omega)] at ha
    cases ha
theorem evF_eq (h : ArgsLt N) : ∀ t f g, t < f → t < g → evF s N f t = evF s N g t := by
  intro t
  induction t using Nat.strongRecOn with
  | _ t ih =>
    intro f g hf hg
    cases f with
    | zero => omega
    | succ f =>
      cases g with
      | zero => omega
      | succ g =>
        show s.f (ndG N t) (evF s N f) = s.f (ndG N t) (evF s N g)
        exact s.loc _ _ _ fun a ha => ih a (argsG h t a ha) f g (by have := argsG h t a ha; omega) (by have := argsG h t a ha; omega)
theorem ev_eq (h : ArgsLt N) (t : Nat) : ev s N t = s.f (ndG N t) (ev s N) := by
  show s.f (ndG N t) (evF s N t) = _
  exact s.loc _ _ _ fun a ha => evF_eq h a t (a + 1) (argsG h t a ha) (Nat.lt_succ_self a)
theorem evF_app (h : ArgsLt N) : ∀ f t, t < N.length → evF s (N ++ L) f t = evF s N f t
  | 0, _, _ => rfl
  | f + 1, t, ht => by
    show s.f (ndG (N ++ L) t) (evF s (N ++ L) f) = s.f (ndG N t) (evF s N f)
    rw [ndG_app ht]
    exact s.loc _ _ _ fun a ha => evF_app h f a (Nat.lt_trans (argsG h t a ha) ht)
theorem ev_app (h : ArgsLt N) (ht : t < N.length) : ev s (N ++ L) t = ev s N t := evF_app h _ _ ht
theorem argsLt_snoc (h : ArgsLt N) (hx : ∀ a ∈ argsT x, a < N.length) : ArgsLt (N ++ [x]) := fun t y hy a ha => by
  rcases Nat.lt_or_ge t N.length with c | c
  · rw [List.getElem?_append_left c] at hy
    exact h t y hy a ha
  · rw [List.getElem?_append_right c] at hy
    have e : t - N.length = 0 := by
      have := (List.getElem?_eq_some_iff.mp hy).1
      simp at this; omega
    rw [e] at hy
    have : x = y := by simpa using hy
    subst this
    have := hx a ha
    omega
theorem ev_new (h : ArgsLt N) (hx : ∀ a ∈ argsT x, a < N.length) : ev s (N ++ [x]) N.length = s.f x (ev s N) := by
  rw [ev_eq (argsLt_snoc h hx), ndG_new]
  exact s.loc _ _ _ fun a ha => ev_app h (hx a ha)
def evL (s : SemF α) (N : List Nd) : List α := (List.range N.length).map (ev s N)
theorem evL_len : (evL s N).length = N.length := by unfold evL; simp
theorem evL_get (h : t < N.length) : (evL s N)[t]? = some (ev s N t) := by unfold evL; rw [List.getElem?_map, List.getElem?_range h]; rfl
theorem evL_snoc (h : ArgsLt N) (hx : ∀ a ∈ argsT x, a < N.length) : evL s (N ++ [x]) = evL s N ++ [s.f x (ev s N)] := by
  unfold evL
  rw [List.length_append, List.length_singleton, List.range_succ, List.map_append]
  congr 1
  · exact List.map_congr_left fun j hj => ev_app h (List.mem_range.mp hj)
  · show [ev s (N ++ [x]) N.length] = _
    rw [ev_new h hx]
/-! ### the nodes of an order -/
theorem argsT_mv (o : List Nat) (x : Nd) : argsT (mvO o x) = (argsT x).map (plI o) := by cases x <;> rfl
theorem plI_at {o : List Nat} (d : o.Nodup) {j a : Nat} (h : o[j]? = some a) : plI o a = j := by
  have h2 := plI_get (List.mem_of_getElem? h)
  obtain ⟨l1, e1⟩ := List.getElem?_eq_some_iff.mp h
  obtain ⟨l2, e2⟩ := List.getElem?_eq_some_iff.mp h2
  exact (List.getElem_inj d).mp (e2.trans e1.symm)
structure OrdN (N : List Nd) (o : List Nat) : Prop where
  nd : o.Nodup
  args : ∀ (k i : Nat), o[k]? = some i → ∀ a ∈ argsT (ndG N i), ∃ j : Nat, j < k ∧ o[j]? = some a
def mvL (N : List Nd) (o : List Nat) : List Nd := o.map fun i => mvO o (ndG N i)
theorem mvL_get {o : List Nat} {k i : Nat} (h : o[k]? = some i) : (mvL N o)[k]? = some (mvO o (ndG N i)) := by unfold mvL; rw [List.getElem?_map, h]; rfl
theorem mvL_len {o : List Nat} : (mvL N o).length = o.length := List.length_map _
theorem mvL_lt {o : List Nat} (h : OrdN N o) : ArgsLt (mvL N o) := fun t x hx a ha => by
  have hl := (List.getElem?_eq_some_iff.mp hx).1
  rw [mvL_len] at hl
  have hi := List.getElem?_eq_getElem hl
  rw [mvL_get hi] at hx
  cases hx
  rw [argsT_mv] at ha
  obtain ⟨b, hb, rfl⟩ := List.mem_map.mp ha
  obtain ⟨j, hj, e⟩ := h.args t _ hi b hb
  rw [plI_at h.nd e]; exact hj
theorem ev_ord (h : ArgsLt N) {o : List Nat} (ho : OrdN N o) : ∀ (k i : Nat), o[k]? = some i → ev s (mvL N o) k = ev s N i := by
  intro k
  induction k using Nat.strongRecOn with
  | _ k ih =>
    intro i hi
    rw [ev_eq (mvL_lt ho), ndG_some (mvL_get hi), s.mv, ev_eq h i]
    refine s.loc _ _ _ fun a ha => ?_
    obtain ⟨j, hj, e⟩ := ho.args k i hi a ha
    rw [plI_at ho.nd e]
    exact ih j hj a e
theorem evL_ord (h : ArgsLt N) {o : List Nat} (ho : OrdN N o) : evL s (mvL N o) = o.map (ev s N) := by
  refine List.ext_getElem? fun k => ?_
  by_cases c : k < o.length
  · have hi := List.getElem?_eq_getElem c
    rw [evL_get (by rw [mvL_len]; exact c), ev_ord h ho k _ hi, List.getElem?_map, hi]; rfl
  · rw [List.getElem?_eq_none (by rw [evL_len, mvL_len]; omega), List.getElem?_eq_none (by rw [List.length_map]; omega)]
end
/-! ### ranges, worths, letters, weights -/
def rgS (bx : Nat → RR) : SemF RR where
  z := (0, 0)
  f x e := match x with
    | .letter k => bx k
    | .num v => (qv v, qv v)
    | .abs i => absS (e i)
    | .pow i n => powS (e i) n
    | .op o i j => stOp o (e i) (e j)
  loc x e e' h := by
    cases x with
    | letter k => rfl
    | num v => rfl
    | abs i => exact congrArg absS (h i (by simp [argsT]))
    | pow i n => exact congrArg (fun y => powS y n) (h i (by simp [argsT]))
    | op o i j => show stOp o (e i) (e j) = stOp o (e' i) (e' j); rw [h i (by simp [argsT]), h j (by simp [argsT])]
  mv o x e := by cases x <;> rfl
def wtS (p : Nat → Rat) : SemF Rat where
  z := 0
  f x e := match x with
    | .letter k => p k
    | .num v => qv v
    | .abs i => if e i < 0 then -(e i) else e i
    | .pow i n => e i ^ n
    | .op o i j => wtOp o (e i) (e j)
  loc x e e' h := by
    cases x with
    | letter k => rfl
    | num v => rfl
    | abs i => exact congrArg (fun y : Rat => if y < 0 then -y else y) (h i (by simp [argsT]))
    | pow i n => exact congrArg (fun y : Rat => y ^ n) (h i (by simp [argsT]))
    | op o i j => show wtOp o (e i) (e j) = wtOp o (e' i) (e' j); rw [h i (by simp [argsT]), h j (by simp [argsT])]
  mv o x e := by cases x <;> rfl
def lsS : SemF (List Nat) where
  z := []
  f x e := match x with
    | .letter k => [k]
    | .num _ => []
    | .abs i => e i
    | .pow i _ => e i
    | .op _ i j => e i ++ e j
  loc x e e' h := by
    cases x with
    | letter k => rfl
    | num v => rfl
    | abs i => exact h i (by simp [argsT])
    | pow i n => exact h i (by simp [argsT])
    | op o i j => show e i ++ e j = e' i ++ e' j; rw [h i (by simp [argsT]), h j (by simp [argsT])]
  mv o x e := by cases x <;> rfl
def wgS : SemF Nat where
  z := 0
  f x e := match x with
    | .letter _ => 1
    | .num _ => 1
    | .abs i => e i + 1
    | .pow i n => e i * n
    | .op _ i j => e i + e j
  loc x e e' h := by
    cases x with
    | letter k => rfl
    | num v => rfl
    | abs i => show e i + 1 = e' i + 1; rw [h i (by simp [argsT])]
    | pow i n => show e i * n = e' i * n; rw [h i (by simp [argsT])]
    | op o i j => show e i + e j = e' i + e' j; rw [h i (by simp [argsT]), h j (by simp [argsT])]
  mv o x e := by cases x <;> rfl
section
variable {N : List Nd}
/-- a worth hangs on its letters alone -/
theorem wt_loc (h : ArgsLt N) {p p' : Nat → Rat} : ∀ t, (∀ k ∈ ev lsS N t, p k = p' k) → ev (wtS p) N t = ev (wtS p') N t := by
  intro t
  induction t using Nat.strongRecOn with
  | _ t ih =>
    intro hp
    have ha := argsG h t
    rw [ev_eq h t] at hp
    rw [ev_eq h t, ev_eq h t]
    cases e : ndG N t with
    | letter k => rw [e] at hp; exact hp k (by show k ∈ [k]; simp)
    | num v => rfl
    | abs i =>
      rw [e] at hp ha
      exact congrArg (fun y : Rat => if y < 0 then -y else y) (ih i (ha i (by simp [argsT])) hp)
    | pow i n =>
      rw [e] at hp ha
      exact congrArg (fun y : Rat => y ^ n) (ih i (ha i (by simp [argsT])) hp)
    | op o i j =>
      rw [e] at hp ha
      have hp : ∀ k ∈ ev lsS N i ++ ev lsS N j, p k = p' k := hp
      show wtOp o _ _ = wtOp o _ _
      rw [ih i (ha i (by simp [argsT])) fun k hk => hp k (List.mem_append_left _ hk), ih j (ha j (by simp [argsT])) fun k hk => hp k (List.mem_append_right _ hk)]
/-- a range hangs on its letters' stretches alone -/
theorem rg_loc (h : ArgsLt N) {b b' : Nat → RR} : ∀ t, (∀ k ∈ ev lsS N t, b k = b' k) → ev (rgS b) N t = ev (rgS b') N t := by
  intro t
  induction t using Nat.strongRecOn with
  | _ t ih =>
    intro hp
    have ha := argsG h t
    rw [ev_eq h t] at hp
    rw [ev_eq h t, ev_eq h t]
    cases e : ndG N t with
    | letter k => rw [e] at hp; exact hp k (by show k ∈ [k]; simp)
    | num v => rfl
    | abs i =>
      rw [e] at hp ha
      exact congrArg absS (ih i (ha i (by simp [argsT])) hp)
    | pow i n =>
      rw [e] at hp ha
      exact congrArg (fun y : RR => powS y n) (ih i (ha i (by simp [argsT])) hp)
    | op o i j =>
      rw [e] at hp ha
      have hp : ∀ k ∈ ev lsS N i ++ ev lsS N j, b k = b' k := hp
      show stOp o _ _ = stOp o _ _
      rw [ih i (ha i (by simp [argsT])) fun k hk => hp k (List.mem_append_left _ hk), ih j (ha j (by simp [argsT])) fun k hk => hp k (List.mem_append_right _ hk)]
end
end K17
namespace K17
open PySem PySem.Spec PyProof.Rows L2 Dl
section
variable {P : Program} {w : World} {K : PySem.W.Frag} {mg : Str → Option Value} {base : Heap} {C : Addr}
/-! ### ranges of a problem's nodes over a box -/
def phRanges : Pm (Tup St2) := fun as μ Q => ∃ (p : Prb) (B : List St2) (bx : Nat → RR), as = [sl p, sl (Tup.mk B)] ∧ μ = [] ∧ (ArgsLt p.nodes ∧ p.nodes.length ≤ 5000 ∧ ∀ t, t < p.nodes.length → nrA (ndG p.nodes t) (((evL (rgS bx) p.nodes).take t).map canS) B (canS (ev (rgS bx) p.nodes t))) ∧ Q ⟨(evL (rgS bx) p.nodes).map canS⟩ []
theorem c_ranges (D : Dfn K mg "ranges" s_ranges ["problem", "box"]) (ht : mg "tuple" = none) (pk : PrbK K) (cn : Cal P w K mg base "node_range" 6 ["node", "found", "box"] (phRangeT nrA)) : Cal P w K mg base "ranges" 7 ["problem", "box"] phRanges := by
  refine D.cal sc_ranges (fun as μ P h => ?_) fun f cdv A outer s H E hr as μ Pd h => ?_
  · obtain ⟨_, _, _, rfl, _⟩ := h; rfl
  obtain ⟨p, B, bx, rfl, rfl, ⟨hA, hl, hn⟩, q⟩ := h
  refine db_cons (ds_set (i := 2) sc_ranges.nd <| de_lstN (α := St2) <| da_nil ⟨[], rfl, by decide, fun la => ?_⟩)
  refine db_cons (ds_forT (α := Nd) PassesOwn.never rfl (pg_name (i := 3) sc_ranges.nd rfl (Or.inl rfl)) (fun (x : Nd) δ => δ.set 3 (sl x)) (fun x δ' => wg_name)
    (de_pfld pk.cls pk.nodes <| de_var (i := 0) rfl ⟨_, rfl, fun k δ' μ' => ∃ s3, δ' = [sl p, sl (Tup.mk B), sl (Ref.mk la), s3] ∧ μ' = [lst la (((evL (rgS bx) p.nodes).take k).map canS)], ⟨_, rfl, rfl⟩, fun k x δ' μ' hx hI => ?_, fun δ' μ' hI => ?_⟩))
  · obtain ⟨s3, rfl, rfl⟩ := hI
    have hx : p.nodes[k]? = some x := hx
    have hk := (List.getElem?_eq_some_iff.mp hx).1
    have hG := ndG_some hx
    have nr := hn k hk
    rw [hG] at nr
    refine db_one (ds_expr (de_append (α := St2) 0 <| de_var (i := 2) rfl ⟨⟨_, rfl⟩, de_c1 cn hr (by decide) <| da_cons <| de_var (i := 3) rfl <| da_cons <| de_var (i := 2) rfl <| da_cons <| de_var (i := 1) rfl <| da_nil ⟨_, _, parts_hd, x, _, la, _, B, rfl, rfl, nr, _, rfl, ?_, ?_⟩⟩))
    · rw [List.length_map, List.length_take]; omega
    · refine ⟨_, rfl, ?_⟩
      rw [take_snoc (evL_get hk)]
      rfl
  · obtain ⟨s3, rfl, rfl⟩ := hI
    rw [show (Tup.mk p.nodes).l.length = (evL (rgS bx) p.nodes).length from evL_len.symm, List.take_length]
    exact db_one (ds_ret <| de_drop <| de_tupleC (α := St2) 0 ht <| de_var (i := 2) rfl ⟨_, rfl, [], _, ⟨List.Perm.refl _⟩, q⟩)
end
end K17
namespace K17
open PySem PySem.Spec PyProof.Rows L2 Dl
/-! ### each letter once: a range is the span of the worths at the corners -/
/-- the least and the greatest of some worths -/
structure Spn (s : RR) (V : Rat → Prop) : Prop where
  bd : ∀ v, V v → s.1 ≤ v ∧ v ≤ s.2
  lo : V s.1
  hi : V s.2
def V2 (o : Op2) (A B : Rat → Prop) : Rat → Prop := fun v => ∃ a b, A a ∧ B b ∧ v = wtOp o a b
section
variable {s t : RR} {A B : Rat → Prop}
theorem Spn.le (h : Spn s A) : s.1 ≤ s.2 := (h.bd _ h.lo).2
theorem spn_add (h : Spn s A) (k : Spn t B) : Spn (stOp .add s t) (V2 .add A B) := by
  refine ⟨?_, ⟨_, _, h.lo, k.lo, rfl⟩, ⟨_, _, h.hi, k.hi, rfl⟩⟩
  rintro v ⟨a, b, ha, hb, rfl⟩
  have h1 := h.bd a ha
  have h2 := k.bd b hb
  show s.1 + t.1 ≤ a + b ∧ a + b ≤ s.2 + t.2
  constructor <;> grind
theorem spn_sub (h : Spn s A) (k : Spn t B) : Spn (stOp .sub s t) (V2 .sub A B) := by
  refine ⟨?_, ⟨_, _, h.lo, k.hi, rfl⟩, ⟨_, _, h.hi, k.lo, rfl⟩⟩
  rintro v ⟨a, b, ha, hb, rfl⟩
  have h1 := h.bd a ha
  have h2 := k.bd b hb
  show s.1 - t.2 ≤ a - b ∧ a - b ≤ s.2 - t.1
  constructor <;> grind
theorem mul_le2 {x y c : Rat} (h : x ≤ y) (hc : 0 ≤ c) : x * c ≤ y * c := Rat.mul_le_mul_of_nonneg_right h hc
theorem mul_ge2 {x y c : Rat} (h : x ≤ y) (hc : c ≤ 0) : y * c ≤ x * c := by
  have := mul_le2 h (show 0 ≤ -c by grind)
  grind
/-- a product lies between those at the ends -/
theorem lin_min {x a y c : Rat} (h1 : x ≤ a) (h2 : a ≤ y) : (x * c ≤ a * c ∧ a * c ≤ y * c) ∨ (y * c ≤ a * c ∧ a * c ≤ x * c) := by
  by_cases hc : 0 ≤ c
  · exact .inl ⟨mul_le2 h1 hc, mul_le2 h2 hc⟩
  · have hc : c ≤ 0 := Rat.le_of_lt (Rat.not_le.mp hc)
    exact .inr ⟨mul_ge2 h2 hc, mul_ge2 h1 hc⟩
theorem minQ_le {a b : Rat} : minQ a b ≤ a ∧ minQ a b ≤ b := by
  unfold minQ
  split
  · exact ⟨Rat.le_refl, by assumption⟩
  · have : b < a := Rat.not_le.mp (by assumption)
    exact ⟨Rat.le_of_lt this, Rat.le_refl⟩
theorem le_maxQ {a b : Rat} : a ≤ maxQ a b ∧ b ≤ maxQ a b := by
  unfold maxQ
  split
  · exact ⟨Rat.le_refl, by assumption⟩
  · have : a < b := Rat.not_le.mp (by assumption)
    exact ⟨Rat.le_of_lt this, Rat.le_refl⟩
theorem minQ_or {P : Rat → Prop} {a b : Rat} (h : P a) (k : P b) : P (minQ a b) := by unfold minQ; split <;> assumption
theorem maxQ_or {P : Rat → Prop} {a b : Rat} (h : P a) (k : P b) : P (maxQ a b) := by unfold maxQ; split <;> assumption
theorem four_bd {x y u v a b : Rat} (h1 : x ≤ a) (h2 : a ≤ y) (h3 : u ≤ b) (h4 : b ≤ v) {m M : Rat} (m1 : m ≤ x * u) (m2 : m ≤ x * v) (m3 : m ≤ y * u) (m4 : m ≤ y * v) (n1 : x * u ≤ M) (n2 : x * v ≤ M) (n3 : y * u ≤ M) (n4 : y * v ≤ M) : m ≤ a * b ∧ a * b ≤ M := by
  have k1 := lin_min (c := b) h1 h2
  have k2 := lin_min (c := x) h3 h4
  have k3 := lin_min (c := y) h3 h4
  rw [Rat.mul_comm u x, Rat.mul_comm b x, Rat.mul_comm v x] at k2
  rw [Rat.mul_comm u y, Rat.mul_comm b y, Rat.mul_comm v y] at k3
  constructor <;> grind
theorem spn_mul (h : Spn s A) (k : Spn t B) : Spn (stOp .mul s t) (V2 .mul A B) := by
  show Spn (mulS s t) _
  have e1 : V2 .mul A B (s.1 * t.1) := ⟨_, _, h.lo, k.lo, rfl⟩
  have e2 : V2 .mul A B (s.1 * t.2) := ⟨_, _, h.lo, k.hi, rfl⟩
  have e3 : V2 .mul A B (s.2 * t.1) := ⟨_, _, h.hi, k.lo, rfl⟩
  have e4 : V2 .mul A B (s.2 * t.2) := ⟨_, _, h.hi, k.hi, rfl⟩
  unfold mulS
  split
  · rename_i hp
    refine ⟨?_, e1, e4⟩
    rintro v ⟨a, b, ha, hb, rfl⟩
    have h1 := h.bd a ha
    have h2 := k.bd b hb
    show s.1 * t.1 ≤ a * b ∧ a * b ≤ s.2 * t.2
    have a0 : 0 ≤ a := Rat.le_trans hp.1 h1.1
    have b0 : 0 ≤ b := Rat.le_trans hp.2 h2.1
    have y0 : 0 ≤ s.2 := Rat.le_trans a0 h1.2
    refine ⟨Rat.le_trans (mul_le2 h1.1 hp.2) ?_, Rat.le_trans (mul_le2 h1.2 b0) ?_⟩
    · rw [Rat.mul_comm a, Rat.mul_comm a]; exact mul_le2 h2.1 a0
    · rw [Rat.mul_comm s.2, Rat.mul_comm s.2]; exact mul_le2 h2.2 y0
  · refine ⟨?_, minQ_or (minQ_or (minQ_or e1 e2) e3) e4, maxQ_or (maxQ_or (maxQ_or e1 e2) e3) e4⟩
    rintro v ⟨a, b, ha, hb, rfl⟩
    have h1 := h.bd a ha
    have h2 := k.bd b hb
    have q1 := minQ_le (a := s.1 * t.1) (b := s.1 * t.2)
    have q2 := minQ_le (a := minQ (s.1 * t.1) (s.1 * t.2)) (b := s.2 * t.1)
    have q3 := minQ_le (a := minQ (minQ (s.1 * t.1) (s.1 * t.2)) (s.2 * t.1)) (b := s.2 * t.2)
    have r1 := le_maxQ (a := s.1 * t.1) (b := s.1 * t.2)
    have r2 := le_maxQ (a := maxQ (s.1 * t.1) (s.1 * t.2)) (b := s.2 * t.1)
    have r3 := le_maxQ (a := maxQ (maxQ (s.1 * t.1) (s.1 * t.2)) (s.2 * t.1)) (b := s.2 * t.2)
    exact four_bd h1.1 h1.2 h2.1 h2.2 (Rat.le_trans q3.1 (Rat.le_trans q2.1 q1.1)) (Rat.le_trans q3.1 (Rat.le_trans q2.1 q1.2)) (Rat.le_trans q3.1 q2.2) q3.2
      (Rat.le_trans r1.1 (Rat.le_trans r2.1 r3.1)) (Rat.le_trans r1.2 (Rat.le_trans r2.1 r3.1)) (Rat.le_trans r2.2 r3.1) r3.2
theorem spn_div {c : Rat} (hc : c ≠ 0) (h : Spn s A) : Spn (stOp .div s (c, c)) (V2 .div A fun v => v = c) := by
  show Spn (mulS s (1 / c, 1 / c)) _
  have k : Spn (1 / c, 1 / c) (fun v => v = 1 / c) := ⟨fun v hv => by rw [hv]; exact ⟨Rat.le_refl, Rat.le_refl⟩, rfl, rfl⟩
  have m := spn_mul h k
  have e : V2 .mul A (fun v => v = 1 / c) = V2 .div A fun v => v = c := by
    funext v
    refine propext ⟨?_, ?_⟩
    · rintro ⟨a, b, ha, rfl, rfl⟩
      exact ⟨a, c, ha, rfl, by show a * (1 / c) = a / c; grind⟩
    · rintro ⟨a, b, ha, rfl, rfl⟩
      exact ⟨a, _, ha, rfl, by show a / b = a * (1 / b); grind⟩
  rw [e] at m
  exact m
end
/-- a node of a term in which each letter stands once -/
def GoodNd (n : Nat) (N : List Nd) (t : Nat) : Nd → Prop
  | .letter k => k < n ∧ k = t
  | .num v => v = can (qv v) ∧ Nm 40 v
  | .op o i j => i < t ∧ j < t ∧ (∀ k ∈ ev lsS N i, k ∉ ev lsS N j) ∧ (o = .add ∨ o = .sub ∨ o = .mul ∨ (o = .div ∧ ∃ v, N[j]? = some (.num v) ∧ qv v ≠ 0))
  | _ => False
structure OnceN (n : Nat) (N : List Nd) : Prop where
  len : n ≤ N.length
  lets : ∀ k, k < n → N[k]? = some (.letter k)
  good : ∀ t x, N[t]? = some x → GoodNd n N t x
section
variable {n : Nat} {N : List Nd} {l u : Nat → Rat}
theorem OnceN.args (h : OnceN n N) : ArgsLt N := fun t x hx a ha => by
  have g := h.good t x hx
  cases x with
  | letter k => cases ha
  | num v => cases ha
  | abs i => exact g.elim
  | pow i m => exact g.elim
  | op o i j =>
    have ha : a ∈ [i, j] := ha
    rcases List.mem_cons.mp ha with rfl | ha
    · exact g.1
    · rw [List.mem_singleton.mp ha]; exact g.2.1
theorem OnceN.ls_lt (h : OnceN n N) : ∀ t, t < N.length → ∀ k ∈ ev lsS N t, k < n := by
  intro t
  induction t using Nat.strongRecOn with
  | _ t ih =>
    intro ht k hk
    rw [ev_eq h.args t] at hk
    have g := h.good t _ (ndG_get ht)
    cases e : ndG N t with
    | letter i =>
      rw [e] at hk g
      have hk : k ∈ [i] := hk
      rw [List.mem_singleton.mp hk]; exact g.1
    | num v => rw [e] at hk; exact absurd (show k ∈ ([] : List Nat) from hk) List.not_mem_nil
    | abs i => rw [e] at g; exact g.elim
    | pow i m => rw [e] at g; exact g.elim
    | op o i j =>
      rw [e] at hk g
      rcases List.mem_append.mp (show k ∈ ev lsS N i ++ ev lsS N j from hk) with z | z
      · exact ih i g.1 (Nat.lt_trans g.1 ht) k z
      · exact ih j g.2.1 (Nat.lt_trans g.2.1 ht) k z
def Cor (l u p : Nat → Rat) : Prop := ∀ k, p k = l k ∨ p k = u k
/-- the worths of a node at the corners -/
def VC (N : List Nd) (l u : Nat → Rat) (t : Nat) : Rat → Prop := fun v => ∃ p, Cor l u p ∧ v = ev (wtS p) N t
theorem vc_mix (h : ArgsLt N) {o : Op2} {i j t : Nat} (e : ndG N t = .op o i j) (d : ∀ k ∈ ev lsS N i, k ∉ ev lsS N j) : VC N l u t = V2 o (VC N l u i) (VC N l u j) := by
  funext v
  refine propext ⟨?_, ?_⟩
  · rintro ⟨p, hp, rfl⟩
    rw [ev_eq h t, e]
    exact ⟨_, _, ⟨p, hp, rfl⟩, ⟨p, hp, rfl⟩, rfl⟩
  · rintro ⟨_, _, ⟨p, hp, rfl⟩, ⟨p', hp', rfl⟩, rfl⟩
    refine ⟨fun k => if k ∈ ev lsS N i then p k else p' k, fun k => ?_, ?_⟩
    · show (if k ∈ ev lsS N i then p k else p' k) = l k ∨ (if k ∈ ev lsS N i then p k else p' k) = u k
      split
      · exact hp k
      · exact hp' k
    · rw [ev_eq h t, e]
      show _ = wtOp o _ _
      rw [wt_loc h (p := fun k => if k ∈ ev lsS N i then p k else p' k) (p' := p) i fun k hk => if_pos hk,
        wt_loc h (p := fun k => if k ∈ ev lsS N i then p k else p' k) (p' := p') j fun k hk => if_neg fun z => d k z hk]
theorem num_vc (h : ArgsLt N) {t : Nat} {v : Q2} (e : ndG N t = .num v) : VC N l u t = fun y => y = qv v := by
  funext y
  refine propext ⟨?_, ?_⟩
  · rintro ⟨p, _, rfl⟩
    rw [ev_eq h t, e]; rfl
  · intro hy
    have hy : y = qv v := hy
    exact ⟨l, fun _ => .inl rfl, by rw [ev_eq h t, e]; exact hy⟩
/-- the range is the span at the corners -/
theorem OnceN.span (h : OnceN n N) (hlu : ∀ k, k < n → l k ≤ u k) : ∀ t, t < N.length → Spn (ev (rgS fun k => (l k, u k)) N t) (VC N l u t) := by
  intro t
  induction t using Nat.strongRecOn with
  | _ t ih =>
    intro ht
    have hA := h.args
    have g := h.good t _ (ndG_get ht)
    rw [ev_eq hA t]
    cases e : ndG N t with
    | letter k =>
      rw [e] at g
      have hle := hlu k g.1
      have w : ∀ p, ev (wtS p) N t = p k := fun p => by rw [ev_eq hA t, e]; rfl
      refine ⟨?_, ⟨l, fun _ => .inl rfl, (w l).symm⟩, ⟨u, fun _ => .inr rfl, (w u).symm⟩⟩
      rintro v ⟨p, hp, rfl⟩
      rw [w p]
      show l k ≤ p k ∧ p k ≤ u k
      rcases hp k with z | z <;> rw [z]
      · exact ⟨Rat.le_refl, hle⟩
      · exact ⟨hle, Rat.le_refl⟩
    | num v =>
      rw [num_vc hA e]
      exact ⟨fun y hy => by rw [hy]; exact ⟨Rat.le_refl, Rat.le_refl⟩, rfl, rfl⟩
    | abs i => rw [e] at g; exact g.elim
    | pow i m => rw [e] at g; exact g.elim
    | op o i j =>
      rw [e] at g
      obtain ⟨hi, hj, hd, ho⟩ := g
      have si := ih i hi (Nat.lt_trans hi ht)
      have sj := ih j hj (Nat.lt_trans hj ht)
      rw [vc_mix hA e hd]
      show Spn (stOp o _ _) _
      rcases ho with rfl | rfl | rfl | ⟨rfl, v, hv, hz⟩
      · exact spn_add si sj
      · exact spn_sub si sj
      · exact spn_mul si sj
      · have ej := ndG_some hv
        rw [num_vc hA ej]
        rw [show ev (rgS fun k => (l k, u k)) N j = (qv v, qv v) by rw [ev_eq hA j, ej]; rfl]
        exact spn_div hz si
/-! ### sizes -/
theorem nmS_mul {s t : RR} {A B : Nat} (h : NmS A s) (k : NmS B t) : NmS (A + B) (mulS s t) := by
  obtain ⟨a1, a2⟩ := h
  obtain ⟨b1, b2⟩ := k
  have e1 := nm_mul a1 b1
  have e2 := nm_mul a1 b2
  have e3 := nm_mul a2 b1
  have e4 := nm_mul a2 b2
  unfold mulS
  split
  · exact ⟨e1, e4⟩
  · exact ⟨nm_minQ (nm_minQ (nm_minQ e1 e2) e3) e4, nm_maxQ (nm_maxQ (nm_maxQ e1 e2) e3) e4⟩
theorem wg_pos (h : OnceN n N) : ∀ t, t < N.length → 1 ≤ ev wgS N t := by
  intro t
  induction t using Nat.strongRecOn with
  | _ t ih =>
    intro ht
    have g := h.good t _ (ndG_get ht)
    rw [ev_eq h.args t]
    cases e : ndG N t with
    | letter k => exact Nat.le_refl _
    | num v => exact Nat.le_refl _
    | abs i => rw [e] at g; exact g.elim
    | pow i m => rw [e] at g; exact g.elim
    | op o i j =>
      rw [e] at g
      have := ih i g.1 (Nat.lt_trans g.1 ht)
      show 1 ≤ ev wgS N i + ev wgS N j
      omega
theorem OnceN.size (h : OnceN n N) (hb : ∀ k, k < n → Nm 53 (can (l k)) ∧ Nm 53 (can (u k))) : ∀ t, t < N.length → NmS (54 * ev wgS N t - 1) (ev (rgS fun k => (l k, u k)) N t) := by
  intro t
  induction t using Nat.strongRecOn with
  | _ t ih =>
    intro ht
    have hA := h.args
    have g := h.good t _ (ndG_get ht)
    rw [ev_eq (s := wgS) hA t, ev_eq (s := rgS fun k => (l k, u k)) hA t]
    cases e : ndG N t with
    | letter k => rw [e] at g; exact hb k g.1
    | num v =>
      rw [e] at g
      have z : Nm 53 (can (qv v)) := by rw [← g.1]; exact g.2.mono (by decide)
      exact ⟨z, z⟩
    | abs i => rw [e] at g; exact g.elim
    | pow i m => rw [e] at g; exact g.elim
    | op o i j =>
      rw [e] at g
      obtain ⟨hi, hj, hd, ho⟩ := g
      have si := ih i hi (Nat.lt_trans hi ht)
      have sj := ih j hj (Nat.lt_trans hj ht)
      have wi := wg_pos h i (Nat.lt_trans hi ht)
      have wj := wg_pos h j (Nat.lt_trans hj ht)
      show NmS (54 * (ev wgS N i + ev wgS N j) - 1) (stOp o _ _)
      have up : ∀ {s : RR} {A : Nat}, NmS A s → A ≤ 54 * (ev wgS N i + ev wgS N j) - 1 → NmS (54 * (ev wgS N i + ev wgS N j) - 1) s := fun z k => ⟨z.1.mono k, z.2.mono k⟩
      rcases ho with rfl | rfl | rfl | ⟨rfl, v, hv, hz⟩
      · exact up (A := _ + _ + 1) ⟨nm_add si.1 sj.1, nm_add si.2 sj.2⟩ (by omega)
      · exact up (A := _ + _ + 1) ⟨nm_sub si.1 sj.2, nm_sub si.2 sj.1⟩ (by omega)
      · exact up (nmS_mul si sj) (by omega)
      · have ej := ndG_some hv
        have er : ev (rgS fun k => (l k, u k)) N j = (qv v, qv v) := by rw [ev_eq hA j, ej]; rfl
        rw [er] at sj ⊢
        exact up (nmS_mul si ⟨nm_inv hz sj.1, nm_inv hz sj.1⟩) (by omega)
theorem OnceN.sizeW (h : OnceN n N) {p : Nat → Rat} (hb : ∀ k, k < n → Nm 53 (can (p k))) {t : Nat} (ht : t < N.length) : Nm (54 * ev wgS N t - 1) (can (ev (wtS p) N t)) := by
  have a := h.size (l := p) (u := p) (fun k hk => ⟨hb k hk, hb k hk⟩) t ht
  have b := h.span (l := p) (u := p) (fun k _ => Rat.le_refl) t ht
  have c := b.bd _ ⟨p, fun _ => .inl rfl, rfl⟩
  have d : ev (wtS p) N t = (ev (rgS fun k => (p k, p k)) N t).1 := by
    obtain ⟨p', hp', e⟩ := b.lo
    rw [e]
    have : p = p' := funext fun k => by rcases hp' k with z | z <;> rw [z]
    rw [this]
  rw [d]; exact a.1
end
end K17
namespace K17
open PySem PySem.Spec PyProof.Rows L2 Dl
section
variable {P : Program} {w : World} {K : PySem.W.Frag} {mg : Str → Option Value} {base : Heap} {C : Addr}
/-! ### what the law draws and says of numbers -/
abbrev cDraw (P : Program) (w : World) (K : PySem.W.Frag) (mg : Str → Option Value) (base : Heap) : Prop := Cal P w K mg base "_law_draw" 1 ["jar", "many"] phDraw
theorem kS_real (b : Bool) : decide (kS b = ("real" : Str)) = !b := by cases b <;> decide +kernel
theorem ok_real : PyData.strOk ("real" : Str) = true := by decide +kernel
theorem nmq {t b : Int} {A : Nat} (hb : 0 < b) (h1 : t.natAbs < 2 ^ A) (h2 : b.natAbs < 2 ^ A) : Nm A (can (qv (t, b))) := nm_frac hb h1 h2
theorem low_small {b : Int} (h0 : 0 < b) (h1 : b < 2 ^ 64) : b ≠ 0 ∧ b.natAbs < 2 ^ 9000 := by
  refine ⟨by omega, pow2_mono (a := 64) ?_ (by decide)⟩
  have : b.natAbs < 18446744073709551616 := by omega
  exact this
theorem two_add {A B : Nat} : 2 ^ A + 2 ^ B ≤ 2 ^ (A + B + 1) := by
  have h1 : 2 ^ A ≤ 2 ^ (A + B) := Nat.pow_le_pow_right (by decide) (by omega)
  have h2 : 2 ^ B ≤ 2 ^ (A + B) := Nat.pow_le_pow_right (by decide) (by omega)
  rw [Nat.pow_succ]; omega
def IsI (q : Rat) : Prop := ∃ t : Int, q = (t : Rat)
structure PlOk (b : Bool) (A B : Nat) (lo hi x : Rat) : Prop where
  ge : lo ≤ x
  le : x ≤ hi
  nm : Nm (A + A + B + 6) (can x)
  wh : b = true → IsI x
theorem between {lo hi : Rat} {d : Int} (h : lo ≤ hi) (h0 : 0 ≤ d) (h1 : d < 9) : lo ≤ lo + (hi - lo) * ((d : Rat) / ((8 : Int) : Rat)) ∧ lo + (hi - lo) * ((d : Rat) / ((8 : Int) : Rat)) ≤ hi := by
  have e : ((d : Rat) / ((8 : Int) : Rat)) * 8 = d := by
    have : ((8 : Int) : Rat) = 8 := rfl
    rw [this, Rat.div_mul_cancel (by decide)]
  have g0 : (0 : Rat) ≤ (d : Rat) := by exact_mod_cast h0
  have g1 : (d : Rat) ≤ 8 := by
    have : d ≤ 8 := by omega
    exact_mod_cast this
  generalize (d : Rat) / ((8 : Int) : Rat) = t at e
  have t0 : 0 ≤ t := by grind
  have t1 : 0 ≤ 1 - t := by grind
  have w0 : 0 ≤ hi - lo := by grind
  have p1 := Rat.mul_nonneg w0 t0
  have p2 := Rat.mul_nonneg w0 t1
  constructor <;> grind
def phLPlace : Pm Q2 := fun as μ P => ∃ (j g : Addr) (b : Bool) (lo hi : Rat) (A B : Nat), as = [sl (Ref.mk j), sl (kS b), sl ((can lo, can hi) : St2)] ∧ μ = [JarC j g] ∧ (Nm A (can lo) ∧ Nm B (can hi) ∧ A + B ≤ 4300 ∧ lo ≤ hi ∧ (b = true → IsI lo ∧ IsI hi)) ∧ ∀ x, PlOk b A B lo hi x → P (can x) [JarC j g]
theorem c_lplace (D : Dfn K mg "_law_place" s_law_place ["jar", "kind", "stretch"]) (cd : cDraw P w K mg base) (cl : cLow P w K mg base) (cm : cMinus P w K mg base) (ct : cTimes P w K mg base) (cp : cPlus P w K mg base) : Cal P w K mg base "_law_place" 3 ["jar", "kind", "stretch"] phLPlace := by
  refine D.cal sc_law_place (fun as μ P h => ?_) fun f cdv A' outer s H E hr as μ Pd h => ?_
  · obtain ⟨_, _, _, _, _, _, _, rfl, _⟩ := h; rfl
  obtain ⟨j, g, b, lo, hi, A, B, rfl, rfl, ⟨zl, zh, hAB, hle, hwh⟩, q⟩ := h
  have zw := nm_sub zh zl
  refine db_cons (ds_set (i := 3) sc_law_place.nd <| de_c1 cm hr (by decide) <| da_cons <| de_ix1 (α := Q2) (β := Q2) <| de_var (i := 2) rfl <| da_cons <| de_ix0 (α := Q2) (β := Q2) <| de_var (i := 2) rfl <| da_nil ⟨[], _, parts_none, _, _, _, _, rfl, qv_can _, qv_can _, ok2_of zh zl (by omega), ?_⟩)
  refine db_cons (ds_if <| dt_eqS (un_of hr) <| de_var (i := 1) rfl <| de_str ⟨⟨kS_ok b, ok_whole⟩, ?_⟩)
  rw [kS_eq]
  refine ⟨fun hb => ?_, fun hb => db_nil ?_⟩
  · obtain ⟨⟨i, rfl⟩, ⟨k, rfl⟩⟩ := hwh hb
    dsimp only
    rw [show (k : Rat) - (i : Rat) = ((k - i : Int) : Rat) from (Rat.intCast_sub ..).symm] at zw ⊢
    have hik : i ≤ k := by exact_mod_cast hle
    have w1 := zw.t
    rw [can_int] at w1
    have w1 : (k - i).natAbs < 2 ^ (B + A + 1) := w1
    have i1 : i.natAbs < 2 ^ A := zl.t
    have k1 : k.natAbs < 2 ^ B := zh.t
    refine db_one (ds_ret <| de_tup2 (α := Int) (β := Int) <| de_add <| de_ix0 (α := Int) (β := Int) <| de_ix0 (α := Q2) (β := Q2) <| de_var (i := 2) rfl <| de_c1 cd hr (by decide) <| da_cons <| de_var (i := 0) rfl <| da_cons <| de_add <| de_ix0 (α := Int) (β := Int) <| de_var (i := 3) rfl <| de_int <| da_nil ⟨_, _, parts_hd, j, g, _, rfl, rfl, ⟨?_, ?_⟩, fun d d0 d1 => de_int ?_⟩)
    · show 0 < (k - i) + 1
      omega
    · refine bits_of (n := 9000) ?_ (by decide)
      have h2 : 2 ^ (B + A + 1) ≤ 2 ^ 8999 := Nat.pow_le_pow_right (by decide) (by omega)
      have h3 : 2 ^ 9000 = 2 ^ 8999 * 2 := Nat.pow_succ ..
      have h4 : 0 < 2 ^ 8999 := Nat.pow_pos (by decide)
      show ((k - i) + 1).natAbs < 2 ^ 9000
      rw [h3]
      omega
    · have d1 : d < (k - i) + 1 := d1
      refine q ((i + d : Int) : Rat) ⟨by exact_mod_cast (by omega : i ≤ i + d), by exact_mod_cast (by omega : i + d ≤ k), nm_int ?_ (by omega), fun _ => ⟨_, rfl⟩⟩
      have h5 : 2 ^ A + 2 ^ B ≤ 2 ^ (A + B + 1) := two_add
      have h6 : 2 ^ (A + B + 1) ≤ 2 ^ (A + A + B + 6) := Nat.pow_le_pow_right (by decide) (by omega)
      omega
  · refine db_one (ds_ret <| de_c1 cp hr (by decide) <| da_cons <| de_ix0 (α := Q2) (β := Q2) <| de_var (i := 2) rfl <| da_cons <| de_c1 ct hr (by decide) <| da_cons <| de_var (i := 3) rfl <| da_cons <| de_c1 cl hr (by decide) <| da_cons <| de_c1 cd hr (by decide) <| da_cons <| de_var (i := 0) rfl <| da_cons <| de_int <| da_nil ⟨_, _, parts_hd, j, g, _, rfl, rfl, ⟨by decide, by decide⟩, fun d d0 d1 => da_cons <| de_int <| da_nil ⟨[], _, parts_none, _, _, rfl, low_small (by decide) (by decide), ?_⟩⟩)
    have zd : Nm 4 (can ((d : Rat) / ((8 : Int) : Rat))) := nm_frac (by decide) (by show d.natAbs < 16; omega) (by decide)
    have zt := nm_mul zw zd
    have hb2 := between hle d0 d1
    exact da_nil ⟨[], _, parts_none, _, _, _, _, rfl, qv_can _, qv_can _, ok2_of zw zd (by omega), da_nil ⟨[], _, parts_none, _, _, _, _, rfl, qv_can _, qv_can _, ok2_of zl zt (by omega), q _ ⟨hb2.1, hb2.2, (nm_add zl zt).mono (by omega), fun z => by rw [hb] at z; cases z⟩⟩⟩
theorem num_eq (q : Rat) : (((can q).1 : Int) : Rat) = q * (((can q).2 : Int) : Rat) := by
  have e := qv_can q
  unfold qv at e
  have := Rat.div_mul_cancel (a := (((can q).1 : Int) : Rat)) (cast_ne (can_pos q))
  rw [e] at this
  exact this.symm
theorem rlt_of_le_lt {a b c : Rat} (h : a ≤ b) (k : b < c) : a < c := by grind
theorem rlt_of_lt_le {a b c : Rat} (h : a < b) (k : b ≤ c) : a < c := by grind
theorem fl_le (q : Rat) : ((flQ q : Int) : Rat) ≤ q := by
  have h := can_pos q
  have e := qv_can q
  have n := cast_ne h
  have p : (0 : Rat) < (((can q).2 : Int) : Rat) := by exact_mod_cast h
  have m : (can q).2 * flQ q ≤ (can q).1 := Int.mul_ediv_self_le (by omega)
  have m : ((((can q).2 : Int) : Rat)) * ((flQ q : Int) : Rat) ≤ (((can q).1 : Int) : Rat) := by
    rw [← Rat.intCast_mul]; exact_mod_cast m
  unfold qv at e
  have e2 : (((can q).1 : Int) : Rat) = q * (((can q).2 : Int) : Rat) := num_eq q
  rw [e2] at m
  refine Rat.not_lt.mp fun z => ?_
  have := Rat.mul_lt_mul_of_pos_left z p
  grind
theorem can_neg1 (q : Rat) : ceQ q = - flQ (-q) := by
  unfold ceQ flQ
  rw [show can (-q) = (-(can q).1, (can q).2) from (can_neg q).symm]
theorem fl_int (t : Int) : flQ (t : Rat) = t := by show t / 1 = t; exact Int.ediv_one t
theorem fl_eq {q : Rat} {t : Int} (h1 : (t : Rat) ≤ q) (h2 : q < (t : Rat) + 1) : flQ q = t := by
  have a := fl_le q
  have h3 : (flQ q : Int) < t + 1 := by
    have : ((flQ q : Int) : Rat) < ((t + 1 : Int) : Rat) := by
      rw [Rat.intCast_add]
      exact rlt_of_le_lt a h2
    exact_mod_cast this
  have h4 : q < ((flQ q + 1 : Int) : Rat) := by
    have p := can_pos q
    have pr : (0 : Rat) < (((can q).2 : Int) : Rat) := by exact_mod_cast p
    have e2 := num_eq q
    have m : (can q).1 < (can q).2 * ((can q).1 / (can q).2 + 1) := by
      have e1 := Int.emod_add_mul_ediv (can q).1 (can q).2
      have m1 := Int.emod_lt_of_pos (can q).1 p
      rw [Int.mul_add]; omega
    have m : (((can q).1 : Int) : Rat) < (((can q).2 : Int) : Rat) * ((flQ q + 1 : Int) : Rat) := by
      rw [← Rat.intCast_mul]; exact_mod_cast m
    rw [e2] at m
    refine Rat.not_le.mp fun z => ?_
    have := Rat.mul_le_mul_of_nonneg_left z (Rat.le_of_lt pr)
    grind
  have h5 : t < flQ q + 1 := by
    have := rlt_of_le_lt h1 h4
    exact_mod_cast this
  omega
theorem ce_eq {q : Rat} {t : Int} (h1 : q ≤ (t : Rat)) (h2 : (t : Rat) - 1 < q) : ceQ q = t := by
  rw [can_neg1, fl_eq (t := -t)]
  · omega
  · rw [Rat.intCast_neg]; grind
  · rw [Rat.intCast_neg]; grind
/-! ### letters, problems, boxes -/
abbrev L3 := T3 Str Q2 Q2
def rl (n : Nat) (wk : Nat → Bool) (l u : Nat → Rat) : List L3 := (List.range n).map fun k => ⟨kS (wk k), can (l k), can (u k)⟩
theorem rl_len {n : Nat} {wk : Nat → Bool} {l u : Nat → Rat} : (rl n wk l u).length = n := by unfold rl; simp
theorem rl_at {n k : Nat} {wk : Nat → Bool} {l u : Nat → Rat} (h : k < n) : atI (rl n wk l u) (k : Int) = some ⟨kS (wk k), can (l k), can (u k)⟩ := atI_rm h
structure BX (Z n : Nat) (wk : Nat → Bool) (l u : Nat → Rat) : Prop where
  nm : BoxN Z n l u
  le : ∀ k, k < n → l k ≤ u k
  wh : ∀ k, k < n → wk k = true → IsI (l k) ∧ IsI (u k)
theorem BX.mono {Z Z' n : Nat} {wk : Nat → Bool} {l u : Nat → Rat} (h : BX Z n wk l u) (k : Z ≤ Z') : BX Z' n wk l u := ⟨fun i hi => ⟨(h.nm i hi).1.mono k, (h.nm i hi).2.mono k⟩, h.le, h.wh⟩
structure LetOk (n : Nat) (wk : Nat → Bool) (l u : Nat → Rat) : Prop where
  n6 : n ≤ 6
  bx : BX 39 n wk l u
  lg : ∀ k, k < n → longQ (can (l k)) = false ∧ longQ (can (u k)) = false
def upd1 {α : Type} (k : Nat) (y : α) (f : Nat → α) : Nat → α := fun j => if j = k then y else f j
theorem upd1_eq {α : Type} {k : Nat} {y : α} {f : Nat → α} : upd1 k y f k = y := if_pos rfl
theorem upd1_lt {α : Type} {k j : Nat} {y : α} {f : Nat → α} (h : j < k) : upd1 k y f j = f j := if_neg (by omega)
theorem rl_snoc {k : Nat} {wk : Nat → Bool} {l u : Nat → Rat} {b : Bool} {x y : Rat} : rl (k + 1) (upd1 k b wk) (upd1 k x l) (upd1 k y u) = rl k wk l u ++ [⟨kS b, can x, can y⟩] := by
  unfold rl
  rw [List.range_succ, List.map_append]
  congr 1
  · exact List.map_congr_left fun j hj => by
      have := List.mem_range.mp hj
      rw [upd1_lt this, upd1_lt this, upd1_lt this]
  · simp [upd1_eq]
theorem st_snoc {k : Nat} {l u : Nat → Rat} {x y : Rat} : stOf (k + 1) (upd1 k x l) (upd1 k y u) = stOf k l u ++ [(can x, can y)] := by
  unfold stOf
  rw [List.range_succ, List.map_append]
  congr 1
  · exact List.map_congr_left fun j hj => by
      have := List.mem_range.mp hj
      rw [upd1_lt this, upd1_lt this]
  · simp [upd1_eq]
theorem BX.snoc {Z k : Nat} {wk : Nat → Bool} {l u : Nat → Rat} {b : Bool} {x y : Rat} (h : BX Z k wk l u) (zx : Nm Z (can x)) (zy : Nm Z (can y)) (hle : x ≤ y) (hw : b = true → IsI x ∧ IsI y) : BX Z (k + 1) (upd1 k b wk) (upd1 k x l) (upd1 k y u) := by
  refine ⟨fun j hj => ?_, fun j hj => ?_, fun j hj => ?_⟩ <;> by_cases e : j = k
  · subst e; rw [upd1_eq, upd1_eq]; exact ⟨zx, zy⟩
  · rw [upd1_lt (by omega), upd1_lt (by omega)]; exact h.nm j (by omega)
  · subst e; rw [upd1_eq, upd1_eq]; exact hle
  · rw [upd1_lt (by omega), upd1_lt (by omega)]; exact h.le j (by omega)
  · subst e; rw [upd1_eq, upd1_eq, upd1_eq]; exact hw
  · rw [upd1_lt (by omega), upd1_lt (by omega), upd1_lt (by omega)]; exact h.wh j (by omega)
theorem long_frac {t b : Int} (hb : 0 < b) (h1 : t.natAbs < 10 ^ 12) (h2 : b < 10 ^ 12) : longQ (can ((t : Rat) / (b : Rat))) = false := by
  rw [← lo_can hb]
  unfold Dl.lo
  have e1 : (t / ((Nat.gcd t.natAbs b.natAbs : Nat) : Int)).natAbs ≤ t.natAbs := Int.natAbs_ediv_le_natAbs _ _
  have e2 : (b / ((Nat.gcd t.natAbs b.natAbs : Nat) : Int)).natAbs ≤ b.natAbs := Int.natAbs_ediv_le_natAbs _ _
  unfold longQ
  rw [Bool.or_eq_false_iff]
  constructor
  · refine decide_eq_false ?_
    show ¬ (10 : Int) ^ 12 ≤ (((t / ((Nat.gcd t.natAbs b.natAbs : Nat) : Int)).natAbs : Nat) : Int)
    omega
  · refine decide_eq_false ?_
    show ¬ (10 : Int) ^ 12 ≤ b / ((Nat.gcd t.natAbs b.natAbs : Nat) : Int)
    omega
theorem frac_le {s t b : Int} (hb : 0 < b) (h : s ≤ t) : (s : Rat) / (b : Rat) ≤ (t : Rat) / (b : Rat) := by
  have n := cast_ne hb
  have p : (0 : Rat) < (b : Rat) := by exact_mod_cast hb
  have e1 : (s : Rat) / (b : Rat) * (b : Rat) = s := Rat.div_mul_cancel n
  have e2 : (t : Rat) / (b : Rat) * (b : Rat) = t := Rat.div_mul_cancel n
  have hst : (s : Rat) ≤ (t : Rat) := by exact_mod_cast h
  refine Rat.not_lt.mp fun z => ?_
  have := Rat.mul_lt_mul_of_pos_right z p
  rw [e1, e2] at this
  exact Rat.not_le.mpr this hst
theorem one_of {α : Type} {xs : List α} {d : Int} (h0 : 0 ≤ d) (h1 : d < xs.length) : ∃ y, atI xs d = some y ∧ y ∈ xs := atI_mem h0 h1
theorem big_bits {m : Int} (h0 : 0 < m) (h1 : m < 2 ^ 64) : m.natAbs.log2 < 9000 := by
  refine bits_of (n := 9000) (pow2_mono (a := 64) ?_ (by decide)) (by decide)
  have : m.natAbs < 18446744073709551616 := by omega
  exact this
end
end K17
namespace K17
open PySem PySem.Spec PyProof.Rows L2 Dl
section
variable {P : Program} {w : World} {K : PySem.W.Frag} {mg : Str → Option Value} {base : Heap} {C : Addr}
def phInner : Pm (Tup St2) := fun as μ Q => ∃ (j g : Addr) (n Z : Nat) (wk : Nat → Bool) (l0 u0 l u : Nat → Rat), as = [sl (Ref.mk j), sl (rl n wk l0 u0), sl (Tup.mk (stOf n l u))] ∧ μ = [JarC j g] ∧ (BX Z n wk l u ∧ Z ≤ 600 ∧ n ≤ 6) ∧ ∀ l' u', BX (7 * Z + 18) n wk l' u' → Q ⟨stOf n l' u'⟩ [JarC j g]
theorem c_inner (D : Dfn K mg "_law_inner" s_law_inner ["jar", "letters", "box"]) (T : Txt mg) (cd : cDraw P w K mg base) (cpl : Cal P w K mg base "_law_place" 3 ["jar", "kind", "stretch"] phLPlace) : Cal P w K mg base "_law_inner" 4 ["jar", "letters", "box"] phInner := by
  refine D.cal sc_law_inner (fun as μ Q h => ?_) fun f cdv A' outer s H E hr as μ Pd h => ?_
  · obtain ⟨_, _, _, _, _, _, _, _, _, rfl, _⟩ := h; rfl
  obtain ⟨j, g, n, Z, wk, l0, u0, l, u, rfl, rfl, ⟨hB, hZ, hn⟩, q⟩ := h
  refine db_cons (ds_set (i := 3) sc_law_inner.nd <| de_lstN (α := St2) <| da_nil ⟨[], rfl, by decide, fun la => ?_⟩)
  refine db_cons (ds_range1 (i := 4) PassesOwn.never rfl sc_law_inner.nd T.range (de_lenL (α := L3) T.len <| de_var (i := 1) rfl ?_))
  rw [rl_len]
  refine ⟨by omega, by omega, fun k δ' μ' => ∃ s4 s5 s6 s7 s8 wk' l' u', δ' = [sl (Ref.mk j), sl (rl n wk l0 u0), sl (Tup.mk (stOf n l u)), sl (Ref.mk la), s4, s5, s6, s7, s8] ∧ μ' = [JarC j g, lst la (stOf k l' u')] ∧ (∀ i, i < k → wk' i = wk i) ∧ BX (7 * Z + 18) k wk' l' u', ⟨_, _, _, _, _, fun _ => false, fun _ => 0, fun _ => 0, rfl, rfl, fun i hi => absurd hi (Nat.not_lt_zero _), ⟨fun k hk => absurd hk (Nat.not_lt_zero _), fun k hk => absurd hk (Nat.not_lt_zero _), fun k hk => absurd hk (Nat.not_lt_zero _)⟩⟩, fun k δ' μ' hk hI => ?_, fun δ' μ' hI => ?_⟩
  · obtain ⟨s4, s5, s6, s7, s8, wk', l', u', rfl, rfl, hwk, hB'⟩ := hI
    have hk : k < n := by omega
    obtain ⟨zl, zu⟩ := hB.nm k hk
    have hle := hB.le k hk
    have hwh := hB.wh k hk
    refine db_cons (ds_unpack2 (i := 5) (j := 6) rfl sc_law_inner.nd <| de_ixT (α := St2) <| de_var (i := 2) rfl <| de_var (i := 4) rfl ⟨_, atI_st hk, ?_⟩)
    refine db_cons (ds_set (i := 7) sc_law_inner.nd <| de_t30 (α := Str) (β := Q2) (γ := Q2) <| de_ixL (α := L3) <| de_var (i := 1) rfl <| de_var (i := 4) rfl ⟨_, rl_at hk, ?_⟩)
    refine db_cons (ds_set (i := 8) sc_law_inner.nd <| de_c1 cd hr (by decide) <| da_cons <| de_var (i := 0) rfl <| da_cons <| de_int <| da_nil ⟨_, _, parts_hd, j, g, _, rfl, rfl, ⟨by decide, by decide⟩, fun cs c0 c1 => ?_⟩)
    refine db_cons (DS.mid (fun δ' μ' => ∃ lo : Rat, δ' = [sl (Ref.mk j), sl (rl n wk l0 u0), sl (Tup.mk (stOf n l u)), sl (Ref.mk la), sl (k : Int), sl (can lo), sl (can (u k)), sl (kS (wk k)), sl cs] ∧ μ' = [JarC j g, lst la (stOf k l' u')] ∧ Nm (3 * Z + 6) (can lo) ∧ lo ≤ u k ∧ (wk k = true → IsI lo)) ?_ ?_)
    · refine ds_if <| dt_gt <| de_var (i := 8) rfl <| de_int ⟨fun _ => ?_, fun _ => db_nil ⟨l k, rfl, rfl, zl.mono (by omega), hle, fun z => (hwh z).1⟩⟩
      exact db_one (ds_set (i := 5) sc_law_inner.nd <| de_c1 cpl hr (by decide) <| da_cons <| de_var (i := 0) rfl <| da_cons <| de_var (i := 7) rfl <| da_cons <| de_tup2 <| de_var (i := 5) rfl <| de_var (i := 6) rfl <| da_nil ⟨_, _, parts_hd, j, g, wk k, l k, u k, Z, Z, rfl, rfl, ⟨zl, zu, by omega, hle, hwh⟩, fun x hx => ⟨x, rfl, rfl, hx.nm.mono (by omega), hx.le, hx.wh⟩⟩)
    rintro δ' μ' ⟨lo, rfl, rfl, zlo, hlo, wlo⟩
    refine db_cons (DS.mid (fun δ' μ' => ∃ hi : Rat, δ' = [sl (Ref.mk j), sl (rl n wk l0 u0), sl (Tup.mk (stOf n l u)), sl (Ref.mk la), sl (k : Int), sl (can lo), sl (can hi), sl (kS (wk k)), sl cs] ∧ μ' = [JarC j g, lst la (stOf k l' u')] ∧ Nm (7 * Z + 18) (can hi) ∧ lo ≤ hi ∧ (wk k = true → IsI hi)) ?_ ?_)
    · refine ds_if <| dt_gt <| de_var (i := 8) rfl <| de_int ⟨fun _ => ?_, fun _ => db_nil ⟨u k, rfl, rfl, zu.mono (by omega), hlo, fun z => (hwh z).2⟩⟩
      exact db_one (ds_set (i := 6) sc_law_inner.nd <| de_c1 cpl hr (by decide) <| da_cons <| de_var (i := 0) rfl <| da_cons <| de_var (i := 7) rfl <| da_cons <| de_tup2 <| de_var (i := 5) rfl <| de_var (i := 6) rfl <| da_nil ⟨_, _, parts_hd, j, g, wk k, lo, u k, 3 * Z + 6, Z, rfl, rfl, ⟨zlo, zu, by omega, hlo, fun z => ⟨wlo z, (hwh z).2⟩⟩, fun x hx => ⟨x, rfl, rfl, hx.nm.mono (by omega), hx.ge, hx.wh⟩⟩)
    rintro δ' μ' ⟨hi, rfl, rfl, zhi, hhi, whi⟩
    refine db_one (ds_expr (de_append (α := St2) 1 <| de_var (i := 3) rfl ⟨⟨_, rfl⟩, de_tup2 <| de_var (i := 5) rfl <| de_var (i := 6) rfl ⟨_, rfl, (by rw [st_len]; omega), ?_⟩⟩))
    refine ⟨_, _, _, _, _, upd1 k (wk k) wk', upd1 k lo l', upd1 k hi u', rfl, by rw [st_snoc]; rfl, fun i hi => ?_, hB'.snoc (zlo.mono (by omega)) zhi hhi fun z => ⟨wlo z, whi z⟩⟩
    by_cases e : i = k
    · subst e; exact upd1_eq
    · rw [upd1_lt (by omega)]; exact hwk i (by omega)
  · obtain ⟨s4, s5, s6, s7, s8, wk', l', u', rfl, rfl, hwk, hB'⟩ := hI
    rw [Int.toNat_natCast] at hwk hB'
    exact db_one (ds_ret <| de_tuple (α := St2) T.tuple <| de_frz (α := St2) 1 <| de_var (i := 3) rfl ⟨_, rfl, q l' u' ⟨hB'.nm, hB'.le, fun i hi z => hB'.wh i hi (by rw [hwk i hi]; exact z)⟩⟩)
end
end K17
namespace K17
open PySem PySem.Spec PyProof.Rows L2 Dl
section
variable {P : Program} {w : World} {K : PySem.W.Frag} {mg : Str → Option Value} {base : Heap} {C : Addr}
def nmX (k : Nat) : Str := ("x" : Str) ++ ((toString (k : Int) : String) : Str)
theorem nmX_ok' : ∀ k : Fin 6, PyData.strOk (nmX k.1) = true ∧ (nmX k.1).length ≤ 12 ∧ (nmX k.1).cps = #[120, 48 + k.1] ∧ ¬ nmX k.1 = "" ∧ ¬ nmX k.1 ∈ (["abs", "max", "min", "real", "whole", "let", "keep", "least"] : List Str) ∧ occ ⟨#[120]⟩ "abcdefghijklmnopqrstuvwxyz" = true ∧ occ ⟨#[120]⟩ "abcdefghijklmnopqrstuvwxyz0123456789" = true ∧ occ ⟨#[48 + k.1]⟩ "abcdefghijklmnopqrstuvwxyz0123456789" = true := by decide +kernel
theorem nmX_ok {k : Nat} (h : k < 6) : NameOk (nmX k) := by
  obtain ⟨h1, h2, h3, h4, h5, h6, h7, h8⟩ := nmX_ok' ⟨k, h⟩
  refine ⟨h1, h4, h2, h5, ⟨120, by rw [h3]; rfl, h6⟩, fun i c hc => ?_⟩
  rw [h3] at hc
  match i, hc with
  | 0, hc => cases hc; exact h7
  | 1, hc => cases hc; exact h8
  | i + 2, hc => simp at hc
theorem nmX_inj {i k : Nat} (hi : i < 6) (hk : k < 6) (h : nmX i = nmX k) : i = k := by
  have a := (nmX_ok' ⟨i, hi⟩).2.2.1
  have b := (nmX_ok' ⟨k, hk⟩).2.2.1
  have e : (nmX i).cps = (nmX k).cps := by rw [h]
  have a : (nmX i).cps = #[120, 48 + i] := a
  have b : (nmX k).cps = #[120, 48 + k] := b
  rw [a, b] at e
  simp at e
  exact e
/-- the letters of a problem -/
def l4 (n : Nat) (wk : Nat → Bool) (l u : Nat → Rat) : List L4 := (List.range n).map fun k => ⟨nmX k, kS (wk k), can (l k), can (u k)⟩
theorem l4_snoc {n : Nat} {wk : Nat → Bool} {l u : Nat → Rat} : l4 (n + 1) wk l u = l4 n wk l u ++ [⟨nmX n, kS (wk n), can (l n), can (u n)⟩] := by unfold l4; rw [List.range_succ, List.map_append]; rfl
theorem l4_len {n : Nat} {wk : Nat → Bool} {l u : Nat → Rat} : (l4 n wk l u).length = n := by unfold l4; simp
theorem l4_box {n : Nat} {wk : Nat → Bool} {l u : Nat → Rat} : boxL (l4 n wk l u) = stOf n l u := by unfold boxL l4 stOf; rw [List.map_map]; rfl
theorem l4_new {n : Nat} {wk : Nat → Bool} {l u : Nat → Rat} (h : n < 6) : nmX n ∉ (l4 n wk l u).map T4.x0 := by
  intro hm
  unfold l4 at hm
  rw [List.map_map] at hm
  obtain ⟨i, hi, e⟩ := List.mem_map.mp hm
  have hi := List.mem_range.mp hi
  have := nmX_inj (by omega) h (e : nmX i = nmX n)
  omega
theorem l4_prb {p : Prb} {n : Nat} {wk : Nat → Bool} {l u : Nat → Rat} (h : p.letters = l4 n wk l u) : PrbW p n wk := fun k hk => ⟨_, by rw [h]; unfold l4; rw [List.getElem?_map, List.getElem?_range hk]; rfl, rfl⟩
/-- the builder after n letters -/
def bst (n : Nat) (wk : Nat → Bool) (l u : Nat → Rat) : Bst := { L := l4 n wk l u, N := (List.range n).map Nd.letter, R := stOf n l u, W := List.replicate n 1 }
theorem bst_ok {n : Nat} {wk : Nat → Bool} {l u : Nat → Rat} (h : n ≤ 6) : (bst n wk l u).Ok := by
  refine ⟨?_, ?_, ?_, ?_, ?_, Nat.zero_le _⟩
  · refine List.Pairwise.map _ (fun a b (hab : a ≠ b) (z : Nd.letter a = Nd.letter b) => hab (Nd.letter.inj z)) List.nodup_range
  · show ((List.range n).map Nd.letter).length ≤ 5000
    simp; omega
  · show (stOf n l u).length = ((List.range n).map Nd.letter).length
    rw [st_len]; simp
  · show (List.replicate n (1 : Int)).length = ((List.range n).map Nd.letter).length
    simp
  · show (l4 n wk l u).length ≤ 6
    rw [l4_len]; exact h
theorem bst_snoc {n : Nat} {wk : Nat → Bool} {l u : Nat → Rat} : ((bst n wk l u).addL ⟨nmX n, kS (wk n), can (l n), can (u n)⟩).add (.letter n) 1 (can (l n), can (u n)) = bst (n + 1) wk l u := by
  unfold bst Bst.addL Bst.add
  simp only [Bst.mk.injEq, and_true, true_and]
  refine ⟨l4_snoc.symm, ?_, ?_, ?_⟩
  · rw [List.range_succ, List.map_append]; rfl
  · unfold stOf; rw [List.range_succ, List.map_append]; rfl
  · rw [List.replicate_succ', ]
def phSameN : Pm Bool := fun as μ P => ∃ x : Q2, as = [sl x, sl x] ∧ P true μ
theorem c_same_number (D : Dfn K mg "_law_same_number" s_law_same_number ["actual", "due"]) (T : Txt mg) : Cal P w K mg base "_law_same_number" 1 ["actual", "due"] phSameN := by
  refine D.cal sc_law_same_number (fun as μ P h => ?_) fun f cdv A outer s H E hr as μ Pd h => ?_
  · obtain ⟨_, rfl, _⟩ := h; rfl
  obtain ⟨a, rfl, q⟩ := h
  refine db_cons (ds_if (dw_or (dt_not (dt_val (de_isi (T := "tuple") (r := true) (by decide +kernel) T.isinstance T.tuple (by decide +kernel) (de_var (i := 0) rfl ⟨fun h => (nomatch h), fun _ => (dw_or1 (dt_neI (de_len2 T.len (de_var (i := 0) rfl (de_int ⟨fun h => absurd h (by decide), fun h => ?_⟩)))))⟩))))).dt)
  refine db_nil ?_
  refine db_cons (ds_forT PassesOwn.never rfl (pg_name (i := 2) sc_law_same_number.nd rfl (Or.inl rfl)) (fun x δ => δ.set 2 (sl x)) (fun x δ => wg_name) (de_tupOf2 (de_var (i := 0) rfl ⟨fun k δ1 μ1 => ∃ s, δ1 = [sl a, sl a, s] ∧ μ1 = μ, ⟨_, rfl, rfl⟩, fun k y δ1 μ1 hx hI => ?_, fun δ1 μ1 hI => ?_⟩)))
  · obtain ⟨s, rfl, rfl⟩ := hI
    refine db_cons (ds_if (dw_or (dt_not (dt_val (de_isi (T := "int") (r := true) (by decide +kernel) T.isinstance T.int (by decide +kernel) (de_var (i := 2) rfl ⟨fun h => (nomatch h), fun h => (dw_or1 (dt_val (de_isi (T := "bool") (r := false) (by decide +kernel) T.isinstance T.bool (by decide +kernel) (de_var (i := 2) rfl ⟨fun h => (nomatch h), fun h => ?_⟩))))⟩))))).dt)
    exact db_nil (db_nil ⟨_, rfl, rfl⟩)
  obtain ⟨s, rfl, rfl⟩ := hI
  exact db_one (ds_ret <| de_eqD (α := Q2) (un_of hr) (by decide) <| de_var (i := 0) rfl <| de_var (i := 1) rfl fun r h => by rw [h.mpr rfl]; exact q)
end
end K17
namespace K17
open PySem PySem.Spec PyProof.Rows L2 Dl
section
variable {P : Program} {w : World} {K : PySem.W.Frag} {mg : Str → Option Value} {base : Heap} {C : Addr}
/-! ### quotients, numbers, letters -/
def phOver : Pm Q2 := fun as μ Q => ∃ (a b : Rat) (A B : Nat), as = [sl (can a), sl (can b)] ∧ (b ≠ 0 ∧ Nm A (can a) ∧ Nm B (can b) ∧ A + B ≤ 8999) ∧ Q (can (a / b)) μ
theorem c_over (D : Dfn K mg "_law_over" s_law_over ["one", "two"]) (cl : cLow P w K mg base) : Cal P w K mg base "_law_over" 2 ["one", "two"] phOver := by
  refine D.cal sc_law_over (fun as μ P h => ?_) fun f cdv A' outer s H E hr as μ Pd h => ?_
  · obtain ⟨_, _, _, _, rfl, _⟩ := h; rfl
  obtain ⟨a, b, A, B, rfl, ⟨hb, za, zb, hAB⟩, q⟩ := h
  rw [← div_can (a := a) hb] at q
  refine db_one (ds_ret <| de_c1 cl hr (by decide) <| da_cons <| de_mul <| de_ix0 <| de_var (i := 0) rfl <| de_ix1 <| de_var (i := 1) rfl ⟨mulx_of za.t zb.b (by omega), da_cons <| de_mul <| de_ix1 <| de_var (i := 0) rfl <| de_ix0 <| de_var (i := 1) rfl ⟨mulx_of za.b zb.t (by omega), da_nil ⟨[], _, parts_none, _, _, rfl, ⟨?_, ?_⟩, q⟩⟩⟩)
  · exact Int.mul_ne_zero (by have := za.pos; omega) (num0 hb)
  · exact pow2_mono (natAbs_lt_mul za.b zb.t) (by omega)
def phValue : Pm Q2 := fun as μ Q => ∃ (j g : Addr), as = [sl (Ref.mk j)] ∧ μ = [JarC j g] ∧ ∀ a : Rat, Nm 40 (can a) → longQ (can a) = false → Q (can a) [JarC j g]
theorem c_value (D : Dfn K mg "_law_value" s_law_value ["jar"]) (cd : cDraw P w K mg base) (cl : cLow P w K mg base) : Cal P w K mg base "_law_value" 2 ["jar"] phValue := by
  refine D.cal sc_law_value (fun as μ P h => ?_) fun f cdv A' outer s H E hr as μ Pd h => ?_
  · obtain ⟨_, _, rfl, _⟩ := h; rfl
  obtain ⟨j, g, rfl, rfl, q⟩ := h
  have done : ∀ t b : Int, 0 < b → t.natAbs < 10 ^ 12 → b < 10 ^ 12 → Pd (can ((t : Rat) / (b : Rat))) [JarC j g] := fun t b hb h1 h2 => q _ (nm_frac hb (by show t.natAbs < 1099511627776; omega) (by show b.natAbs < 1099511627776; omega)) (long_frac hb h1 h2)
  refine db_cons (ds_if <| dt_eqI <| de_c1 cd hr (by decide) <| da_cons <| de_var (i := 0) rfl <| da_cons <| de_int <| da_nil ⟨_, _, parts_hd, j, g, _, rfl, rfl, ⟨by decide, by decide⟩, fun d d0 d1 => de_int ⟨fun _ => ?_, fun _ => db_nil ?_⟩⟩)
  · refine db_one (ds_ret <| de_c1 cl hr (by decide) <| da_cons <| de_add <| de_sub <| de_c1 cd hr (by decide) <| da_cons <| de_var (i := 0) rfl <| da_cons <| de_sub <| de_mul <| de_int <| de_pow <| de_int <| de_int ⟨⟨by decide, by decide, by decide⟩, ⟨mulx_of (a := 2) (b := 40) (by decide) (by decide) (by decide), de_int <| da_nil ⟨_, _, parts_hd, j, g, _, rfl, rfl, ⟨by decide, big_bits (by decide) (by decide)⟩, fun t t0 t1 => de_pow <| de_int <| de_int ⟨⟨by decide, by decide, by decide⟩, de_int <| da_cons <| de_add <| de_int <| de_c1 cd hr (by decide) <| da_cons <| de_var (i := 0) rfl <| da_cons <| de_sub <| de_pow <| de_int <| de_int ⟨⟨by decide, by decide, by decide⟩, de_int <| da_nil ⟨_, _, parts_hd, j, g, _, rfl, rfl, ⟨by decide, big_bits (by decide) (by decide)⟩, fun b b0 b1 => da_nil ⟨[], _, parts_none, _, _, rfl, low_small ?_ ?_, ?_⟩⟩⟩⟩⟩⟩⟩)
    · omega
    · have b1 : b < 10 ^ 12 - 1 := b1
      omega
    · have b1 : b < 10 ^ 12 - 1 := b1
      have t1 : t < 2 * 10 ^ 12 - 1 := t1
      refine done _ _ (by omega) ?_ (by omega)
      show (t - 10 ^ 12 + 1).natAbs < 10 ^ 12
      omega
  · refine db_one (ds_ret <| de_c1 cl hr (by decide) <| da_cons <| de_sub <| de_c1 cd hr (by decide) <| da_cons <| de_var (i := 0) rfl <| da_cons <| de_int <| da_nil ⟨_, _, parts_hd, j, g, _, rfl, rfl, ⟨by decide, by decide⟩, fun t t0 t1 => de_int <| da_cons <| de_add <| de_int <| de_c1 cd hr (by decide) <| da_cons <| de_var (i := 0) rfl <| da_cons <| de_int <| da_nil ⟨_, _, parts_hd, j, g, _, rfl, rfl, ⟨by decide, by decide⟩, fun b b0 b1 => da_nil ⟨[], _, parts_none, _, _, rfl, low_small (by omega) (by omega), ?_⟩⟩⟩)
    exact done _ _ (by omega) (by omega) (by omega)
def phLetters : Pm (List L3) := fun as μ Q => ∃ (j g : Addr), as = [sl (Ref.mk j)] ∧ μ = [JarC j g] ∧ ∀ n wk l u, 1 ≤ n → LetOk n wk l u → BX 5 n wk l u → Q (rl n wk l u) [JarC j g]
theorem c_letters (D : Dfn K mg "_law_letters" s_law_letters ["jar"]) (T : Txt mg) (cd : cDraw P w K mg base) (cl : cLow P w K mg base) : Cal P w K mg base "_law_letters" 2 ["jar"] phLetters := by
  refine D.cal sc_law_letters (fun as μ Q h => ?_) fun f cdv A' outer s H E hr as μ Pd h => ?_
  · obtain ⟨_, _, rfl, _⟩ := h; rfl
  obtain ⟨j, g, rfl, rfl, q⟩ := h
  refine db_cons (ds_set (i := 1) sc_law_letters.nd <| de_lstN (α := L3) <| da_nil ⟨[], rfl, by decide, fun la => ?_⟩)
  refine db_cons (ds_range1 (i := 2) PassesOwn.never rfl sc_law_letters.nd T.range (de_ixL (α := Int) <| de_lstF ?_))
  iterate 8 refine da_cons (de_int ?_)
  refine da_nil ⟨[1, 2, 3, 2, 4, 5, 6, 3], rfl, (by show 8 ≤ 1000; decide), de_c1 cd hr (by decide) <| da_cons <| de_var (i := 0) rfl <| da_cons <| de_int <| da_nil ⟨_, _, parts_hd, j, g, _, rfl, rfl, ⟨by decide, by decide⟩, fun d d0 d1 => ?_⟩⟩
  obtain ⟨n, hn, hnm⟩ := one_of (xs := [(1 : Int), 2, 3, 2, 4, 5, 6, 3]) d0 d1
  have n06 : 1 ≤ n ∧ n ≤ 6 := by simp at hnm; omega
  refine ⟨n, hn, by omega, by omega, fun k δ' μ' => ∃ s2 s3 s4 s5 wk l u, δ' = [sl (Ref.mk j), sl (Ref.mk la), s2, s3, s4, s5] ∧ μ' = [JarC j g, lst la (rl k wk l u)] ∧ (k ≤ 6 → LetOk k wk l u ∧ BX 5 k wk l u), ⟨_, _, _, _, fun _ => false, fun _ => 0, fun _ => 0, rfl, rfl, fun _ => ⟨⟨by decide, ⟨fun k hk => absurd hk (Nat.not_lt_zero _), fun k hk => absurd hk (Nat.not_lt_zero _), fun k hk => absurd hk (Nat.not_lt_zero _)⟩, fun k hk => absurd hk (Nat.not_lt_zero _)⟩, ⟨fun k hk => absurd hk (Nat.not_lt_zero _), fun k hk => absurd hk (Nat.not_lt_zero _), fun k hk => absurd hk (Nat.not_lt_zero _)⟩⟩⟩, fun k δ' μ' hk hI => ?_, fun δ' μ' hI => ?_⟩
  · obtain ⟨s2, s3, s4, s5, wk, l, u, rfl, rfl, hL⟩ := hI
    have hk6 : k < 6 := by omega
    obtain ⟨hL, hB⟩ := hL (by omega)
    refine db_cons (ds_set (i := 3) sc_law_letters.nd <| de_ixL (α := Str) <| de_lstF <| da_cons <| de_str <| da_cons <| de_str <| da_cons <| de_str <| da_nil ⟨["real", "real", "whole"], rfl, (by show 3 ≤ 1000; decide), de_c1 cd hr (by decide) <| da_cons <| de_var (i := 0) rfl <| da_cons <| de_int <| da_nil ⟨_, _, parts_hd, j, g, _, rfl, rfl, ⟨by decide, by decide⟩, fun d2 e0 e1 => ?_⟩⟩)
    obtain ⟨kd, hkd, hkm⟩ := one_of (xs := [("real" : Str), "real", "whole"]) e0 e1
    obtain ⟨b, rfl⟩ : ∃ b, kd = kS b := by
      rcases List.mem_cons.mp hkm with h | h
      · exact ⟨false, h⟩
      rcases List.mem_cons.mp h with h | h
      · exact ⟨false, h⟩
      · exact ⟨true, List.mem_singleton.mp h⟩
    refine ⟨_, hkd, ?_⟩
    refine db_cons (ds_set (i := 4) sc_law_letters.nd <| de_int ?_)
    refine db_cons (DS.mid (fun δ' μ' => ∃ bt : Int, δ' = [sl (Ref.mk j), sl (Ref.mk la), sl (k : Int), sl (kS b), sl bt, s5] ∧ μ' = [JarC j g, lst la (rl k wk l u)] ∧ 1 ≤ bt ∧ bt ≤ 4 ∧ (b = true → bt = 1)) ?_ ?_)
    · refine ds_if <| dt_eqS (un_of hr) <| de_var (i := 3) rfl <| de_str ⟨⟨kS_ok b, ok_real⟩, ?_⟩
      rw [kS_real]
      refine ⟨fun hb => ?_, fun hb => db_nil ⟨1, rfl, rfl, by decide, by decide, fun _ => rfl⟩⟩
      exact db_one (ds_set (i := 4) sc_law_letters.nd <| de_add <| de_int <| de_c1 cd hr (by decide) <| da_cons <| de_var (i := 0) rfl <| da_cons <| de_int <| da_nil ⟨_, _, parts_hd, j, g, _, rfl, rfl, ⟨by decide, by decide⟩, fun d5 f0 f1 => ⟨1 + d5, rfl, rfl, by omega, by omega, fun z => by rw [z] at hb; cases hb⟩⟩)
    rintro δ' μ' ⟨bt, rfl, rfl, b1, b4, bw⟩
    refine db_cons (ds_set (i := 5) sc_law_letters.nd <| de_sub <| de_c1 cd hr (by decide) <| da_cons <| de_var (i := 0) rfl <| da_cons <| de_int <| da_nil ⟨_, _, parts_hd, j, g, _, rfl, rfl, ⟨by decide, by decide⟩, fun st t0 t1 => de_int ?_⟩)
    refine db_one (ds_expr (de_append (α := L3) 1 <| de_var (i := 1) rfl ⟨⟨_, rfl⟩, de_tup3 <| de_var (i := 3) rfl <| de_c1 cl hr (by decide) <| da_cons <| de_var (i := 5) rfl <| da_cons <| de_var (i := 4) rfl <| da_nil ⟨[], _, parts_none, _, _, rfl, low_small (by omega) (by omega), de_c1 cl hr (by decide) <| da_cons <| de_add <| de_var (i := 5) rfl <| de_c1 cd hr (by decide) <| da_cons <| de_var (i := 0) rfl <| da_cons <| de_int <| da_nil ⟨_, _, parts_hd, j, g, _, rfl, rfl, ⟨by decide, by decide⟩, fun wd w0 w1 => da_cons <| de_var (i := 4) rfl <| da_nil ⟨[], _, parts_none, _, _, rfl, low_small (by omega) (by omega), _, rfl, (by rw [rl_len]; omega), ?_⟩⟩⟩⟩))
    have z1 : Nm 5 (can (((st - 8 : Int) : Rat) / (bt : Rat))) := nm_frac (by omega) (by show (st - 8).natAbs < 32; omega) (by show bt.natAbs < 32; omega)
    have z2 : Nm 5 (can (((st - 8 + wd : Int) : Rat) / (bt : Rat))) := nm_frac (by omega) (by show (st - 8 + wd).natAbs < 32; omega) (by show bt.natAbs < 32; omega)
    have hle : ((st - 8 : Int) : Rat) / (bt : Rat) ≤ ((st - 8 + wd : Int) : Rat) / (bt : Rat) := frac_le (by omega) (by omega)
    have hwh : b = true → IsI (((st - 8 : Int) : Rat) / (bt : Rat)) ∧ IsI (((st - 8 + wd : Int) : Rat) / (bt : Rat)) := fun hb => by
      rw [bw hb]
      exact ⟨⟨st - 8, by rw [show ((1 : Int) : Rat) = 1 from rfl]; grind⟩, ⟨st - 8 + wd, by rw [show ((1 : Int) : Rat) = 1 from rfl]; grind⟩⟩
    refine ⟨_, _, _, _, upd1 k b wk, upd1 k (((st - 8 : Int) : Rat) / (bt : Rat)) l, upd1 k (((st - 8 + wd : Int) : Rat) / (bt : Rat)) u, rfl, by rw [rl_snoc]; rfl, fun _ => ⟨⟨by omega, hL.bx.snoc (z1.mono (by decide)) (z2.mono (by decide)) hle hwh, fun i hi => ?_⟩, hB.snoc z1 z2 hle hwh⟩⟩
    by_cases e : i = k
    · subst e
      rw [upd1_eq, upd1_eq]
      exact ⟨long_frac (by omega) (by omega) (by omega), long_frac (by omega) (by omega) (by omega)⟩
    · rw [upd1_lt (by omega), upd1_lt (by omega)]; exact hL.lg i (by omega)
  · obtain ⟨s2, s3, s4, s5, wk, l, u, rfl, rfl, hL⟩ := hI
    obtain ⟨hL, hB⟩ := hL (by omega)
    exact db_one (ds_ret <| de_frz (α := L3) 1 <| de_var (i := 1) rfl ⟨_, rfl, q _ wk l u (by omega) hL hB⟩)
/-- the node is there, or it is laid behind the others -/
def phPut : Pm Int := fun as μ Q => ∃ (na pa : Addr) (N : List Nd) (x : Nd) (p : Int) (Pl : List Int), as = [sl (Ref.mk na), sl (Ref.mk pa), sl x, sl p] ∧ μ = [lst na N, lst pa Pl] ∧ (N.length < 5000 ∧ Pl.length < 5000) ∧
  (∀ i : Nat, N[i]? = some x → Q (i : Int) [lst na N, lst pa Pl]) ∧ (x ∉ N → Q (N.length : Int) [lst na (N ++ [x]), lst pa (Pl ++ [p])])
theorem c_put (D : Dfn K mg "_law_put" s_law_put ["nodes", "places", "node", "place"]) (T : Txt mg) : Cal P w K mg base "_law_put" 1 ["nodes", "places", "node", "place"] phPut := by
  refine D.cal sc_law_put (fun as μ Q h => ?_) fun f cdv A' outer s H E hr as μ Pd h => ?_
  · obtain ⟨_, _, _, _, _, _, rfl, _⟩ := h; rfl
  obtain ⟨na, pa, N, x, p, Pl, rfl, rfl, ⟨l1, l2⟩, q1, q2⟩ := h
  refine db_cons (ds_range1 (i := 4) PassesOwn.never rfl sc_law_put.nd T.range (de_lenC (α := Nd) 0 T.len <| de_var (i := 0) rfl ⟨N, rfl, by omega, by omega, fun k δ' μ' => (∃ s, δ' = [sl (Ref.mk na), sl (Ref.mk pa), sl x, sl p, s]) ∧ μ' = [lst na N, lst pa Pl] ∧ ∀ i, i < k → N[i]? ≠ some x, ⟨⟨_, rfl⟩, rfl, fun i hi => absurd hi (Nat.not_lt_zero _)⟩, fun k δ' μ' hk hI => ?_, fun δ' μ' hI => ?_⟩))
  · obtain ⟨⟨s4, rfl⟩, rfl, hno⟩ := hI
    have hk : k < N.length := by omega
    have hy := List.getElem?_eq_getElem hk
    refine db_one (ds_if <| dt_eqD (α := Nd) (un_of hr) (by decide) <| de_ixC (α := Nd) 0 <| de_var (i := 0) rfl <| de_var (i := 4) rfl ⟨N, rfl, _, atI_nat hy, de_var (i := 2) rfl fun r hr1 => ⟨fun h => ?_, fun h => db_nil ⟨⟨_, rfl⟩, rfl, fun i hi => ?_⟩⟩⟩)
    · have e := hr1.mp h
      exact db_one (ds_ret <| de_var (i := 4) rfl <| q1 k (by rw [hy, e]))
    · by_cases e : i = k
      · subst e
        intro z
        rw [hy] at z
        rw [hr1.mpr (Option.some.inj z)] at h; cases h
      · exact hno i (by omega)
  · obtain ⟨⟨s4, rfl⟩, rfl, hno⟩ := hI
    rw [Int.toNat_natCast] at hno
    have hx : x ∉ N := fun z => by
      obtain ⟨i, hi⟩ := List.mem_iff_getElem?.mp z
      exact hno i (List.getElem?_eq_some_iff.mp hi).1 hi
    refine db_cons (ds_expr (de_append (α := Nd) 0 <| de_var (i := 0) rfl ⟨⟨N, rfl⟩, de_var (i := 2) rfl ⟨N, rfl, by omega, ?_⟩⟩))
    refine db_cons (ds_expr (de_append (α := Int) 1 <| de_var (i := 1) rfl ⟨⟨Pl, rfl⟩, de_var (i := 3) rfl ⟨Pl, rfl, by omega, ?_⟩⟩))
    refine db_one (ds_ret <| de_sub <| de_lenC (α := Nd) 0 T.len <| de_var (i := 0) rfl ⟨N ++ [x], rfl, de_int ?_⟩)
    rw [show (((N ++ [x]).length : Nat) : Int) - 1 = (N.length : Int) by rw [List.length_append]; simp]
    exact q2 hx
end
end K17
namespace K17
open PySem PySem.Spec PyProof.Rows L2 Dl
/-! ### the builder of a term in which each letter stands once -/
section
variable {P : Program} {w : World} {C : Addr} {n : Nat} {wk : Nat → Bool} {l u : Nat → Rat} {S S' S'' : Bst} {N : List Nd} {x : Nd}
theorem good_app (h : ArgsLt N) {L : List Nd} {t : Nat} (ht : t ≤ N.length) (g : GoodNd n N t x) : GoodNd n (N ++ L) t x := by
  cases x with
  | letter k => exact g
  | num v => exact g
  | abs i => exact g
  | pow i m => exact g
  | op o i j =>
    obtain ⟨hi, hj, hd, ho⟩ := g
    refine ⟨hi, hj, fun k hk => ?_, ?_⟩
    · rw [ev_app h (by omega)] at hk ⊢; exact hd k hk
    · rcases ho with z | z | z | ⟨z, v, hv, hz⟩
      · exact .inl z
      · exact .inr (.inl z)
      · exact .inr (.inr (.inl z))
      · exact .inr (.inr (.inr ⟨z, v, by rw [List.getElem?_append_left (by omega)]; exact hv, hz⟩))
theorem GoodNd.args {t : Nat} (g : GoodNd n N t x) : ∀ a ∈ argsT x, a < t := fun a ha => by
  cases x with
  | letter k => cases ha
  | num v => cases ha
  | abs i => exact g.elim
  | pow i m => exact g.elim
  | op o i j =>
    have ha : a ∈ [i, j] := ha
    rcases List.mem_cons.mp ha with rfl | ha
    · exact g.1
    · rw [List.mem_singleton.mp ha]; exact g.2.1
theorem OnceN.snoc (h : OnceN n N) (g : GoodNd n N N.length x) : OnceN n (N ++ [x]) where
  len := by rw [List.length_append]; exact Nat.le_trans h.len (Nat.le_add_right _ _)
  lets k hk := by rw [List.getElem?_append_left (Nat.lt_of_lt_of_le hk h.len)]; exact h.lets k hk
  good t y hy := by
    rcases Nat.lt_or_ge t N.length with c | c
    · rw [List.getElem?_append_left c] at hy
      exact good_app h.args (Nat.le_of_lt c) (h.good t y hy)
    · have ht : t < (N ++ [x]).length := (List.getElem?_eq_some_iff.mp hy).1
      rw [List.length_append, List.length_singleton] at ht
      have e : t = N.length := by omega
      subst e
      rw [List.getElem?_append_right (Nat.le_refl _), Nat.sub_self] at hy
      have : x = y := by simpa using hy
      subst this
      exact good_app h.args (Nat.le_refl _) g
structure Bd17 (n : Nat) (wk : Nat → Bool) (l u : Nat → Rat) (S : Bst) : Prop where
  ok : S.Ok
  L : S.L = l4 n wk l u
  once : OnceN n S.N
  R : S.R = (evL (rgS fun k => (l k, u k)) S.N).map canS
  W : S.W = (evL wgS S.N).map fun (y : Nat) => (y : Int)
  w40 : ∀ t, t < S.N.length → ev wgS S.N t ≤ 40
/-- more nodes, else the same -/
structure Ext (S S' : Bst) : Prop where
  N : S.N <+: S'.N
  L : S'.L = S.L
  C : S'.C = S.C
  G : S'.G = S.G
theorem Ext.refl : Ext S S := ⟨List.prefix_refl _, rfl, rfl, rfl⟩
theorem Ext.trans (h : Ext S S') (k : Ext S' S'') : Ext S S'' := ⟨h.N.trans k.N, k.L.trans h.L, k.C.trans h.C, k.G.trans h.G⟩
theorem Ext.len (h : Ext S S') : S.N.length ≤ S'.N.length := h.N.length_le
theorem Ext.get (h : Ext S S') {t : Nat} (e : S.N[t]? = some x) : S'.N[t]? = some x := by
  obtain ⟨r, hr⟩ := h.N
  rw [← hr, List.getElem?_append_left (List.getElem?_eq_some_iff.mp e).1]; exact e
theorem Ext.ev {α : Type} {s : SemF α} (h : Ext S S') (b : Bd17 n wk l u S) {t : Nat} (ht : t < S.N.length) : ev s S'.N t = ev s S.N t := by
  obtain ⟨r, hr⟩ := h.N
  rw [← hr]
  exact ev_app b.once.args ht
theorem Bd17.rAt (h : Bd17 n wk l u S) {t : Nat} (ht : t < S.N.length) : S.R[t]? = some (canS (ev (rgS fun k => (l k, u k)) S.N t)) := by rw [h.R, List.getElem?_map, evL_get ht]; rfl
theorem Bd17.wAt (h : Bd17 n wk l u S) {t : Nat} (ht : t < S.N.length) : S.W[t]? = some ((ev wgS S.N t : Nat) : Int) := by rw [h.W, List.getElem?_map, evL_get ht]; rfl
theorem Bd17.add (h : Bd17 n wk l u S) (g : GoodNd n S.N S.N.length x) (hx : x ∉ S.N) (hl : S.N.length < 4900) (hw : wgS.f x (ev wgS S.N) ≤ 40) : Bd17 n wk l u (S.add x ((wgS.f x (ev wgS S.N) : Nat) : Int) (canS ((rgS fun k => (l k, u k)).f x (ev (rgS fun k => (l k, u k)) S.N)))) := by
  have ha := g.args
  have hA := h.once.args
  refine ⟨⟨?_, ?_, ?_, ?_, h.ok.l, h.ok.c⟩, h.L, h.once.snoc g, ?_, ?_, fun t ht => ?_⟩
  · exact List.nodup_append.mpr ⟨h.ok.nd, by simp, fun y hy z hz e => hx (by rw [← List.mem_singleton.mp hz, ← e]; exact hy)⟩
  · show (S.N ++ [x]).length ≤ 5000
    rw [List.length_append, List.length_singleton]; omega
  · show (S.R ++ [_]).length = (S.N ++ [x]).length
    rw [List.length_append, List.length_append, h.ok.r]; rfl
  · show (S.W ++ [_]).length = (S.N ++ [x]).length
    rw [List.length_append, List.length_append, h.ok.w]; rfl
  · show S.R ++ [_] = (evL _ (S.N ++ [x])).map canS
    rw [evL_snoc hA ha, List.map_append, ← h.R]; rfl
  · show S.W ++ [_] = (evL wgS (S.N ++ [x])).map fun (y : Nat) => (y : Int)
    rw [evL_snoc hA ha, List.map_append, ← h.W]; rfl
  · have ht : t < (S.N ++ [x]).length := ht
    rw [List.length_append, List.length_singleton] at ht
    show ev wgS (S.N ++ [x]) t ≤ 40
    rcases Nat.lt_or_ge t S.N.length with c | c
    · rw [ev_app hA c]; exact h.w40 t c
    · rw [show t = S.N.length by omega, ev_new hA ha]; exact hw
/-- a node is placed: it is there, or behind the others -/
def NewS (S S' : Bst) (x : Nd) (t : Nat) : Prop := (S' = S ∧ S.N[t]? = some x) ∨ (x ∉ S.N ∧ S'.N = S.N ++ [x] ∧ t = S.N.length)
theorem NewS.get {t : Nat} (h : NewS S S' x t) : S'.N[t]? = some x := by
  rcases h with ⟨rfl, h⟩ | ⟨_, e, rfl⟩
  · exact h
  · rw [e, List.getElem?_append_right (Nat.le_refl _), Nat.sub_self]; rfl
theorem NewS.len {t : Nat} (h : NewS S S' x t) : S'.N.length ≤ S.N.length + 1 := by
  rcases h with ⟨rfl, h⟩ | ⟨_, e, rfl⟩
  · omega
  · rw [e, List.length_append]; exact Nat.le_refl _
theorem place_of (A : BAd) (h : Bd17 n wk l u S) (g : GoodNd n S.N S.N.length x) (hl : S.N.length < 4900) (hw : wgS.f x (ev wgS S.N) ≤ 40) (wt : WtN S.W x ((wgS.f x (ev wgS S.N) : Nat) : Int)) (nr : nrA x S.R (boxL S.L) (canS ((rgS fun k => (l k, u k)).f x (ev (rgS fun k => (l k, u k)) S.N)))) {Q : Int → List Cell → Prop}
    (q : ∀ (S' : Bst) (t : Nat), Ext S S' → Bd17 n wk l u S' → NewS S S' x t → Q (t : Int) (bldM P w C A S')) : PlR P w C nrA A S x Q := by
  by_cases hx : x ∈ S.N
  · obtain ⟨t, ht⟩ := List.mem_iff_getElem?.mp hx
    exact .inl ⟨t, ht, q S t .refl h (.inl ⟨rfl, ht⟩)⟩
  · exact .inr ⟨hx, _, _, wt, by omega, nr, q _ _ ⟨List.prefix_append _ _, rfl, rfl, rfl⟩ (h.add g hx hl hw) (.inr ⟨hx, rfl, rfl⟩)⟩
theorem can_qv_can (a : Rat) : can (qv (can a)) = can a := by rw [qv_can]
theorem place_num (A : BAd) (h : Bd17 n wk l u S) {a : Rat} (za : Nm 40 (can a)) (hl : S.N.length < 4900) {Q : Int → List Cell → Prop}
    (q : ∀ (S' : Bst) (t : Nat), Ext S S' → Bd17 n wk l u S' → NewS S S' (.num (can a)) t → Q (t : Int) (bldM P w C A S')) : PlR P w C nrA A S (.num (can a)) Q := by
  refine place_of (x := .num (can a)) A h ⟨(can_qv_can a).symm, za⟩ hl (by show 1 ≤ 40; decide) rfl ?_ q
  show canS (qv (can a), qv (can a)) = (can a, can a)
  unfold canS
  rw [can_qv_can]
theorem Bd17.szR (h : Bd17 n wk l u S) (hb : BX 53 n wk l u) {t : Nat} (ht : t < S.N.length) : NmS (54 * ev wgS S.N t - 1) (ev (rgS fun k => (l k, u k)) S.N t) := h.once.size hb.nm t ht
theorem not_num (h : ArgsLt N) {t : Nat} (hn : ev lsS N t ≠ []) : (ndG N t).isNum = false := by
  rw [ev_eq h t] at hn
  cases e : ndG N t with
  | num v => rw [e] at hn; exact absurd rfl hn
  | _ => rfl
theorem place_op (A : BAd) (h : Bd17 n wk l u S) (hb : BX 53 n wk l u) {o : Op2} {i j : Nat} (g : GoodNd n S.N S.N.length (.op o i j)) (hl : S.N.length < 4900) (hw : ev wgS S.N i + ev wgS S.N j ≤ 40) (hne : ev lsS S.N i ≠ [] ∨ ev lsS S.N j ≠ []) {Q : Int → List Cell → Prop}
    (q : ∀ (S' : Bst) (t : Nat), Ext S S' → Bd17 n wk l u S' → NewS S S' (.op o i j) t → Q (t : Int) (bldM P w C A S')) : NodeR P w C nrA A S (.op o i j) Q := by
  obtain ⟨hi, hj, hd, ho⟩ := g
  have hA := h.once.args
  refine .inl ⟨?_, place_of (x := .op o i j) A h ⟨hi, hj, hd, ho⟩ hl hw ⟨_, _, h.wAt hi, h.wAt hj, rfl⟩ ⟨_, _, _, _, h.rAt hi, h.rAt hj, h.szR hb hi, h.szR hb hj, by omega, fun e => ?_, rfl⟩ q⟩
  · show ((ndG S.N i).isNum && ((ndG S.N j).isNum && true)) = false
    rcases hne with z | z
    · rw [not_num hA z]; rfl
    · rw [not_num hA z, Bool.false_and, Bool.and_false]
  · rcases ho with z | z | z | ⟨z, v, hv, hz⟩
    · rw [z] at e; cases e
    · rw [z] at e; cases e
    · rw [z] at e; cases e
    · rw [show ev (rgS fun k => (l k, u k)) S.N j = (qv v, qv v) by rw [ev_eq hA j, ndG_some hv]; rfl]
      exact ⟨hz, hz⟩
/-- the law's own list of nodes stands beside the builder's -/
def stN (P : Program) (w : World) (C : Addr) (A : BAd) (S : Bst) (na pa : Addr) : List Cell := bldM P w C A S ++ [lst na S.N, lst pa (nI (List.range S.N.length))]
theorem places_at {m t : Nat} (h : t < m) : atI (nI (List.range m)) (t : Int) = some (t : Int) := atI_nat (nI_at (by rw [List.getElem?_range h]))
/-- both lists after a node is placed in both -/
theorem put_new {na pa : Addr} {t : Nat} (h : NewS S S' x t) (nd : S.N.Nodup) {Q : Int → List Cell → Prop} (q : Q (t : Int) [lst na S'.N, lst pa (nI (List.range S'.N.length))]) :
    (∀ i : Nat, S.N[i]? = some x → Q (i : Int) [lst na S.N, lst pa (nI (List.range S.N.length))]) ∧ (x ∉ S.N → Q (S.N.length : Int) [lst na (S.N ++ [x]), lst pa (nI (List.range S.N.length) ++ [(t : Int)])]) := by
  rcases h with ⟨rfl, h⟩ | ⟨hx, e, rfl⟩
  · refine ⟨fun i hi => ?_, fun z => absurd (List.mem_of_getElem? h) z⟩
    have : i = t := by
      obtain ⟨l1, e1⟩ := List.getElem?_eq_some_iff.mp hi
      obtain ⟨l2, e2⟩ := List.getElem?_eq_some_iff.mp h
      exact (List.getElem_inj nd).mp (e1.trans e2.symm)
    rw [this]; exact q
  · refine ⟨fun i hi => absurd (List.mem_of_getElem? hi) hx, fun _ => ?_⟩
    rw [e, List.length_append, List.length_singleton, List.range_succ, nI_snoc] at q
    exact q
end
end K17
namespace K17
open PySem PySem.Spec PyProof.Rows L2 Dl
section
variable {P : Program} {w : World} {K : PySem.W.Frag} {mg : Str → Option Value} {base : Heap} {C : Addr}
/-! ### a number joined to a term -/
def stJ (P : Program) (w : World) (C : Addr) (A : BAd) (S : Bst) (na pa j g : Addr) : List Cell := bldM P w C A S ++ [lst na S.N, lst pa (nI (List.range S.N.length)), JarC j g]
/-- what comes out of a step over the nodes I -/
structure Out (n : Nat) (wk : Nat → Bool) (l u : Nat → Rat) (S S' : Bst) (ls : List Nat) (wt t m : Nat) : Prop where
  ext : Ext S S'
  bd : Bd17 n wk l u S'
  lt : t < S'.N.length
  ls : ∀ k, k ∈ ev lsS S'.N t ↔ k ∈ ls
  wt : ev wgS S'.N t = wt
  len : S'.N.length ≤ S.N.length + m
def phWNum (P : Program) (w : World) (C : Addr) : Pm Int := fun as μ Q => ∃ (A : BAd) (S : Bst) (na pa j g : Addr) (i n : Nat) (wk : Nat → Bool) (l u : Nat → Rat), as = [sl (Ref.mk j), sl (Ref.mk A.b), sl (Ref.mk na), sl (Ref.mk pa), sl (i : Int)] ∧ μ = stJ P w C A S na pa j g ∧
  (Bd17 n wk l u S ∧ BX 53 n wk l u ∧ i < S.N.length ∧ ev lsS S.N i ≠ [] ∧ ev wgS S.N i + 1 ≤ 40 ∧ S.N.length < 4800) ∧ ∀ S' t, Out n wk l u S S' (ev lsS S.N i) (ev wgS S.N i + 1) t 2 → Q (t : Int) (stJ P w C A S' na pa j g)
theorem can32 : ((-(3 : Int), (2 : Int)) : Q2) = can (-3 / 2 : Rat) := by decide +kernel
theorem op_of (kd : Str) (h : kd ∈ [("add" : Str), "sub", "mul", "mul", "div"]) : ∃ o : Op2, kd = o.s ∧ (o = .add ∨ o = .sub ∨ o = .mul ∨ o = .div) := by
  simp only [List.mem_cons, List.not_mem_nil, or_false] at h
  rcases h with h | h | h | h | h
  · exact ⟨.add, h, .inl rfl⟩
  · exact ⟨.sub, h, .inr (.inl rfl)⟩
  · exact ⟨.mul, h, .inr (.inr (.inl rfl))⟩
  · exact ⟨.mul, h, .inr (.inr (.inl rfl))⟩
  · exact ⟨.div, h, .inr (.inr (.inr rfl))⟩
theorem c_wnum (D : Dfn K mg "_law_with_number" s_law_with_number ["jar", "builder", "nodes", "places", "one"]) (cd : cDraw P w K mg base) (cv : Cal P w K mg base "_law_value" 2 ["jar"] phValue) (cp : Cal P w K mg base "_law_put" 1 ["nodes", "places", "node", "place"] phPut)
    (cnu : MetD P w K mg base C "number" 22 ["self", "value"] (phNumber P w C nrA)) (cno : MetD P w K mg base C "node" 23 ["self", "kind", "one", "two"] (phNode P w C nrA)) : Cal P w K mg base "_law_with_number" 24 ["jar", "builder", "nodes", "places", "one"] (phWNum P w C) := by
  refine D.cal sc_law_with_number (fun as μ Q h => ?_) fun f cdv A' outer s H E hr as μ Pd h => ?_
  · obtain ⟨_, _, _, _, _, _, _, _, _, _, _, rfl, _⟩ := h; rfl
  obtain ⟨A, S, na, pa, j, g, i, n, wk, l, u, rfl, rfl, ⟨hB, hb, hi, hne, hw, hl⟩, q⟩ := h
  refine db_cons (DS.mid (fun δ' μ' => ∃ o : Op2, (o = .add ∨ o = .sub ∨ o = .mul ∨ o = .div) ∧ δ' = [sl (Ref.mk j), sl (Ref.mk A.b), sl (Ref.mk na), sl (Ref.mk pa), sl (i : Int), sl o.s, .any, .any] ∧ μ' = stJ P w C A S na pa j g) ?_ ?_)
  · refine ds_set (i := 5) sc_law_with_number.nd <| de_ixL (α := Str) <| de_lstF <| da_cons <| de_str <| da_cons <| de_str <| da_cons <| de_str <| da_cons <| de_str <| da_cons <| de_str <| da_nil ⟨["add", "sub", "mul", "mul", "div"], rfl, (by show 5 ≤ 1000; decide), de_c1M cd hr (by decide) <| da_cons <| de_var (i := 0) rfl <| da_cons <| de_int <| da_nil ⟨stN P w C A S na pa, [JarC j g], [], rfl, j, g, _, rfl, rfl, ⟨by decide, by decide⟩, fun d d0 d1 => ?_⟩⟩
    obtain ⟨kd, hkd, hkm⟩ := one_of (xs := [("add" : Str), "sub", "mul", "mul", "div"]) d0 d1
    obtain ⟨o, rfl, ho⟩ := op_of kd hkm
    exact ⟨_, hkd, o, ho, rfl, rfl⟩
  rintro δ' μ' ⟨o, ho, rfl, rfl⟩
  refine db_cons (DS.mid (fun δ' μ' => ∃ a : Rat, (Nm 40 (can a) ∧ longQ (can a) = false) ∧ δ' = [sl (Ref.mk j), sl (Ref.mk A.b), sl (Ref.mk na), sl (Ref.mk pa), sl (i : Int), sl o.s, sl (can a), .any] ∧ μ' = stJ P w C A S na pa j g) ?_ ?_)
  · exact ds_set (i := 6) sc_law_with_number.nd <| de_c1M cv hr (by decide) <| da_cons <| de_var (i := 0) rfl <| da_nil ⟨stN P w C A S na pa, [JarC j g], [], rfl, j, g, rfl, rfl, fun a za la => ⟨a, ⟨za, la⟩, rfl, rfl⟩⟩
  rintro δ' μ' ⟨a0, ⟨za0, la0⟩, rfl, rfl⟩
  refine db_cons (DS.mid (fun δ' μ' => ∃ a : Rat, (Nm 40 (can a) ∧ longQ (can a) = false ∧ (o = .div → a ≠ 0)) ∧ δ' = [sl (Ref.mk j), sl (Ref.mk A.b), sl (Ref.mk na), sl (Ref.mk pa), sl (i : Int), sl o.s, sl (can a), .any] ∧ μ' = stJ P w C A S na pa j g) ?_ ?_)
  · refine ds_if (dw_and <| dt_eqS (un_of hr) <| de_var (i := 5) rfl <| de_str ⟨⟨o.ok, ok_div⟩, ?_⟩).dt
    rw [op_div_eq]
    refine ⟨fun h => dw_and1 <| dt_eqI <| de_ix0 (α := Int) (β := Int) <| de_var (i := 6) rfl <| de_int ⟨fun h0 => ?_, fun h0 => db_nil ⟨a0, ⟨za0, la0, fun _ z => of_decide_eq_false h0 (can_num0.mpr z)⟩, rfl, rfl⟩⟩, fun h => ⟨fun h => (nomatch h), fun _ => db_nil ⟨a0, ⟨za0, la0, fun z => absurd z (of_decide_eq_false h)⟩, rfl, rfl⟩⟩⟩
    refine db_one (ds_set (α := Q2) (i := 6) sc_law_with_number.nd <| de_tup2 (α := Int) (β := Int) <| de_neg <| de_int <| de_int ⟨-3 / 2, ⟨?_, ?_, fun _ => by decide +kernel⟩, ?_, rfl⟩)
    · rw [← can32]; exact ⟨by decide, by decide, by decide⟩
    · rw [← can32]; decide
    · rw [← can32]; rfl
  rintro δ' μ' ⟨a, ⟨za, la, hz⟩, rfl, rfl⟩
  refine db_cons (DS.mid (fun δ' μ' => ∃ (S1 : Bst) (t : Nat), (Ext S S1 ∧ Bd17 n wk l u S1 ∧ NewS S S1 (.num (can a)) t) ∧ δ' = [sl (Ref.mk j), sl (Ref.mk A.b), sl (Ref.mk na), sl (Ref.mk pa), sl (i : Int), sl o.s, sl (can a), sl (t : Int)] ∧ μ' = stJ P w C A S1 na pa j g) ?_ ?_)
  · refine ds_set (i := 7) sc_law_with_number.nd <| de_c1M cp hr (by decide) <| da_cons <| de_var (i := 2) rfl <| da_cons <| de_var (i := 3) rfl <| da_cons <| de_asNdQ <| de_tup2 <| de_str <| de_var (i := 6) rfl ⟨rfl, da_cons <| de_mtM cnu hr (by decide) <| de_var (i := 1) rfl ⟨⟨0, A.dx, _, rfl, rfl⟩, da_cons <| de_var (i := 6) rfl <| da_nil ⟨[], bldM P w C A S, [lst na S.N, lst pa (nI (List.range S.N.length)), JarC j g], rfl, A, S, can a, rfl, rfl, hB.ok, la, place_num A hB za (by omega) fun S1 t ex b1 nw => ?_⟩⟩⟩
    have pn := put_new (na := na) (pa := pa) nw hB.ok.nd (Q := fun y μ' => ∃ (S2 : Bst) (t : Nat), (Ext S S2 ∧ Bd17 n wk l u S2 ∧ NewS S S2 (.num (can a)) t) ∧ [sl (Ref.mk j), sl (Ref.mk A.b), sl (Ref.mk na), sl (Ref.mk pa), sl (i : Int), sl o.s, sl (can a), sl y] = [sl (Ref.mk j), sl (Ref.mk A.b), sl (Ref.mk na), sl (Ref.mk pa), sl (i : Int), sl o.s, sl (can a), sl (t : Int)] ∧ bldM P w C A S1 ++ μ' ++ [JarC j g] = stJ P w C A S2 na pa j g) ⟨S1, t, ⟨ex, b1, nw⟩, rfl, rfl⟩
    exact da_nil ⟨bldM P w C A S1, [lst na S.N, lst pa (nI (List.range S.N.length))], [JarC j g], rfl, na, pa, S.N, _, (t : Int), _, rfl, rfl, ⟨by omega, by rw [nI_len, List.length_range]; omega⟩, pn⟩
  rintro δ' μ' ⟨S1, t, ⟨ex1, b1, nw1⟩, rfl, rfl⟩
  have l1 := nw1.len
  have ht := nw1.get
  have htl := (List.getElem?_eq_some_iff.mp ht).1
  have hi1 : i < S1.N.length := Nat.lt_of_lt_of_le hi ex1.len
  have A1 := b1.once.args
  have lsi : ev lsS S1.N i = ev lsS S.N i := ex1.ev hB hi
  have wti : ev wgS S1.N i = ev wgS S.N i := ex1.ev hB hi
  have lst' : ev lsS S1.N t = [] := by rw [ev_eq A1 t, ndG_some ht]; rfl
  have wtt : ev wgS S1.N t = 1 := by rw [ev_eq A1 t, ndG_some ht]; rfl
  have it : i ≠ t := fun e => hne (by rw [← lsi, e]; exact lst')
  refine db_cons (DS.mid (fun δ' μ' => ∃ x y : Nat, ((x = i ∧ y = t) ∨ (x = t ∧ y = i ∧ o ≠ .div)) ∧ δ' = [sl (Ref.mk j), sl (Ref.mk A.b), sl (Ref.mk na), sl (Ref.mk pa), sl (x : Int), sl o.s, sl (can a), sl (y : Int)] ∧ μ' = stJ P w C A S1 na pa j g) ?_ ?_)
  · refine ds_if (dw_and <| dt_neS (un_of hr) <| de_var (i := 5) rfl <| de_str ⟨⟨o.ok, ok_div⟩, ?_⟩).dt
    rw [op_div_eq]
    refine ⟨fun h => dw_and1 <| dt_eqI <| de_c1M cd hr (by decide) <| da_cons <| de_var (i := 0) rfl <| da_cons <| de_int <| da_nil ⟨stN P w C A S1 na pa, [JarC j g], [], rfl, j, g, _, rfl, rfl, ⟨by decide, by decide⟩, fun d d0 d1 => de_int ⟨fun _ => ?_, fun _ => db_nil ⟨i, t, .inl ⟨rfl, rfl⟩, rfl, rfl⟩⟩⟩, fun h => ⟨fun h => (nomatch h), fun _ => db_nil ⟨i, t, .inl ⟨rfl, rfl⟩, rfl, rfl⟩⟩⟩
    have h : (!decide (o = .div)) = true := h
    have h : o ≠ .div := by simpa using h
    exact db_one (ds_par (i := 4) (j := 7) rfl sc_law_with_number.nd (by decide) (de_var (i := 7) rfl (de_var (i := 4) rfl ⟨t, i, .inr ⟨rfl, rfl, h⟩, rfl, rfl⟩)) (by rfl))
  rintro δ' μ' ⟨x, y, hxy, rfl, rfl⟩
  have hx : x < S1.N.length := by rcases hxy with ⟨rfl, _⟩ | ⟨rfl, _⟩ <;> assumption
  have hy : y < S1.N.length := by rcases hxy with ⟨_, rfl⟩ | ⟨_, rfl, _⟩ <;> assumption
  have xy : x ≠ y := by rcases hxy with ⟨rfl, rfl⟩ | ⟨rfl, rfl, _⟩ <;> omega
  have hmem : ∀ k, k ∈ ev lsS S1.N x ++ ev lsS S1.N y ↔ k ∈ ev lsS S.N i := fun k => by
    rcases hxy with ⟨rfl, rfl⟩ | ⟨rfl, rfl, _⟩
    · rw [lst', List.append_nil, lsi]
    · rw [lst', List.nil_append, lsi]
  have hwt : ev wgS S1.N x + ev wgS S1.N y = ev wgS S.N i + 1 := by rcases hxy with ⟨rfl, rfl⟩ | ⟨rfl, rfl, _⟩ <;> omega
  have good : GoodNd n S1.N S1.N.length (.op o x y) := by
    refine ⟨hx, hy, fun k hk => ?_, ?_⟩
    · rcases hxy with ⟨rfl, rfl⟩ | ⟨rfl, rfl, _⟩
      · rw [lst']; exact List.not_mem_nil
      · rw [lst'] at hk; exact absurd hk List.not_mem_nil
    · rcases ho with z | z | z | z
      · exact .inl z
      · exact .inr (.inl z)
      · exact .inr (.inr (.inl z))
      · rcases hxy with ⟨rfl, rfl⟩ | ⟨_, _, c⟩
        · exact .inr (.inr (.inr ⟨z, _, ht, by rw [qv_can]; exact hz z⟩))
        · exact absurd z c
  have hne2 : ev lsS S1.N x ≠ [] ∨ ev lsS S1.N y ≠ [] := by
    rcases hxy with ⟨rfl, rfl⟩ | ⟨rfl, rfl, _⟩
    · exact .inl (by rw [lsi]; exact hne)
    · exact .inr (by rw [lsi]; exact hne)
  have hdv : (o.s : Str) = "div" → ∃ s : RR, S1.R[((y : Int)).toNat]? = some (canS s) ∧ ¬ (s.1 ≤ 0 ∧ 0 ≤ s.2) := fun e => by
    have e : o = .div := Op2.s_inj (e : o.s = Op2.div.s)
    rcases hxy with ⟨_, rfl⟩ | ⟨_, _, c⟩
    · refine ⟨_, by rw [Int.toNat_natCast]; exact b1.rAt htl, ?_⟩
      rw [show ev (rgS fun k => (l k, u k)) S1.N y = (a, a) by rw [ev_eq A1 y, ndG_some ht]; show (qv (can a), qv (can a)) = _; rw [qv_can]]
      rintro ⟨z1, z2⟩
      exact hz e (Rat.le_antisymm z1 z2)
    · exact absurd e c
  exact db_one (ds_ret <| de_c1M cp hr (by decide) <| da_cons <| de_var (i := 2) rfl <| da_cons <| de_var (i := 3) rfl <| da_cons <| de_asNd3 <| de_tup3 <| de_var (i := 5) rfl <| de_var (i := 4) rfl <| de_var (i := 7) rfl ⟨.op o x y, rfl, da_cons <| de_mtM cno hr (by decide) <| de_var (i := 1) rfl ⟨⟨0, A.dx, _, rfl, rfl⟩, da_cons <| de_var (i := 5) rfl <| da_cons <| de_ixC (α := Int) 8 <| de_var (i := 3) rfl <| de_var (i := 4) rfl ⟨_, rfl, _, places_at hx, da_cons <| de_ixC (α := Int) 8 <| de_var (i := 3) rfl <| de_var (i := 7) rfl ⟨_, rfl, _, places_at hy, da_nil ⟨[], bldM P w C A S1, [lst na S1.N, lst pa (nI (List.range S1.N.length)), JarC j g], rfl, A, S1, o.s, x, (y : Int), .op o x y, rfl, rfl, ⟨b1.ok, .inl ⟨o, y, rfl, rfl, (if_neg fun z => xy z.2).symm⟩, hdv, fun b hb => by
    have hb : b ∈ [x, y] := hb
    rcases List.mem_cons.mp hb with rfl | hb
    · exact hx
    · rw [List.mem_singleton.mp hb]; exact hy⟩, place_op A b1 hb good (by omega) (by omega) hne2 fun S2 t2 ex2 b2 nw2 => da_nil ⟨bldM P w C A S2, [lst na S1.N, lst pa (nI (List.range S1.N.length))], [JarC j g], rfl, na, pa, S1.N, _, (t2 : Int), _, rfl, rfl, ⟨by omega, by rw [nI_len, List.length_range]; omega⟩, put_new (na := na) (pa := pa) (Q := fun y μ' => Pd y (bldM P w C A S2 ++ μ' ++ [JarC j g])) nw2 b1.ok.nd (q S2 t2 ⟨ex1.trans ex2, b2, (List.getElem?_eq_some_iff.mp nw2.get).1, fun k => by rw [ev_eq b2.once.args t2, ndG_some nw2.get]; show k ∈ ev lsS S2.N x ++ ev lsS S2.N y ↔ _; rw [ex2.ev b1 hx, ex2.ev b1 hy]; exact hmem k, by rw [ev_eq b2.once.args t2, ndG_some nw2.get]; show ev wgS S2.N x + ev wgS S2.N y = _; rw [ex2.ev b1 hx, ex2.ev b1 hy]; exact hwt, by have := nw2.len; omega⟩)⟩⟩⟩⟩⟩⟩)
end
end K17
namespace K17
open PySem PySem.Spec PyProof.Rows L2 Dl
/-! ### nodes that wait to be joined -/
section
variable {n : Nat} {wk : Nat → Bool} {l u : Nat → Rat} {S S' : Bst} {ws ws' : List Nat} {b : Nat}
structure WtI (S : Bst) (ws : List Nat) (b : Nat) : Prop where
  at_ : ∀ a ∈ ws, a < S.N.length ∧ ev lsS S.N a ≠ []
  dj : ws.Pairwise fun a c => ∀ k, k ∈ ev lsS S.N a → k ∉ ev lsS S.N c
  sum : (ws.map (ev wgS S.N)).sum ≤ b
theorem sum_perm : ∀ {a c : List Nat}, a.Perm c → a.sum = c.sum := fun h => by
  induction h with
  | nil => rfl
  | cons x _ ih => rw [List.sum_cons, List.sum_cons, ih]
  | swap x y l => simp only [List.sum_cons]; omega
  | trans _ _ i1 i2 => rw [i1, i2]
theorem WtI.perm (h : WtI S ws b) (p : ws.Perm ws') : WtI S ws' b :=
  ⟨fun a ha => h.at_ a (p.mem_iff.mpr ha), h.dj.perm p fun {x y} q k h1 h2 => q k h2 h1, by rw [← sum_perm (p.map _)]; exact h.sum⟩
theorem WtI.ext (h : WtI S ws b) (e : Ext S S') (hB : Bd17 n wk l u S) : WtI S' ws b := by
  have same : ∀ a ∈ ws, ev lsS S'.N a = ev lsS S.N a := fun a ha => e.ev hB (h.at_ a ha).1
  have sw : ∀ a ∈ ws, ev wgS S'.N a = ev wgS S.N a := fun a ha => e.ev hB (h.at_ a ha).1
  refine ⟨fun a ha => ⟨Nat.lt_of_lt_of_le (h.at_ a ha).1 e.len, by rw [same a ha]; exact (h.at_ a ha).2⟩, ?_, ?_⟩
  · refine h.dj.imp_of_mem fun {a c} ha hc q k h1 => ?_
    rw [same a ha] at h1
    rw [same c hc]
    exact q k h1
  · rw [List.map_congr_left sw]; exact h.sum
/-- the first one is exchanged for one with the same letters -/
theorem WtI.swap {a c m : Nat} (h : WtI S (a :: ws) b) (hc : c < S.N.length) (hl : ∀ k, k ∈ ev lsS S.N c ↔ k ∈ ev lsS S.N a) (hw : ev wgS S.N c ≤ ev wgS S.N a + m) : WtI S (c :: ws) (b + m) := by
  have h1 := List.pairwise_cons.mp h.dj
  have h2 := h.sum
  rw [List.map_cons, List.sum_cons] at h2
  refine ⟨fun x hx => ?_, List.pairwise_cons.mpr ⟨fun x hx k hk => h1.1 x hx k ((hl k).mp hk), h1.2⟩, by rw [List.map_cons, List.sum_cons]; omega⟩
  rcases List.mem_cons.mp hx with rfl | hx
  · refine ⟨hc, fun z => (h.at_ a (by simp)).2 ?_⟩
    cases e : ev lsS S.N a with
    | nil => rfl
    | cons y r =>
      have := (hl y).mpr (by rw [e]; simp)
      rw [z] at this; exact absurd this List.not_mem_nil
  · exact h.at_ x (List.mem_cons_of_mem _ hx)
/-- the first two are joined -/
theorem WtI.join {a c t : Nat} (h : WtI S (a :: c :: ws) b) (ht : t < S.N.length) (hl : ∀ k, k ∈ ev lsS S.N t ↔ k ∈ ev lsS S.N a ++ ev lsS S.N c) (hw : ev wgS S.N t = ev wgS S.N a + ev wgS S.N c) : WtI S (t :: ws) b := by
  have h1 := List.pairwise_cons.mp h.dj
  have h3 := List.pairwise_cons.mp h1.2
  have h2 := h.sum
  rw [List.map_cons, List.map_cons, List.sum_cons, List.sum_cons] at h2
  refine ⟨fun x hx => ?_, List.pairwise_cons.mpr ⟨fun x hx k hk => ?_, h3.2⟩, by rw [List.map_cons, List.sum_cons]; omega⟩
  · rcases List.mem_cons.mp hx with rfl | hx
    · refine ⟨ht, fun z => (h.at_ a (by simp)).2 ?_⟩
      cases e : ev lsS S.N a with
      | nil => rfl
      | cons y r =>
        have := (hl y).mpr (by rw [e]; simp)
        rw [z] at this; exact absurd this List.not_mem_nil
    · exact h.at_ x (List.mem_cons_of_mem _ (List.mem_cons_of_mem _ hx))
  · rcases List.mem_append.mp ((hl k).mp hk) with z | z
    · exact h1.1 x (List.mem_cons_of_mem _ hx) k z
    · exact h3.1 x hx k z
theorem WtI.two {a c : Nat} (h : WtI S (a :: c :: ws) b) : a < S.N.length ∧ c < S.N.length ∧ a ≠ c ∧ (∀ k ∈ ev lsS S.N a, k ∉ ev lsS S.N c) ∧ ev lsS S.N a ≠ [] ∧ ev wgS S.N a + ev wgS S.N c ≤ b := by
  have h1 := List.pairwise_cons.mp h.dj
  have ha := h.at_ a (by simp)
  have h2 := h.sum
  rw [List.map_cons, List.map_cons, List.sum_cons, List.sum_cons] at h2
  refine ⟨ha.1, (h.at_ c (by simp)).1, fun e => ?_, h1.1 c (by simp), ha.2, by omega⟩
  cases el : ev lsS S.N a with
  | nil => exact ha.2 el
  | cons y r =>
    have hy : y ∈ ev lsS S.N a := by rw [el]; simp
    exact h1.1 c (by simp) y hy (by rw [← e]; exact hy)
theorem WtI.one {a : Nat} (h : WtI S (a :: ws) b) : a < S.N.length ∧ ev lsS S.N a ≠ [] ∧ ev wgS S.N a ≤ b := by
  have h2 := h.sum
  rw [List.map_cons, List.sum_cons] at h2
  exact ⟨(h.at_ a (by simp)).1, (h.at_ a (by simp)).2, by omega⟩
theorem ins_perm {α : Type} {xs : List α} {i : Nat} {y : α} : (xs.take i ++ [y] ++ xs.drop i).Perm (y :: xs) := by
  rw [List.append_assoc]
  have h : (xs.take i ++ y :: xs.drop i).Perm (y :: (xs.take i ++ xs.drop i)) := List.perm_middle
  rw [List.take_append_drop] at h
  exact h
theorem erase_permN {xs : List Nat} {i y : Nat} (h : xs[i]? = some y) : xs.Perm (y :: xs.eraseIdx i) := by
  obtain ⟨hi, e⟩ := List.getElem?_eq_some_iff.mp h
  have h1 : xs = xs.take i ++ y :: xs.drop (i + 1) := by rw [← e, List.getElem_cons_drop, List.take_append_drop]
  have h2 : xs.eraseIdx i = xs.take i ++ xs.drop (i + 1) := List.eraseIdx_eq_take_drop_succ ..
  rw [h2]
  refine (List.Perm.of_eq h1).trans List.perm_middle
/-- at the beginning: the letters -/
theorem WtI.start (hB : Bd17 n wk l u S) (hN : S.N.length = n) (p : ws.Perm (List.range n)) : WtI S ws n := by
  have hA := hB.once.args
  have e1 : ∀ k, k < n → ndG S.N k = .letter k := fun k hk => ndG_some (hB.once.lets k hk)
  have ls : ∀ k, k < n → ev lsS S.N k = [k] := fun k hk => by rw [ev_eq hA k, e1 k hk]; rfl
  have wg : ∀ k ∈ List.range n, ev wgS S.N k = 1 := fun k hk => by rw [ev_eq hA k, e1 k (List.mem_range.mp hk)]; rfl
  refine WtI.perm (ws := List.range n) ⟨fun a ha => ⟨by rw [hN]; exact List.mem_range.mp ha, by rw [ls a (List.mem_range.mp ha)]; simp⟩, ?_, ?_⟩ p.symm
  · refine List.nodup_range.imp_of_mem fun {a c} ha hc hac k hk hk2 => ?_
    rw [ls a (List.mem_range.mp ha), List.mem_singleton] at hk
    rw [ls c (List.mem_range.mp hc), List.mem_singleton] at hk2
    exact hac (hk.symm.trans hk2)
  · rw [List.map_congr_left wg]
    have : ∀ m : Nat, ((List.range m).map fun _ => 1).sum = m := fun m => by
      rw [List.map_const']; simp
    rw [this n]; exact Nat.le_refl _
end
end K17
namespace K17
open PySem PySem.Spec PyProof.Rows L2 Dl
section
variable {P : Program} {w : World} {K : PySem.W.Frag} {mg : Str → Option Value} {base : Heap} {C : Addr}
/-! ### the term -/
def phTerm (P : Program) (w : World) (C : Addr) : Pm Int := fun as μ Q => ∃ (A : BAd) (S : Bst) (na pa j g : Addr) (n : Nat) (wk : Nat → Bool) (l u : Nat → Rat), as = [sl (Ref.mk j), sl (Ref.mk A.b), sl (Ref.mk na), sl (Ref.mk pa)] ∧ μ = stJ P w C A S na pa j g ∧
  (Bd17 n wk l u S ∧ BX 53 n wk l u ∧ S.N.length = n ∧ 1 ≤ n ∧ n ≤ 6) ∧ ∀ S' t, Ext S S' → Bd17 n wk l u S' → t < S'.N.length → S'.N.length ≤ 30 → Q (t : Int) (stJ P w C A S' na pa j g)
theorem op_of3 (kd : Str) (h : kd ∈ [("add" : Str), "sub", "mul", "mul"]) : ∃ o : Op2, kd = o.s ∧ (o = .add ∨ o = .sub ∨ o = .mul) := by
  simp only [List.mem_cons, List.not_mem_nil, or_false] at h
  rcases h with h | h | h | h
  · exact ⟨.add, h, .inl rfl⟩
  · exact ⟨.sub, h, .inr (.inl rfl)⟩
  · exact ⟨.mul, h, .inr (.inr rfl)⟩
  · exact ⟨.mul, h, .inr (.inr rfl)⟩
theorem eraseN : ∀ {ws : List Nat} {i : Nat}, (nI ws).eraseIdx i = nI (ws.eraseIdx i)
  | [], _ => rfl
  | _ :: _, 0 => rfl
  | x :: ws, i + 1 => congrArg (List.cons (x : Int)) (eraseN (ws := ws) (i := i))
theorem insN {ws : List Nat} {i y : Nat} : (nI ws).take i ++ [(y : Int)] ++ (nI ws).drop i = nI (ws.take i ++ [y] ++ ws.drop i) := by unfold nI; simp [List.map_append, List.map_take, List.map_drop]
theorem c_term (D : Dfn K mg "_law_term" s_law_term ["jar", "builder", "nodes", "places"]) (T : Txt mg) (cd : cDraw P w K mg base) (cp : Cal P w K mg base "_law_put" 1 ["nodes", "places", "node", "place"] phPut) (cw : Cal P w K mg base "_law_with_number" 24 ["jar", "builder", "nodes", "places", "one"] (phWNum P w C))
    (cno : MetD P w K mg base C "node" 23 ["self", "kind", "one", "two"] (phNode P w C nrA)) : Cal P w K mg base "_law_term" 25 ["jar", "builder", "nodes", "places"] (phTerm P w C) := by
  refine D.cal sc_law_term (fun as μ Q h => ?_) fun f cdv A' outer s H E hr as μ Pd h => ?_
  · obtain ⟨_, _, _, _, _, _, _, _, _, _, rfl, _⟩ := h; rfl
  obtain ⟨A, S, na, pa, j, g, n, wk, l, u, rfl, rfl, ⟨hB, hb, hN, n1, n6⟩, q⟩ := h
  refine db_cons (ds_set (i := 4) sc_law_term.nd <| de_lstN (α := Int) <| da_nil ⟨[], rfl, by decide, fun wa => ?_⟩)
  refine db_cons (DS.mid (fun δ' μ' => ∃ (ws : List Nat) (s5 : Slot), ws.Perm (List.range n) ∧ δ' = [sl (Ref.mk j), sl (Ref.mk A.b), sl (Ref.mk na), sl (Ref.mk pa), sl (Ref.mk wa), s5, .any, .any, .any, .any, .any] ∧ μ' = stJ P w C A S na pa j g ++ [lst wa (nI ws)]) ?_ ?_)
  · refine ds_range1 (i := 5) PassesOwn.never rfl sc_law_term.nd T.range (de_lenC (α := Nd) 7 T.len <| de_var (i := 2) rfl ⟨S.N, rfl, ?_⟩)
    rw [hN]
    refine ⟨by omega, by omega, fun k δ' μ' => ∃ (ws : List Nat) (s5 : Slot), ws.Perm (List.range k) ∧ δ' = [sl (Ref.mk j), sl (Ref.mk A.b), sl (Ref.mk na), sl (Ref.mk pa), sl (Ref.mk wa), s5, .any, .any, .any, .any, .any] ∧ μ' = stJ P w C A S na pa j g ++ [lst wa (nI ws)], ⟨[], _, List.Perm.refl _, rfl, rfl⟩, fun k δ' μ' hk hI => ?_, fun δ' μ' hI => ?_⟩
    · obtain ⟨ws, s5, hp, rfl, rfl⟩ := hI
      have hl : ws.length = k := by rw [hp.length_eq, List.length_range]
      have hk : k < n := by omega
      refine db_one (ds_expr (de_insert (α := Int) 10 <| de_var (i := 4) rfl ⟨⟨_, rfl⟩, de_c1M cd hr (by decide) <| da_cons <| de_var (i := 0) rfl <| da_cons <| de_add <| de_lenC (α := Int) 10 T.len <| de_var (i := 4) rfl ⟨nI ws, rfl, de_int <| da_nil ⟨stN P w C A S na pa, [JarC j g], [lst wa (nI ws)], rfl, j, g, _, rfl, rfl, ⟨by omega, big_bits (by omega) (by rw [nI_len]; omega)⟩, fun d d0 d1 => ?_⟩⟩⟩))
      obtain ⟨i, rfl⟩ := Int.eq_ofNat_of_zero_le d0
      refine de_var (i := 5) rfl ⟨nI ws, i, rfl, by rw [nI_len]; omega, rfl, by rw [nI_len] at d1; omega, ?_⟩
      rw [insN]
      refine ⟨ws.take i ++ [k] ++ ws.drop i, _, ?_, rfl, rfl⟩
      refine ins_perm.trans ((hp.cons k).trans ?_)
      rw [List.range_succ]
      exact List.perm_append_comm (l₁ := [k])
    · rw [Int.toNat_natCast] at hI; exact hI
  rintro δ' μ' ⟨ws0, s50, hp0, rfl, rfl⟩
  have hl0 : ws0.length = n := by rw [hp0.length_eq, List.length_range]
  refine db_cons (DS.mid (fun δ' μ' => ∃ (S1 : Bst) (c : Nat) (s5 s6 s7 s8 s9 s10 : Slot), (Ext S S1 ∧ Bd17 n wk l u S1 ∧ WtI S1 [c] 11 ∧ S1.N.length ≤ 26) ∧ δ' = [sl (Ref.mk j), sl (Ref.mk A.b), sl (Ref.mk na), sl (Ref.mk pa), sl (Ref.mk wa), s5, s6, s7, s8, s9, s10] ∧ μ' = stJ P w C A S1 na pa j g ++ [lst wa (nI [c])]) ?_ ?_)
  · refine ds_range1 (i := 6) PassesOwn.never rfl sc_law_term.nd T.range (de_sub <| de_lenC (α := Int) 10 T.len <| de_var (i := 4) rfl ⟨nI ws0, rfl, de_int ?_⟩)
    rw [nI_len, hl0]
    refine ⟨by omega, by omega, fun k δ' μ' => ∃ (S1 : Bst) (ws : List Nat) (s5 s6 s7 s8 s9 s10 : Slot), (Ext S S1 ∧ Bd17 n wk l u S1 ∧ WtI S1 ws (n + k) ∧ ws.length + k = n ∧ S1.N.length ≤ n + 3 * k) ∧ δ' = [sl (Ref.mk j), sl (Ref.mk A.b), sl (Ref.mk na), sl (Ref.mk pa), sl (Ref.mk wa), s5, s6, s7, s8, s9, s10] ∧ μ' = stJ P w C A S1 na pa j g ++ [lst wa (nI ws)], ⟨S, ws0, _, _, _, _, _, _, ⟨.refl, hB, WtI.start hB hN hp0, hl0, by omega⟩, rfl, rfl⟩, fun k δ' μ' hk hI => ?_, fun δ' μ' hI => ?_⟩
    · obtain ⟨S1, ws, s5, s6, s7, s8, s9, s10, ⟨ex1, b1, hW, hlen, hsz⟩, rfl, rfl⟩ := hI
      have h2 : 2 ≤ ws.length := by omega
      obtain ⟨x, hx⟩ : ∃ x, ws[0]? = some x := ⟨_, List.getElem?_eq_getElem (by omega)⟩
      have l1 : (ws.eraseIdx 0).length = ws.length - 1 := by rw [List.length_eraseIdx, if_pos (by omega)]
      refine db_cons (ds_set (i := 7) sc_law_term.nd <| de_popAt (α := Int) 10 <| de_var (i := 4) rfl ⟨⟨_, rfl⟩, de_int ⟨nI ws, 0, (x : Int), rfl, rfl, by decide, nI_at hx, ?_⟩⟩)
      rw [eraseN]
      refine db_cons (DS.mid (fun δ' μ' => ∃ (i y : Nat), (ws.eraseIdx 0)[i]? = some y ∧ δ' = [sl (Ref.mk j), sl (Ref.mk A.b), sl (Ref.mk na), sl (Ref.mk pa), sl (Ref.mk wa), s5, sl (k : Int), sl (x : Int), sl (y : Int), s9, s10] ∧ μ' = stJ P w C A S1 na pa j g ++ [lst wa (nI ((ws.eraseIdx 0).eraseIdx i))]) ?_ ?_)
      · refine ds_set (i := 8) sc_law_term.nd <| de_popAt (α := Int) 10 <| de_var (i := 4) rfl ⟨⟨_, rfl⟩, de_c1M cd hr (by decide) <| da_cons <| de_var (i := 0) rfl <| da_cons <| de_lenC (α := Int) 10 T.len <| de_var (i := 4) rfl ⟨nI (ws.eraseIdx 0), rfl, da_nil ⟨stN P w C A S1 na pa, [JarC j g], [lst wa (nI (ws.eraseIdx 0))], rfl, j, g, _, rfl, rfl, ⟨by rw [nI_len]; omega, big_bits (by rw [nI_len]; omega) (by rw [nI_len]; omega)⟩, fun d d0 d1 => ?_⟩⟩⟩
        obtain ⟨i, rfl⟩ := Int.eq_ofNat_of_zero_le d0
        rw [nI_len] at d1
        obtain ⟨y, hy⟩ : ∃ y, (ws.eraseIdx 0)[i]? = some y := ⟨_, List.getElem?_eq_getElem (by omega)⟩
        refine ⟨nI (ws.eraseIdx 0), i, (y : Int), rfl, rfl, by omega, nI_at hy, i, y, hy, rfl, ?_⟩
        rw [eraseN]; rfl
      rintro δ' μ' ⟨i, y, hy, rfl, rfl⟩
      obtain ⟨ws2, ews2⟩ : ∃ ws2, ws2 = (ws.eraseIdx 0).eraseIdx i := ⟨_, rfl⟩
      rw [← ews2]
      have lw2 : ws2.length = ws.length - 2 := by
        have := (List.getElem?_eq_some_iff.mp hy).1
        rw [ews2, List.length_eraseIdx, if_pos this, l1]; omega
      have hW2 : WtI S1 (x :: y :: ws2) (n + k) := hW.perm ((erase_permN hx).trans ((erase_permN hy).cons x |>.trans (by rw [ews2])))
      have hxw := hW2.one
      refine db_cons (DS.mid (fun δ' μ' => ∃ (S2 : Bst) (z : Nat), (Ext S S2 ∧ Bd17 n wk l u S2 ∧ WtI S2 (z :: y :: ws2) (n + k + 1) ∧ S2.N.length ≤ n + 3 * k + 2) ∧ δ' = [sl (Ref.mk j), sl (Ref.mk A.b), sl (Ref.mk na), sl (Ref.mk pa), sl (Ref.mk wa), s5, sl (k : Int), sl (z : Int), sl (y : Int), s9, s10] ∧ μ' = stJ P w C A S2 na pa j g ++ [lst wa (nI ws2)]) ?_ ?_)
      · refine ds_if <| dt_eqI <| de_c1M cd hr (by decide) <| da_cons <| de_var (i := 0) rfl <| da_cons <| de_int <| da_nil ⟨stN P w C A S1 na pa, [JarC j g], [lst wa (nI ws2)], rfl, j, g, _, rfl, rfl, ⟨by decide, by decide⟩, fun d d0 d1 => de_int ⟨fun _ => ?_, fun _ => db_nil ⟨S1, x, ⟨ex1, b1, ⟨hW2.at_, hW2.dj, by have := hW2.sum; omega⟩, by omega⟩, rfl, rfl⟩⟩⟩
        exact db_one (ds_set (i := 7) sc_law_term.nd <| de_c1M cw hr (by decide) <| da_cons <| de_var (i := 0) rfl <| da_cons <| de_var (i := 1) rfl <| da_cons <| de_var (i := 2) rfl <| da_cons <| de_var (i := 3) rfl <| da_cons <| de_var (i := 7) rfl <| da_nil ⟨[], stJ P w C A S1 na pa j g, [lst wa (nI ws2)], rfl, A, S1, na, pa, j, g, x, n, wk, l, u, rfl, rfl, ⟨b1, hb, hxw.1, hxw.2.1, by omega, by omega⟩, fun S2 z o => ⟨S2, z, ⟨ex1.trans o.ext, o.bd, (hW2.ext o.ext b1).swap (m := 1) o.lt (fun c => by rw [o.ls c, o.ext.ev b1 hxw.1]) (by rw [o.wt, o.ext.ev b1 hxw.1]; exact Nat.le_refl _), by have := o.len; omega⟩, rfl, rfl⟩⟩)
      rintro δ' μ' ⟨S2, z, ⟨ex2, b2, hW3, hs2⟩, rfl, rfl⟩
      obtain ⟨hz, hy2, hzy, hdj, hne, hsum⟩ := hW3.two
      refine db_cons (DS.mid (fun δ' μ' => ∃ o : Op2, (o = .add ∨ o = .sub ∨ o = .mul) ∧ δ' = [sl (Ref.mk j), sl (Ref.mk A.b), sl (Ref.mk na), sl (Ref.mk pa), sl (Ref.mk wa), s5, sl (k : Int), sl (z : Int), sl (y : Int), sl o.s, s10] ∧ μ' = stJ P w C A S2 na pa j g ++ [lst wa (nI ws2)]) ?_ ?_)
      · refine ds_set (i := 9) sc_law_term.nd <| de_ixL (α := Str) <| de_lstF <| da_cons <| de_str <| da_cons <| de_str <| da_cons <| de_str <| da_cons <| de_str <| da_nil ⟨["add", "sub", "mul", "mul"], rfl, (by show 4 ≤ 1000; decide), de_c1M cd hr (by decide) <| da_cons <| de_var (i := 0) rfl <| da_cons <| de_int <| da_nil ⟨stN P w C A S2 na pa, [JarC j g], [lst wa (nI ws2)], rfl, j, g, _, rfl, rfl, ⟨by decide, by decide⟩, fun d d0 d1 => ?_⟩⟩
        obtain ⟨kd, hkd, hkm⟩ := one_of (xs := [("add" : Str), "sub", "mul", "mul"]) d0 d1
        obtain ⟨o, rfl, ho⟩ := op_of3 kd hkm
        exact ⟨_, hkd, o, ho, rfl, rfl⟩
      rintro δ' μ' ⟨o, ho, rfl, rfl⟩
      have good : GoodNd n S2.N S2.N.length (.op o z y) := ⟨hz, hy2, hdj, by rcases ho with z | z | z; exact .inl z; exact .inr (.inl z); exact .inr (.inr (.inl z))⟩
      have hdv : (o.s : Str) = "div" → ∃ s : RR, S2.R[((y : Int)).toNat]? = some (canS s) ∧ ¬ (s.1 ≤ 0 ∧ 0 ≤ s.2) := fun e => by
        have e : o = .div := Op2.s_inj (e : o.s = Op2.div.s)
        rcases ho with z | z | z <;> rw [z] at e <;> cases e
      refine db_cons (DS.mid (fun δ' μ' => ∃ (S3 : Bst) (t : Nat), (Ext S S3 ∧ Bd17 n wk l u S3 ∧ WtI S3 (t :: ws2) (n + k + 1) ∧ S3.N.length ≤ n + 3 * k + 3) ∧ δ' = [sl (Ref.mk j), sl (Ref.mk A.b), sl (Ref.mk na), sl (Ref.mk pa), sl (Ref.mk wa), s5, sl (k : Int), sl (z : Int), sl (y : Int), sl o.s, sl (t : Int)] ∧ μ' = stJ P w C A S3 na pa j g ++ [lst wa (nI ws2)]) ?_ ?_)
      · refine ds_set (i := 10) sc_law_term.nd <| de_c1M cp hr (by decide) <| da_cons <| de_var (i := 2) rfl <| da_cons <| de_var (i := 3) rfl <| da_cons <| de_asNd3 <| de_tup3 <| de_var (i := 9) rfl <| de_var (i := 7) rfl <| de_var (i := 8) rfl ⟨.op o z y, rfl, da_cons <| de_mtM cno hr (by decide) <| de_var (i := 1) rfl ⟨⟨0, A.dx, _, rfl, rfl⟩, da_cons <| de_var (i := 9) rfl <| da_cons <| de_ixC (α := Int) 8 <| de_var (i := 3) rfl <| de_var (i := 7) rfl ⟨_, rfl, _, places_at hz, da_cons <| de_ixC (α := Int) 8 <| de_var (i := 3) rfl <| de_var (i := 8) rfl ⟨_, rfl, _, places_at hy2, da_nil ⟨[], bldM P w C A S2, [lst na S2.N, lst pa (nI (List.range S2.N.length)), JarC j g, lst wa (nI ws2)], rfl, A, S2, o.s, z, (y : Int), .op o z y, rfl, rfl, ⟨b2.ok, .inl ⟨o, y, rfl, rfl, (if_neg fun z => hzy z.2).symm⟩, hdv, good.args⟩, place_op A b2 hb good (by omega) (by omega) (.inl hne) fun S3 t ex3 b3 nw => ?_⟩⟩⟩⟩⟩
        have fin : Ext S S3 ∧ Bd17 n wk l u S3 ∧ WtI S3 (t :: ws2) (n + k + 1) ∧ S3.N.length ≤ n + 3 * k + 3 := ⟨ex2.trans ex3, b3, (hW3.ext ex3 b2).join (List.getElem?_eq_some_iff.mp nw.get).1 (fun c => by rw [ev_eq b3.once.args t, ndG_some nw.get]; exact Iff.rfl) (by rw [ev_eq b3.once.args t, ndG_some nw.get]; rfl), by have := nw.len; omega⟩
        have pn := put_new (na := na) (pa := pa) nw b2.ok.nd (Q := fun v μ' => ∃ (S4 : Bst) (t' : Nat), (Ext S S4 ∧ Bd17 n wk l u S4 ∧ WtI S4 (t' :: ws2) (n + k + 1) ∧ S4.N.length ≤ n + 3 * k + 3) ∧ [sl (Ref.mk j), sl (Ref.mk A.b), sl (Ref.mk na), sl (Ref.mk pa), sl (Ref.mk wa), s5, sl (k : Int), sl (z : Int), sl (y : Int), sl o.s, sl v] = [sl (Ref.mk j), sl (Ref.mk A.b), sl (Ref.mk na), sl (Ref.mk pa), sl (Ref.mk wa), s5, sl (k : Int), sl (z : Int), sl (y : Int), sl o.s, sl (t' : Int)] ∧ bldM P w C A S3 ++ μ' ++ [JarC j g, lst wa (nI ws2)] = stJ P w C A S4 na pa j g ++ [lst wa (nI ws2)]) ⟨S3, t, fin, rfl, rfl⟩
        exact da_nil ⟨bldM P w C A S3, [lst na S2.N, lst pa (nI (List.range S2.N.length))], [JarC j g, lst wa (nI ws2)], rfl, na, pa, S2.N, _, (t : Int), _, rfl, rfl, ⟨by omega, by rw [nI_len, List.length_range]; omega⟩, pn⟩
      rintro δ' μ' ⟨S3, t, ⟨ex3, b3, hW4, hs3⟩, rfl, rfl⟩
      refine db_one (ds_expr (de_insert (α := Int) 10 <| de_var (i := 4) rfl ⟨⟨_, rfl⟩, de_c1M cd hr (by decide) <| da_cons <| de_var (i := 0) rfl <| da_cons <| de_add <| de_lenC (α := Int) 10 T.len <| de_var (i := 4) rfl ⟨nI ws2, rfl, de_int <| da_nil ⟨stN P w C A S3 na pa, [JarC j g], [lst wa (nI ws2)], rfl, j, g, _, rfl, rfl, ⟨by omega, big_bits (by omega) (by rw [nI_len]; omega)⟩, fun d d0 d1 => ?_⟩⟩⟩))
      obtain ⟨m, rfl⟩ := Int.eq_ofNat_of_zero_le d0
      refine de_var (i := 10) rfl ⟨nI ws2, m, rfl, by rw [nI_len]; omega, rfl, by rw [nI_len] at d1; omega, ?_⟩
      rw [insN]
      have pm : (ws2.take m ++ [t] ++ ws2.drop m).Perm (t :: ws2) := ins_perm
      exact ⟨S3, ws2.take m ++ [t] ++ ws2.drop m, _, _, _, _, _, _, ⟨ex3, b3, hW4.perm pm.symm, by rw [pm.length_eq, List.length_cons]; omega, by omega⟩, rfl, rfl⟩
    · obtain ⟨S1, ws, s5, s6, s7, s8, s9, s10, ⟨ex1, b1, hW, hlen, hsz⟩, rfl, rfl⟩ := hI
      have e1 : ((n : Int) - 1).toNat = n - 1 := by omega
      rw [e1] at hW hlen hsz
      obtain ⟨c, rfl⟩ : ∃ c, ws = [c] := List.length_eq_one_iff.mp (by omega)
      exact ⟨S1, c, _, _, _, _, _, _, ⟨ex1, b1, ⟨hW.at_, hW.dj, by have := hW.sum; omega⟩, by omega⟩, rfl, rfl⟩
  rintro δ' μ' ⟨S1, c, s5, s6, s7, s8, s9, s10, ⟨ex1, b1, hW, hsz⟩, rfl, rfl⟩
  have hc := hW.one
  refine db_cons (ds_set (i := 10) sc_law_term.nd <| de_ixC (α := Int) 10 <| de_var (i := 4) rfl <| de_int ⟨nI [c], rfl, (c : Int), atI_nat (j := 0) rfl, ?_⟩)
  refine db_cons (ds_range1 (i := 6) PassesOwn.never rfl sc_law_term.nd T.range (de_c1M cd hr (by decide) <| da_cons <| de_var (i := 0) rfl <| da_cons <| de_int <| da_nil ⟨stN P w C A S1 na pa, [JarC j g], [lst wa (nI [c])], rfl, j, g, _, rfl, rfl, ⟨by decide, by decide⟩, fun m m0 m1 => ?_⟩))
  refine ⟨by omega, by omega, fun k δ' μ' => ∃ (S2 : Bst) (t : Nat) (s6 : Slot), (Ext S S2 ∧ Bd17 n wk l u S2 ∧ t < S2.N.length ∧ ev lsS S2.N t ≠ [] ∧ ev wgS S2.N t ≤ 11 + k ∧ S2.N.length ≤ 26 + 2 * k) ∧ δ' = [sl (Ref.mk j), sl (Ref.mk A.b), sl (Ref.mk na), sl (Ref.mk pa), sl (Ref.mk wa), s5, s6, s7, s8, s9, sl (t : Int)] ∧ μ' = stJ P w C A S2 na pa j g ++ [lst wa (nI [c])], ⟨S1, c, _, ⟨ex1, b1, hc.1, hc.2.1, hc.2.2, hsz⟩, rfl, rfl⟩, fun k δ' μ' hk hI => ?_, fun δ' μ' hI => ?_⟩
  · obtain ⟨S2, t, s6', ⟨ex2, b2, ht, hne, hwt, hs2⟩, rfl, rfl⟩ := hI
    exact db_one (ds_set (i := 10) sc_law_term.nd <| de_c1M cw hr (by decide) <| da_cons <| de_var (i := 0) rfl <| da_cons <| de_var (i := 1) rfl <| da_cons <| de_var (i := 2) rfl <| da_cons <| de_var (i := 3) rfl <| da_cons <| de_var (i := 10) rfl <| da_nil ⟨[], stJ P w C A S2 na pa j g, [lst wa (nI [c])], rfl, A, S2, na, pa, j, g, t, n, wk, l, u, rfl, rfl, ⟨b2, hb, ht, hne, by omega, by omega⟩, fun S3 z o => ⟨S3, z, _, ⟨ex2.trans o.ext, o.bd, o.lt, fun e => hne (by
      cases el : ev lsS S2.N t with
      | nil => rfl
      | cons y r =>
        have := (o.ls y).mpr (by rw [el]; simp)
        rw [e] at this; exact absurd this List.not_mem_nil), by rw [o.wt]; omega, by have := o.len; omega⟩, rfl, rfl⟩⟩)
  · obtain ⟨S2, t, s6', ⟨ex2, b2, ht, hne, hwt, hs2⟩, rfl, rfl⟩ := hI
    exact db_one (ds_ret <| de_drop <| de_var (i := 10) rfl ⟨stJ P w C A S2 na pa j g, [lst wa (nI [c])], ⟨List.Perm.refl _⟩, q S2 t ex2 b2 ht (by omega)⟩)
end
end K17
namespace K17
open PySem PySem.Spec PyProof.Rows L2 Dl
section
variable {P : Program} {w : World} {K : PySem.W.Frag} {mg : Str → Option Value} {base : Heap} {C : Addr}
/-! ### the law's own order -/
def argA (N : List Nd) (t : Nat) : List Nat := argsT (ndG N t)
theorem argsA_ndG (S : Bst) : argsA S = argA S.N := by
  funext t
  unfold argsA argA ndG
  rw [List.getD_eq_getElem?_getD]
  cases S.N[t]? with
  | none => rfl
  | some n => rfl
def phParts : Pm (List Int) := fun as μ Q => ∃ x : Nd, as = [sl x] ∧ Q (nI (argsT x)) μ
theorem c_parts (D : Dfn K mg "_law_parts" s_law_parts ["node"]) : Cal P w K mg base "_law_parts" 1 ["node"] phParts := by
  refine D.cal sc_law_parts (fun as μ P h => ?_) fun f cdv A outer s H E hr as μ Pd h => ?_
  · obtain ⟨_, rfl, _⟩ := h; rfl
  obtain ⟨n, rfl, q⟩ := h
  refine db_cons (ds_if (dw_or <| dt_eqS (un_of hr) <| de_nd0 <| de_var (i := 0) rfl <| de_str ⟨⟨n.kind_ok, ok_num⟩, ?_⟩).dt)
  rw [kind_num]
  refine ⟨fun h1 => ⟨fun _ => ?_, fun z => (nomatch z)⟩, fun h1 => dw_or1 <| dt_eqS (un_of hr) <| de_nd0 <| de_var (i := 0) rfl <| de_str ⟨⟨n.kind_ok, ok_letter⟩, ?_⟩⟩
  · cases n with
    | num v => exact db_one (ds_ret <| de_lstF (α := Int) <| da_nil ⟨[], rfl, by decide, q⟩)
    | _ => cases h1
  rw [kind_letter]
  refine ⟨fun h2 => ?_, fun h2 => db_nil ?_⟩
  · cases n with
    | letter v => exact db_one (ds_ret <| de_lstF (α := Int) <| da_nil ⟨[], rfl, by decide, q⟩)
    | _ => cases h2
  refine db_cons (ds_if (dw_or <| dt_eqS (un_of hr) <| de_nd0 <| de_var (i := 0) rfl <| de_str ⟨⟨n.kind_ok, ok_abs⟩, ?_⟩).dt)
  rw [kind_abs]
  refine ⟨fun h3 => ⟨fun _ => ?_, fun z => (nomatch z)⟩, fun h3 => dw_or1 <| dt_eqS (un_of hr) <| de_nd0 <| de_var (i := 0) rfl <| de_str ⟨⟨n.kind_ok, ok_pow⟩, ?_⟩⟩
  · cases n with
    | abs v => exact db_one (ds_ret <| de_lstF (α := Int) <| da_cons <| de_nd1 <| de_var (i := 0) rfl ⟨rfl, da_nil ⟨[(v : Int)], rfl, by simp, q⟩⟩)
    | _ => cases h3
  rw [kind_pow]
  refine ⟨fun h4 => ?_, fun h4 => db_nil ?_⟩
  · cases n with
    | pow v n => exact db_one (ds_ret <| de_lstF (α := Int) <| da_cons <| de_nd1 <| de_var (i := 0) rfl ⟨rfl, da_nil ⟨[(v : Int)], rfl, by simp, q⟩⟩)
    | _ => cases h4
  cases n with
  | op o i j => exact db_one (ds_ret <| de_lstF (α := Int) <| da_cons <| de_nd1 <| de_var (i := 0) rfl ⟨rfl, da_cons <| de_nd2 <| de_var (i := 0) rfl ⟨rfl, da_nil ⟨[(i : Int), (j : Int)], rfl, by simp, q⟩⟩⟩)
  | letter k => cases h2
  | num v => cases h1
  | abs i => cases h3
  | pow i k => cases h4
/-- an order stays within the nodes -/
structure InO (m : Nat) (o : List Nat) : Prop where
  nd : o.Nodup
  lt : ∀ x ∈ o, x < m
theorem InO.len {m : Nat} {o : List Nat} (h : InO m o) : o.length ≤ m := by
  have := h.nd.length_le_of_subset (l₂ := List.range m) fun x hx => List.mem_range.mpr (h.lt x hx)
  rwa [List.length_range] at this
theorem InO.fold {m : Nat} {A : Nat → List Nat} (hA : ∀ t, ∀ a ∈ A t, a < t) (hd : ∀ t, t < m → ∀ o, InO m o → InO m (dfsO A o t)) : ∀ (l : List Nat) (o : List Nat), (∀ a ∈ l, a < m) → InO m o → InO m (l.foldl (dfsO A) o)
  | [], _, _, h => h
  | a :: l, o, hl, h => by
    rw [List.foldl_cons]
    exact InO.fold hA hd l _ (fun b hb => hl b (List.mem_cons_of_mem _ hb)) (hd a (hl a (by simp)) o h)
theorem InO.dfs {m : Nat} {A : Nat → List Nat} (hA : ∀ t, ∀ a ∈ A t, a < t) : ∀ t, t < m → ∀ o, InO m o → InO m (dfsO A o t) := by
  intro t
  induction t using Nat.strongRecOn with
  | _ t ih =>
    intro ht o ho
    rw [dfsO_eq hA]
    split
    · exact ho
    · rename_i hn
      have sub : ∀ (l : List Nat) (o : List Nat), (∀ a ∈ l, a < t) → InO m o → t ∉ o → InO m (l.foldl (dfsO A) o) ∧ t ∉ l.foldl (dfsO A) o := by
        intro l
        induction l with
        | nil => exact fun o _ h k => ⟨h, k⟩
        | cons a l il =>
          intro o hl h k
          rw [List.foldl_cons]
          have ha := hl a (by simp)
          refine il _ (fun b hb => hl b (List.mem_cons_of_mem _ hb)) (ih a ha (Nat.lt_trans ha ht) o h) fun z => ?_
          rcases dfsO_new hA a o t z with z | z
          · exact k z
          · omega
      obtain ⟨h1, h2⟩ := sub (A t) o (hA t) ho hn
      exact ⟨List.nodup_append.mpr ⟨h1.nd, by simp, fun x hx y hy e => h2 (by have e2 : x = t := e.trans (List.mem_singleton.mp hy); exact e2 ▸ hx)⟩, fun x hx => by
        rcases List.mem_append.mp hx with z | z
        · exact h1.lt x z
        · have := List.mem_singleton.mp z; omega⟩
theorem fold_take {A : Nat → List Nat} {l : List Nat} {k a : Nat} {o : List Nat} (h : l[k]? = some a) : (l.take (k + 1)).foldl (dfsO A) o = dfsO A ((l.take k).foldl (dfsO A) o) a := by
  rw [List.take_add_one, h, List.foldl_append]; rfl
def phNeed (d : Nat) : Pm (Stl Int) := fun as μ Q => ∃ (N : List Nd) (t : Nat) (o : List Nat), as = [sl N, sl (t : Int), sl (Stl.mk (nI o))] ∧ (ArgsLt N ∧ t < N.length ∧ t < d ∧ InO N.length o ∧ N.length ≤ 5000) ∧ Q ⟨nI (dfsO (argA N) o t)⟩ μ
theorem nI_mem {o : List Nat} {t : Nat} : decide ((t : Int) ∈ nI o) = decide (t ∈ o) := decide_eq_decide.mpr (by
  unfold nI
  rw [List.mem_map]
  constructor
  · rintro ⟨a, ha, e⟩
    rw [← show a = t by omega]; exact ha
  · exact fun h => ⟨t, h, rfl⟩)
theorem c_need (D : Dfn K mg "_law_needed" s_law_needed ["nodes", "at", "order"]) (cp : Cal P w K mg base "_law_parts" 1 ["node"] phParts) : ∀ d : Nat, Cal P w K mg base "_law_needed" (d + 2) ["nodes", "at", "order"] (phNeed d)
  | 0 => by
    refine D.cal sc_law_needed (fun as μ P h => ?_) fun f cdv A outer s H E hr as μ Pd h => ?_
    · obtain ⟨_, _, _, rfl, _⟩ := h; rfl
    obtain ⟨_, _, _, _, ⟨_, _, z, _⟩, _⟩ := h
    omega
  | d + 1 => by
    have ih := c_need D cp d
    refine D.cal sc_law_needed (fun as μ P h => ?_) fun f cdv A outer s H E hr as μ Pd h => ?_
    · obtain ⟨_, _, _, rfl, _⟩ := h; rfl
    obtain ⟨N, t, o, rfl, ⟨hA, ht, hd, ho, hN⟩, q⟩ := h
    have hA2 : ∀ t, ∀ a ∈ argA N t, a < t := argsG hA
    rw [dfsO_eq hA2] at q
    refine db_cons (ds_if <| dt_inL (α := Int) <| de_var (i := 1) rfl <| de_ofS <| de_var (i := 2) rfl ?_)
    show (decide ((t : Int) ∈ nI o) = true → _) ∧ (decide ((t : Int) ∈ nI o) = false → _)
    rw [nI_mem]
    refine ⟨fun h => ?_, fun h => db_nil ?_⟩
    · rw [if_pos (of_decide_eq_true h)] at q
      exact db_one (ds_ret <| de_var (i := 2) rfl q)
    rw [if_neg (of_decide_eq_false h)] at q
    have fold := InO.fold (m := N.length) hA2 (fun t ht o ho => InO.dfs hA2 t ht o ho)
    refine db_cons (ds_forL (α := Int) PassesOwn.never rfl (pg_name (i := 3) sc_law_needed.nd rfl (Or.inl rfl)) (fun (x : Int) δ => δ.set 3 (sl x)) (fun x δ' => wg_name)
      (de_c1 cp hr (by omega) <| da_cons <| de_ixL (α := Nd) <| de_var (i := 0) rfl <| de_var (i := 1) rfl ⟨_, atI_nat (ndG_get ht), da_nil ⟨[], _, parts_none, ndG N t, rfl, fun k δ' μ' => ∃ s3, δ' = [sl N, sl (t : Int), sl (Stl.mk (nI (((argA N t).take k).foldl (dfsO (argA N)) o))), s3] ∧ μ' = μ, ⟨_, rfl, rfl⟩, fun k y δ' μ' hy hI => ?_, fun δ' μ' hI => ?_⟩⟩))
    · obtain ⟨s3, rfl, rfl⟩ := hI
      obtain ⟨a, ha, rfl⟩ := nI_get hy
      have hat := hA2 t a (List.mem_of_getElem? ha)
      refine db_one (ds_set (i := 2) sc_law_needed.nd <| de_c1 ih hr (Nat.le_refl _) <| da_cons <| de_var (i := 0) rfl <| da_cons <| de_var (i := 3) rfl <| da_cons <| de_var (i := 2) rfl <| da_nil ⟨[], _, parts_none, N, a, _, rfl, ⟨hA, by omega, by omega, fold _ _ (fun b hb => ?_) ho, hN⟩, ?_⟩)
      · have := hA2 t b (List.mem_of_mem_take hb); omega
      · rw [← fold_take (A := argA N) (l := argA N t) ha]
        exact ⟨_, rfl, rfl⟩
    · obtain ⟨s3, rfl, rfl⟩ := hI
      have e : (nI (argsT (ndG N t))).length = (argA N t).length := nI_len
      rw [e, List.take_length]
      have hl := (fold (argA N t) o (fun b hb => by have := hA2 t b hb; omega) ho).len
      refine db_one (ds_ret <| de_catS <| de_var (i := 2) rfl <| de_lstS (α := Int) <| da_cons <| de_var (i := 1) rfl <| da_nil ⟨[(t : Int)], rfl, by simp, ?_, ?_⟩)
      · show (nI _).length + 1 ≤ 10000
        rw [nI_len]; omega
      · rw [nI_snoc] at q; exact q
def phCanon : Pm (Stl Int) := fun as μ Q => ∃ (N : List Nd) (c : Nat) (rs : List Nat), as = [sl N, sl (c : Int), sl (Stl.mk (nI rs))] ∧ (ArgsLt N ∧ c ≤ N.length ∧ (∀ r ∈ rs, r < N.length) ∧ N.length ≤ 40) ∧ Q ⟨nI (rs.foldl (dfsO (argA N)) (List.range c))⟩ μ
theorem c_canon (D : Dfn K mg "_law_canonical" s_law_canonical ["nodes", "count", "roots"]) (T : Txt mg) (cn : Cal P w K mg base "_law_needed" 42 ["nodes", "at", "order"] (phNeed 40)) : Cal P w K mg base "_law_canonical" 43 ["nodes", "count", "roots"] phCanon := by
  refine D.cal sc_law_canonical (fun as μ P h => ?_) fun f cdv A outer s H E hr as μ Pd h => ?_
  · obtain ⟨_, _, _, rfl, _⟩ := h; rfl
  obtain ⟨N, c, rs, rfl, ⟨hA, hc, hrs, hN⟩, q⟩ := h
  have hA2 : ∀ t, ∀ a ∈ argA N t, a < t := argsG hA
  have fold := InO.fold (m := N.length) hA2 (fun t ht o ho => InO.dfs hA2 t ht o ho)
  have h0 : InO N.length (List.range c) := ⟨List.nodup_range, fun x hx => Nat.lt_of_lt_of_le (List.mem_range.mp hx) hc⟩
  refine db_cons (ds_lcRN (own := [("k", 3)]) (i0 := 3) (i := 4) (β := Int) rfl sc_law_canonical.nd (blkOk_by (N := ["nodes", "count", "roots", "k", "order", "at"]) (sc := defScope s_law_canonical) (by decide +kernel)) (by decide) (fun _ _ _ _ _ => pg_name (i := 3) sc_law_canonical.nd rfl (Or.inl rfl)) (by decide) T.range
    (de_var (i := 1) rfl ⟨⟨by omega, by omega⟩, fun k ys μ' => μ' = μ ∧ ys = nI (List.range k), ⟨rfl, rfl⟩, fun k ys μ' hk hJ => ?_, fun ys μ' hJ la => ?_⟩) (sw_true rfl rfl rfl (by decide +kernel)))
  · obtain ⟨rfl, rfl⟩ := hJ
    intro s' H' C' cl' fp
    exact de_var (i := 3) rfl ⟨by rw [nI_len, List.length_range]; omega, rfl, by rw [List.range_succ, nI_snoc]⟩
  obtain ⟨rfl, rfl⟩ := hJ
  rw [Int.toNat_natCast]
  refine db_frzS μ'.length 4 (l := la) (xs := nI (List.range c)) (by simp) rfl ?_
  rw [List.eraseIdx_append_of_length_le (Nat.le_refl _), Nat.sub_self]
  refine db_cons (ds_forL (α := Int) PassesOwn.never rfl (pg_name (i := 5) sc_law_canonical.nd rfl (Or.inl rfl)) (fun (x : Int) δ => δ.set 5 (sl x)) (fun x δ' => wg_name)
    (de_ofS <| de_var (i := 2) rfl ⟨fun k δ' μ1 => ∃ s5, δ' = [sl N, sl (c : Int), sl (Stl.mk (nI rs)), .any, sl (Stl.mk (nI ((rs.take k).foldl (dfsO (argA N)) (List.range c)))), s5] ∧ μ1 = μ' ++ [], ⟨_, rfl, rfl⟩, fun k y δ' μ1 hy hI => ?_, fun δ' μ1 hI => ?_⟩))
  · obtain ⟨s5, rfl, rfl⟩ := hI
    obtain ⟨a, ha, rfl⟩ := nI_get hy
    refine db_one (ds_set (i := 4) sc_law_canonical.nd <| de_c1 cn hr (by decide) <| da_cons <| de_var (i := 0) rfl <| da_cons <| de_var (i := 5) rfl <| da_cons <| de_var (i := 4) rfl <| da_nil ⟨[], _, parts_none, N, a, _, rfl, ⟨hA, hrs a (List.mem_of_getElem? ha), by have := hrs a (List.mem_of_getElem? ha); omega, fold _ _ (fun b hb => hrs b (List.mem_of_mem_take hb)) h0, by omega⟩, ?_⟩)
    rw [← fold_take (A := argA N) (l := rs) ha]
    exact ⟨_, rfl, rfl⟩
  · obtain ⟨s5, rfl, rfl⟩ := hI
    rw [show (Stl.mk (nI rs)).l.length = rs.length from nI_len, List.take_length]
    rw [List.append_nil]
    exact db_one (ds_ret <| de_var (i := 4) rfl q)
end
end K17
namespace K17
open PySem PySem.Spec PyProof.Rows L2 Dl
section
variable {P : Program} {w : World} {K : PySem.W.Frag} {mg : Str → Option Value} {base : Heap} {C : Addr}
/-! ### the law's own worths, spans over the corners -/
structure Wt40 (n : Nat) (N : List Nd) : Prop where
  once : OnceN n N
  w40 : ∀ t, t < N.length → ev wgS N t ≤ 40
  len : N.length ≤ 100
def PtN (n : Nat) (p : Nat → Rat) : Prop := ∀ k, k < n → Nm 53 (can (p k))
theorem Wt40.nm {n : Nat} {N : List Nd} {p : Nat → Rat} (h : Wt40 n N) (hp : PtN n p) {t : Nat} (ht : t < N.length) : Nm 2160 (can (ev (wtS p) N t)) := (h.once.sizeW hp ht).mono (by have := h.w40 t ht; omega)
theorem cl_atI {m k : Nat} {f : Nat → Rat} (h : k < m) : atI (cl m f) (k : Int) = some (can (f k)) := atI_nat (cl_at h)
def phWorths : Pm Ref := fun as μ Q => ∃ (n : Nat) (N : List Nd) (p : Nat → Rat), as = [sl N, sl (Tup.mk (cl n p))] ∧ μ = [] ∧ (Wt40 n N ∧ PtN n p) ∧ ∀ l, Q ⟨l⟩ [lst l (cl N.length (ev (wtS p) N))]
theorem c_worths (D : Dfn K mg "_law_worths" s_law_worths ["nodes", "point"]) (cp : cPlus P w K mg base) (cm : cMinus P w K mg base) (ct : cTimes P w K mg base) (co : Cal P w K mg base "_law_over" 2 ["one", "two"] phOver) : Cal P w K mg base "_law_worths" 3 ["nodes", "point"] phWorths := by
  refine D.cal sc_law_worths (fun as μ P h => ?_) fun f cdv A outer s H E hr as μ Pd h => ?_
  · obtain ⟨_, _, _, rfl, _⟩ := h; rfl
  obtain ⟨n, N, p, rfl, rfl, ⟨hW, hp⟩, q⟩ := h
  have hA := hW.once.args
  have hl := hW.len
  refine db_cons (ds_set (i := 2) sc_law_worths.nd <| de_lstN (α := Q2) <| da_nil ⟨[], rfl, by decide, fun la => ?_⟩)
  refine db_cons (ds_forL (α := Nd) PassesOwn.never rfl (pg_name (i := 3) sc_law_worths.nd rfl (Or.inl rfl)) (fun (x : Nd) δ => δ.set 3 (sl x)) (fun x δ' => wg_name)
    (de_var (i := 0) rfl ⟨fun k δ' μ' => ∃ s3, δ' = [sl N, sl (Tup.mk (cl n p)), sl (Ref.mk la), s3] ∧ μ' = [lst la (cl k (ev (wtS p) N))], ⟨_, rfl, rfl⟩, fun k x δ' μ' hx hI => ?_, fun δ' μ' hI => ?_⟩))
  · obtain ⟨s3, rfl, rfl⟩ := hI
    have hk := (List.getElem?_eq_some_iff.mp hx).1
    have hG := ndG_some hx
    have g := hW.once.good k x hx
    have e : ev (wtS p) N k = (wtS p).f x (ev (wtS p) N) := by rw [ev_eq hA k, hG]
    have fin : ∀ y : Rat, y = (wtS p).f x (ev (wtS p) N) → (cl k (ev (wtS p) N)).length < 10000 ∧ ∃ s3, [sl N, sl (Tup.mk (cl n p)), sl (Ref.mk la), sl x] = [sl N, sl (Tup.mk (cl n p)), sl (Ref.mk la), s3] ∧ [lst la (cl k (ev (wtS p) N) ++ [can y])] = [lst la (cl (k + 1) (ev (wtS p) N))] := fun y hy => by
      rw [hy, ← e, cl_snoc, cl_len]
      exact ⟨by omega, _, rfl, rfl⟩
    cases x with
    | letter i =>
      refine db_one (ds_if <| dt_eqS (un_of hr) <| de_nd0 <| de_var (i := 3) rfl <| de_str ⟨⟨Nd.kind_ok _, ok_num⟩, ⟨fun h => (by rw [kind_num] at h; cases h), fun _ => db_one (ds_if <| dt_eqS (un_of hr) <| de_nd0 <| de_var (i := 3) rfl <| de_str ⟨⟨Nd.kind_ok _, ok_letter⟩, ⟨fun _ => ?_, fun h => (by rw [kind_letter] at h; cases h)⟩⟩)⟩⟩)
      obtain ⟨f1, f2⟩ := fin (p i) rfl
      exact db_one (ds_expr (de_append (α := Q2) 0 <| de_var (i := 2) rfl ⟨⟨_, rfl⟩, de_ixT (α := Q2) <| de_var (i := 1) rfl <| de_nd1 <| de_var (i := 3) rfl ⟨rfl, _, cl_atI g.1, _, rfl, f1, f2⟩⟩))
    | num v =>
      refine db_one (ds_if <| dt_eqS (un_of hr) <| de_nd0 <| de_var (i := 3) rfl <| de_str ⟨⟨Nd.kind_ok _, ok_num⟩, ⟨fun _ => ?_, fun h => (by rw [kind_num] at h; cases h)⟩⟩)
      obtain ⟨f1, f2⟩ := fin (qv v) rfl
      rw [← (show v = can (qv v) from g.1)] at f2
      exact db_one (ds_expr (de_append (α := Q2) 0 <| de_var (i := 2) rfl ⟨⟨_, rfl⟩, de_nd1Q <| de_var (i := 3) rfl ⟨rfl, _, rfl, f1, f2⟩⟩))
    | abs i => exact g.elim
    | pow i m => exact g.elim
    | op o i j =>
      obtain ⟨hi, hj, hd, ho⟩ := g
      have zi := hW.nm hp (Nat.lt_trans hi hk)
      have zj := hW.nm hp (Nat.lt_trans hj hk)
      have ai := cl_atI (f := ev (wtS p) N) hi
      have aj := cl_atI (f := ev (wtS p) N) hj
      refine db_one (ds_if <| dt_eqS (un_of hr) <| de_nd0 <| de_var (i := 3) rfl <| de_str ⟨⟨Nd.kind_ok _, ok_num⟩, ?_⟩)
      rw [kind_num]
      refine ⟨fun h => (nomatch h), fun _ => db_one (ds_if <| dt_eqS (un_of hr) <| de_nd0 <| de_var (i := 3) rfl <| de_str ⟨⟨Nd.kind_ok _, ok_letter⟩, ?_⟩)⟩
      rw [kind_letter]
      refine ⟨fun h => (nomatch h), fun _ => db_one (ds_if <| dt_eqS (un_of hr) <| de_nd0 <| de_var (i := 3) rfl <| de_str ⟨⟨Nd.kind_ok _, ok_add⟩, ?_⟩)⟩
      rw [show Nd.kind (.op o i j) = o.s from rfl, op_add_eq]
      refine ⟨fun h => ?_, fun h1 => db_one (ds_if <| dt_eqS (un_of hr) <| de_nd0 <| de_var (i := 3) rfl <| de_str ⟨⟨Nd.kind_ok _, ok_sub⟩, ?_⟩)⟩
      · cases of_decide_eq_true h
        obtain ⟨f1, f2⟩ := fin (ev (wtS p) N i + ev (wtS p) N j) rfl
        exact db_one (ds_expr (de_append (α := Q2) 0 <| de_var (i := 2) rfl ⟨⟨_, rfl⟩, de_c1 cp hr (by decide) <| da_cons <| de_ixC (α := Q2) 0 <| de_var (i := 2) rfl <| de_nd1 <| de_var (i := 3) rfl ⟨rfl, _, rfl, _, ai, da_cons <| de_ixC (α := Q2) 0 <| de_var (i := 2) rfl <| de_nd2 <| de_var (i := 3) rfl ⟨rfl, _, rfl, _, aj, da_nil ⟨[], _, parts_none, _, _, _, _, rfl, qv_can _, qv_can _, ok2_of zi zj (by omega), _, rfl, f1, f2⟩⟩⟩⟩))
      rw [show Nd.kind (.op o i j) = o.s from rfl, op_sub_eq]
      refine ⟨fun h => ?_, fun h2 => db_one (ds_if <| dt_eqS (un_of hr) <| de_nd0 <| de_var (i := 3) rfl <| de_str ⟨⟨Nd.kind_ok _, ok_mul⟩, ?_⟩)⟩
      · cases of_decide_eq_true h
        obtain ⟨f1, f2⟩ := fin (ev (wtS p) N i - ev (wtS p) N j) rfl
        exact db_one (ds_expr (de_append (α := Q2) 0 <| de_var (i := 2) rfl ⟨⟨_, rfl⟩, de_c1 cm hr (by decide) <| da_cons <| de_ixC (α := Q2) 0 <| de_var (i := 2) rfl <| de_nd1 <| de_var (i := 3) rfl ⟨rfl, _, rfl, _, ai, da_cons <| de_ixC (α := Q2) 0 <| de_var (i := 2) rfl <| de_nd2 <| de_var (i := 3) rfl ⟨rfl, _, rfl, _, aj, da_nil ⟨[], _, parts_none, _, _, _, _, rfl, qv_can _, qv_can _, ok2_of zi zj (by omega), _, rfl, f1, f2⟩⟩⟩⟩))
      rw [show Nd.kind (.op o i j) = o.s from rfl, op_mul_eq]
      refine ⟨fun h => ?_, fun h3 => ?_⟩
      · cases of_decide_eq_true h
        obtain ⟨f1, f2⟩ := fin (ev (wtS p) N i * ev (wtS p) N j) rfl
        exact db_one (ds_expr (de_append (α := Q2) 0 <| de_var (i := 2) rfl ⟨⟨_, rfl⟩, de_c1 ct hr (by decide) <| da_cons <| de_ixC (α := Q2) 0 <| de_var (i := 2) rfl <| de_nd1 <| de_var (i := 3) rfl ⟨rfl, _, rfl, _, ai, da_cons <| de_ixC (α := Q2) 0 <| de_var (i := 2) rfl <| de_nd2 <| de_var (i := 3) rfl ⟨rfl, _, rfl, _, aj, da_nil ⟨[], _, parts_none, _, _, _, _, rfl, qv_can _, qv_can _, ok2_of zi zj (by omega), _, rfl, f1, f2⟩⟩⟩⟩))
      rcases ho with rfl | rfl | rfl | ⟨rfl, v, hv, hz⟩
      · exact absurd h1 (by decide)
      · exact absurd h2 (by decide)
      · exact absurd h3 (by decide)
      · have hz' : ev (wtS p) N j ≠ 0 := by rw [ev_eq hA j, ndG_some hv]; exact hz
        obtain ⟨f1, f2⟩ := fin (ev (wtS p) N i / ev (wtS p) N j) rfl
        exact db_one (ds_expr (de_append (α := Q2) 0 <| de_var (i := 2) rfl ⟨⟨_, rfl⟩, de_c1 co hr (by decide) <| da_cons <| de_ixC (α := Q2) 0 <| de_var (i := 2) rfl <| de_nd1 <| de_var (i := 3) rfl ⟨rfl, _, rfl, _, ai, da_cons <| de_ixC (α := Q2) 0 <| de_var (i := 2) rfl <| de_nd2 <| de_var (i := 3) rfl ⟨rfl, _, rfl, _, aj, da_nil ⟨[], _, parts_none, _, _, _, _, rfl, ⟨hz', zi, zj, by omega⟩, _, rfl, f1, f2⟩⟩⟩⟩))
  · obtain ⟨s3, rfl, rfl⟩ := hI
    exact db_one (ds_ret <| de_var (i := 2) rfl (q la))
end
end K17
namespace K17
open PySem PySem.Spec PyProof.Rows L2 Dl
/-! ### the corners of a box -/
def cnsL (l u : Nat → Rat) : Nat → List (Nat → Rat)
  | 0 => [fun _ => 0]
  | k + 1 => (cnsL l u k).map (upd1 k (l k)) ++ (cnsL l u k).map (upd1 k (u k))
section
variable {l u : Nat → Rat} {n : Nat} {N : List Nd}
theorem cns_len : ∀ k, (cnsL l u k).length = 2 ^ k
  | 0 => rfl
  | k + 1 => by
    show ((cnsL l u k).map _ ++ (cnsL l u k).map _).length = _
    rw [List.length_append, List.length_map, List.length_map, cns_len k, Nat.pow_succ]; omega
theorem cns_mem : ∀ {k : Nat} {p : Nat → Rat}, p ∈ cnsL l u k → ∀ j, j < k → p j = l j ∨ p j = u j
  | 0, _, _, j, hj => absurd hj (Nat.not_lt_zero _)
  | k + 1, p, hp, j, hj => by
    rcases List.mem_append.mp (show p ∈ (cnsL l u k).map (upd1 k (l k)) ++ (cnsL l u k).map (upd1 k (u k)) from hp) with h | h
    · obtain ⟨p', hp', rfl⟩ := List.mem_map.mp h
      by_cases e : j = k
      · subst e; exact .inl upd1_eq
      · rw [upd1_lt (by omega)]; exact cns_mem hp' j (by omega)
    · obtain ⟨p', hp', rfl⟩ := List.mem_map.mp h
      by_cases e : j = k
      · subst e; exact .inr upd1_eq
      · rw [upd1_lt (by omega)]; exact cns_mem hp' j (by omega)
theorem cns_all {x : Nat → Rat} (hx : Cor l u x) : ∀ k : Nat, ∃ p, p ∈ cnsL l u k ∧ ∀ j, j < k → p j = x j
  | 0 => ⟨_, List.mem_singleton.mpr rfl, fun j hj => absurd hj (Nat.not_lt_zero _)⟩
  | k + 1 => by
    obtain ⟨p, hp, he⟩ := cns_all hx k
    rcases hx k with e | e
    · refine ⟨upd1 k (l k) p, List.mem_append_left _ (List.mem_map.mpr ⟨p, hp, rfl⟩), fun j hj => ?_⟩
      by_cases c : j = k
      · subst c; rw [upd1_eq, e]
      · rw [upd1_lt (by omega)]; exact he j (by omega)
    · refine ⟨upd1 k (u k) p, List.mem_append_right _ (List.mem_map.mpr ⟨p, hp, rfl⟩), fun j hj => ?_⟩
      by_cases c : j = k
      · subst c; rw [upd1_eq, e]
      · rw [upd1_lt (by omega)]; exact he j (by omega)
/-- the tuples of the corners -/
def cnT (l u : Nat → Rat) (k : Nat) : List (Tup Q2) := (cnsL l u k).map fun p => ⟨cl k p⟩
theorem cnT_len {k : Nat} : (cnT l u k).length = 2 ^ k := by unfold cnT; rw [List.length_map, cns_len]
theorem cl_upd {k : Nat} {p : Nat → Rat} {y : Rat} : cl (k + 1) (upd1 k y p) = cl k p ++ [can y] := by
  rw [cl_snoc, upd1_eq]
  congr 1
  exact cl_congr fun j hj => upd1_lt hj
theorem cnT_succ {k : Nat} : cnT l u (k + 1) = ((cnT l u k).map fun r => ⟨r.l ++ [can (l k)]⟩) ++ (cnT l u k).map fun r => ⟨r.l ++ [can (u k)]⟩ := by
  unfold cnT
  show ((cnsL l u k).map (upd1 k (l k)) ++ (cnsL l u k).map (upd1 k (u k))).map _ = _
  rw [List.map_append, List.map_map, List.map_map, List.map_map, List.map_map]
  congr 1
  · exact List.map_congr_left fun p _ => congrArg Tup.mk cl_upd
  · exact List.map_congr_left fun p _ => congrArg Tup.mk cl_upd
theorem OnceN.inside (h : OnceN n N) (hlu : ∀ k, k < n → l k ≤ u k) {t : Nat} (ht : t < N.length) {p : Nat → Rat} (hp : p ∈ cnsL l u n) : (ev (rgS fun k => (l k, u k)) N t).1 ≤ ev (wtS p) N t ∧ ev (wtS p) N t ≤ (ev (rgS fun k => (l k, u k)) N t).2 := by
  refine (h.span hlu t ht).bd _ ⟨fun k => if k < n then p k else l k, fun k => ?_, ?_⟩
  · show (if k < n then p k else l k) = l k ∨ (if k < n then p k else l k) = u k
    split
    · exact cns_mem hp k (by assumption)
    · exact .inl rfl
  · exact wt_loc h.args t fun k hk => (if_pos (h.ls_lt t ht k hk)).symm
theorem OnceN.meet (h : OnceN n N) {t : Nat} (ht : t < N.length) {v : Rat} (hv : VC N l u t v) : ∃ p, p ∈ cnsL l u n ∧ v = ev (wtS p) N t := by
  obtain ⟨x, hx, rfl⟩ := hv
  obtain ⟨p, hp, he⟩ := cns_all hx n
  exact ⟨p, hp, wt_loc h.args t fun k hk => (he k (h.ls_lt t ht k hk)).symm⟩
end
/-- the least and the greatest so far -/
structure LoHi (W : (Nat → Rat) → Rat) (done all : List (Nat → Rat)) (lo hi : Rat) : Prop where
  bd : ∀ p ∈ done, lo ≤ W p ∧ W p ≤ hi
  lo : ∃ p ∈ all, lo = W p
  hi : ∃ p ∈ all, hi = W p
theorem LoHi.step {W : (Nat → Rat) → Rat} {done all : List (Nat → Rat)} {lo hi : Rat} {p : Nat → Rat} (h : LoHi W done all lo hi) (hp : p ∈ all) : LoHi W (done ++ [p]) all (if W p < lo then W p else lo) (if hi < W p then W p else hi) := by
  refine ⟨fun q hq => ?_, ?_, ?_⟩
  · rcases List.mem_append.mp hq with z | z
    · obtain ⟨a, b⟩ := h.bd q z
      constructor
      · split
        · exact Rat.le_trans (Rat.le_of_lt (by assumption)) a
        · exact a
      · split
        · exact Rat.le_trans b (Rat.le_of_lt (by assumption))
        · exact b
    · rw [List.mem_singleton.mp z]
      constructor
      · split
        · exact Rat.le_refl
        · exact Rat.not_lt.mp (by assumption)
      · split
        · exact Rat.le_refl
        · exact Rat.not_lt.mp (by assumption)
  · split
    · exact ⟨p, hp, rfl⟩
    · exact h.lo
  · split
    · exact ⟨p, hp, rfl⟩
    · exact h.hi
section
variable {P : Program} {w : World} {K : PySem.W.Frag} {mg : Str → Option Value} {base : Heap} {C : Addr}
def phSpans : Pm (List St2) := fun as μ Q => ∃ (n : Nat) (N : List Nd) (wk : Nat → Bool) (l u : Nat → Rat), as = [sl N, sl (Tup.mk (stOf n l u))] ∧ μ = [] ∧ (Wt40 n N ∧ BX 53 n wk l u ∧ n ≤ 6) ∧ Q ((evL (rgS fun k => (l k, u k)) N).map canS) []
theorem c_spans (D : Dfn K mg "_law_corner_spans" s_law_corner_spans ["nodes", "box"]) (T : Txt mg) (cll : cLless P w K mg base) (cw : Cal P w K mg base "_law_worths" 3 ["nodes", "point"] phWorths) : Cal P w K mg base "_law_corner_spans" 4 ["nodes", "box"] phSpans := by
  refine D.cal sc_law_corner_spans (fun as μ P h => ?_) fun f cdv A outer s H E hr as μ Pd h => ?_
  · obtain ⟨_, _, _, _, _, rfl, _⟩ := h; rfl
  obtain ⟨n, N, wk, l, u, rfl, rfl, ⟨hW, hb, n6⟩, q⟩ := h
  have hp64 : ∀ k, k ≤ 6 → 2 ^ k ≤ 64 := fun k hk => Nat.le_trans (Nat.pow_le_pow_right (by decide) hk) (by decide)
  have hN := hW.len
  refine db_cons (ds_set (i := 2) sc_law_corner_spans.nd <| de_lstS (α := Tup Q2) <| da_cons <| de_tupN (α := Q2) <| da_nil ⟨[], rfl, by decide, da_nil ⟨[⟨[]⟩], rfl, by simp, ?_⟩⟩)
  refine db_cons (DS.mid (fun δ' μ' => ∃ s3 s4 s5, δ' = [sl N, sl (Tup.mk (stOf n l u)), sl (Stl.mk (cnT l u n)), s3, s4, s5, .any, .any, .any, .any, .any] ∧ μ' = []) ?_ ?_)
  · refine ds_forT (α := St2) PassesOwn.never rfl (pg_pair (i := 3) (j := 4) rfl sc_law_corner_spans.nd) (fun x δ => (δ.set 3 (sl x.1)).set 4 (sl x.2)) (fun x δ => wg_pair) (de_var (i := 1) rfl ⟨fun k δ' μ' => ∃ s3 s4 s5, δ' = [sl N, sl (Tup.mk (stOf n l u)), sl (Stl.mk (cnT l u k)), s3, s4, s5, .any, .any, .any, .any, .any] ∧ μ' = [], ⟨_, _, _, rfl, rfl⟩, fun k x δ' μ' hx hI => ?_, fun δ' μ' hI => ?_⟩)
    · obtain ⟨s3, s4, s5, rfl, rfl⟩ := hI
      obtain ⟨hk, rfl⟩ := range_map_get (show (stOf n l u)[k]? = some x from hx)
      have c64 := hp64 k (by omega)
      refine db_one (ds_set (i := 2) sc_law_corner_spans.nd <| de_catS (α := Tup Q2) <| de_frzS (α := Tup Q2) <| de_lcLN (own := [("row", 5)]) (α := Tup Q2) (β := Tup Q2) rfl sc_law_corner_spans.nd (blkOk_by (N := ["nodes", "box", "corners", "low", "high", "row", "lows", "highs", "corner", "found", "t"]) (sc := defScope s_law_corner_spans) (by decide +kernel)) (fun (x : Tup Q2) δ => δ.set 5 (sl x)) (fun _ _ _ _ _ => pg_name (i := 5) sc_law_corner_spans.nd rfl (Or.inl rfl)) (fun x => wb_name) (by decide)
        (de_ofS <| de_var (i := 2) rfl ⟨fun i ys μ' => μ' = [] ∧ ys = ((cnT l u k).take i).map fun r => (⟨r.l ++ [can (l k)]⟩ : Tup Q2), ⟨rfl, rfl⟩, fun i r ys μ' hr1 hJ => ?_, fun ys μ' hJ la => ?_⟩))
      · obtain ⟨rfl, rfl⟩ := hJ
        have hr1 : (cnT l u k)[i]? = some r := hr1
        have hrl : r.l.length = k := by
          have := List.mem_of_getElem? hr1
          unfold cnT at this
          obtain ⟨p, _, rfl⟩ := List.mem_map.mp this
          exact cl_len
        intro s' H' C' cl' fp
        refine de_catTup <| de_var (i := 5) rfl <| de_tup1 <| de_var (i := 3) rfl ⟨by show r.l.length + 1 ≤ 10000; omega, ?_, rfl, (take_snoc hr1).symm⟩
        rw [List.length_map, List.length_take, cnT_len]; omega
      obtain ⟨rfl, rfl⟩ := hJ
      refine ⟨[], _, rfl, de_frzS (α := Tup Q2) <| de_lcLN (own := [("row", 5)]) (α := Tup Q2) (β := Tup Q2) rfl sc_law_corner_spans.nd (blkOk_by (N := ["nodes", "box", "corners", "low", "high", "row", "lows", "highs", "corner", "found", "t"]) (sc := defScope s_law_corner_spans) (by decide +kernel)) (fun (x : Tup Q2) δ => δ.set 5 (sl x)) (fun _ _ _ _ _ => pg_name (i := 5) sc_law_corner_spans.nd rfl (Or.inl rfl)) (fun x => wb_name) (by decide)
        (de_ofS <| de_var (i := 2) rfl ⟨fun i ys μ' => μ' = [] ∧ ys = ((cnT l u k).take i).map fun r => (⟨r.l ++ [can (u k)]⟩ : Tup Q2), ⟨rfl, rfl⟩, fun i r ys μ' hr1 hJ => ?_, fun ys μ' hJ lb => ?_⟩)⟩
      · obtain ⟨rfl, rfl⟩ := hJ
        have hr1 : (cnT l u k)[i]? = some r := hr1
        have hrl : r.l.length = k := by
          have := List.mem_of_getElem? hr1
          unfold cnT at this
          obtain ⟨p, _, rfl⟩ := List.mem_map.mp this
          exact cl_len
        intro s' H' C' cl' fp
        refine de_catTup <| de_var (i := 5) rfl <| de_tup1 <| de_var (i := 4) rfl ⟨by show r.l.length + 1 ≤ 10000; omega, ?_, rfl, (take_snoc hr1).symm⟩
        rw [List.length_map, List.length_take, cnT_len]; omega
      obtain ⟨rfl, rfl⟩ := hJ
      refine ⟨[], _, rfl, ?_, ?_⟩
      · show (List.map _ _).length + (List.map _ _).length ≤ 10000
        rw [List.length_map, List.length_map, List.length_take, cnT_len]; omega
      · dsimp only
        rw [List.take_length, ← cnT_succ]
        exact ⟨_, _, _, rfl, rfl⟩
    · obtain ⟨s3, s4, s5, rfl, rfl⟩ := hI
      rw [show (Tup.mk (stOf n l u)).l.length = n from st_len]
      exact ⟨_, _, _, rfl, rfl⟩
  rintro δ' μ' ⟨s3, s4, s5, rfl, rfl⟩
  obtain ⟨cs, ecs⟩ : ∃ cs, cs = cnsL l u n := ⟨_, rfl⟩
  have pt : ∀ p ∈ cs, PtN n p := fun p hp k hk => by
    rw [ecs] at hp
    rcases cns_mem hp k hk with e | e <;> rw [e]
    · exact (hb.nm k hk).1
    · exact (hb.nm k hk).2
  have clen : cs.length = 2 ^ n := by rw [ecs]; exact cns_len n
  have cpos : 0 < cs.length := by rw [clen]; exact Nat.pow_pos (by decide)
  obtain ⟨p0, h0⟩ : ∃ p0, cs[0]? = some p0 := ⟨_, List.getElem?_eq_getElem cpos⟩
  have hp0 := List.mem_of_getElem? h0
  have eT : ∀ i p, cs[i]? = some p → (cnT l u n)[i]? = some (Tup.mk (cl n p)) := fun i p hp => by unfold cnT; rw [← ecs, List.getElem?_map, hp]; rfl
  refine db_cons (ds_set (i := 6) sc_law_corner_spans.nd <| de_c1 cw hr (by decide) <| da_cons <| de_var (i := 0) rfl <| da_cons <| de_ixL (α := Tup Q2) <| de_ofS <| de_var (i := 2) rfl <| de_int ⟨_, atI_nat (j := 0) (eT 0 p0 h0), da_nil ⟨[], _, parts_none, n, N, p0, rfl, rfl, ⟨hW, pt p0 hp0⟩, fun la => ?_⟩⟩)
  refine db_cons (ds_set (i := 7) sc_law_corner_spans.nd <| de_listC (α := Q2) 0 T.list <| de_var (i := 6) rfl ⟨_, rfl, fun ha => ?_⟩)
  refine db_cons (DS.mid (fun δ' μ' => ∃ s8 s9 s10 lo hi, δ' = [sl N, sl (Tup.mk (stOf n l u)), sl (Stl.mk (cnT l u n)), s3, s4, s5, sl (Ref.mk la), sl (Ref.mk ha), s8, s9, s10] ∧ μ' = [lst la (cl N.length lo), lst ha (cl N.length hi)] ∧ ∀ t, t < N.length → LoHi (fun p => ev (wtS p) N t) cs cs (lo t) (hi t)) ?_ ?_)
  · refine ds_forL (α := Tup Q2) PassesOwn.never rfl (pg_name (i := 8) sc_law_corner_spans.nd rfl (Or.inl rfl)) (fun (x : Tup Q2) δ => δ.set 8 (sl x)) (fun x δ' => wg_name)
      (de_ofS <| de_var (i := 2) rfl ⟨fun i δ' μ' => ∃ s8 s9 s10 lo hi, δ' = [sl N, sl (Tup.mk (stOf n l u)), sl (Stl.mk (cnT l u n)), s3, s4, s5, sl (Ref.mk la), sl (Ref.mk ha), s8, s9, s10] ∧ μ' = [lst la (cl N.length lo), lst ha (cl N.length hi)] ∧ ∀ t, t < N.length → LoHi (fun p => ev (wtS p) N t) (cs.take i) cs (lo t) (hi t),
        ⟨_, _, _, ev (wtS p0) N, ev (wtS p0) N, rfl, rfl, fun t ht => ⟨fun p hp => absurd hp List.not_mem_nil, ⟨p0, hp0, rfl⟩, ⟨p0, hp0, rfl⟩⟩⟩, fun i x δ' μ' hx hI => ?_, fun δ' μ' hI => ?_⟩)
    · obtain ⟨s8, s9, s10, lo, hi, rfl, rfl, hLH⟩ := hI
      have hx : (cnT l u n)[i]? = some x := hx
      have hi' : i < cs.length := by
        have := (List.getElem?_eq_some_iff.mp hx).1
        rw [cnT_len] at this
        rw [clen]; exact this
      obtain ⟨p, hp⟩ : ∃ p, cs[i]? = some p := ⟨_, List.getElem?_eq_getElem hi'⟩
      have hx2 := eT i p hp
      rw [hx] at hx2
      cases hx2
      have hpm := List.mem_of_getElem? hp
      refine db_cons (ds_set (i := 9) sc_law_corner_spans.nd <| de_c1 cw hr (by decide) <| da_cons <| de_var (i := 0) rfl <| da_cons <| de_var (i := 8) rfl <| da_nil ⟨[], _, parts_none, n, N, p, rfl, rfl, ⟨hW, pt p hpm⟩, fun lf => ?_⟩)
      refine db_cons (ds_range1 (i := 10) PassesOwn.never rfl sc_law_corner_spans.nd T.range (de_lenC (α := Q2) 0 T.len <| de_var (i := 9) rfl ⟨_, rfl, ?_⟩))
      rw [cl_len]
      refine ⟨by omega, by omega, fun t δ' μ' => ∃ s10 lo hi, δ' = [sl N, sl (Tup.mk (stOf n l u)), sl (Stl.mk (cnT l u n)), s3, s4, s5, sl (Ref.mk la), sl (Ref.mk ha), sl (Tup.mk (cl n p)), sl (Ref.mk lf), s10] ∧ μ' = [lst lf (cl N.length (ev (wtS p) N)), lst la (cl N.length lo), lst ha (cl N.length hi)] ∧ (∀ s, s < t → s < N.length → LoHi (fun p => ev (wtS p) N s) (cs.take i ++ [p]) cs (lo s) (hi s)) ∧ ∀ s, t ≤ s → s < N.length → LoHi (fun p => ev (wtS p) N s) (cs.take i) cs (lo s) (hi s),
        ⟨_, lo, hi, rfl, rfl, fun s hs => absurd hs (Nat.not_lt_zero _), fun s _ hs => hLH s hs⟩, fun t δ' μ' ht hI => ?_, fun δ' μ' hI => ?_⟩
      · obtain ⟨s10', lo, hi, rfl, rfl, h1, h2⟩ := hI
        have ht : t < N.length := by omega
        have LH := h2 t (Nat.le_refl _) ht
        obtain ⟨pl, hpl, el⟩ := LH.lo
        obtain ⟨ph, hph, eh⟩ := LH.hi
        have zp := hW.nm (pt p hpm) ht
        have zl : Nm 2160 (can (lo t)) := by rw [el]; exact hW.nm (pt pl hpl) ht
        have zh : Nm 2160 (can (hi t)) := by rw [eh]; exact hW.nm (pt ph hph) ht
        have st := LH.step hpm
        obtain ⟨lo2, elo2⟩ : ∃ f : Nat → Rat, f = fun s => if s = t then (if ev (wtS p) N t < lo t then ev (wtS p) N t else lo t) else lo s := ⟨_, rfl⟩
        obtain ⟨hi2, ehi2⟩ : ∃ f : Nat → Rat, f = fun s => if s = t then (if hi t < ev (wtS p) N t then ev (wtS p) N t else hi t) else hi s := ⟨_, rfl⟩
        refine db_cons (DS.mid (fun δ' μ' => δ' = [sl N, sl (Tup.mk (stOf n l u)), sl (Stl.mk (cnT l u n)), s3, s4, s5, sl (Ref.mk la), sl (Ref.mk ha), sl (Tup.mk (cl n p)), sl (Ref.mk lf), sl (t : Int)] ∧ μ' = [lst lf (cl N.length (ev (wtS p) N)), lst la (cl N.length lo2), lst ha (cl N.length hi)]) ?_ ?_)
        · refine ds_if <| dt_val <| de_c1 cll hr (by decide) <| da_cons <| de_ixC (α := Q2) 0 <| de_var (i := 9) rfl <| de_var (i := 10) rfl ⟨_, rfl, _, cl_atI ht, da_cons <| de_ixC (α := Q2) 1 <| de_var (i := 6) rfl <| de_var (i := 10) rfl ⟨_, rfl, _, cl_atI ht, da_nil ⟨[], _, parts_none, _, _, _, _, rfl, qv_can _, qv_can _, okC_b zp zl (by omega), ⟨fun h => ?_, fun h => db_nil ⟨rfl, ?_⟩⟩⟩⟩⟩
          · have h := of_decide_eq_true h
            refine db_one (ds_setItem (α := Q2) 1 <| de_ixC (α := Q2) 0 <| de_var (i := 9) rfl <| de_var (i := 10) rfl ⟨_, rfl, _, cl_atI ht, de_var (i := 6) rfl <| de_var (i := 10) rfl ⟨_, rfl, t, ixN_nat (by rw [cl_len]; exact ht), rfl, ?_⟩⟩)
            rw [cl_set (g := lo2) fun s hs => by rw [elo2]; show (if s = t then _ else lo s) = _; rw [if_pos h]]
            rfl
          · have h := of_decide_eq_false h
            rw [cl_congr (f := lo) (g := lo2) fun s hs => by
              rw [elo2]
              show lo s = if s = t then _ else lo s
              rw [if_neg h]
              split
              · rename_i e; rw [e]
              · rfl]
            rfl
        rintro δ' μ' ⟨rfl, rfl⟩
        have fin : ∃ s10 lo hi, [sl N, sl (Tup.mk (stOf n l u)), sl (Stl.mk (cnT l u n)), s3, s4, s5, sl (Ref.mk la), sl (Ref.mk ha), sl (Tup.mk (cl n p)), sl (Ref.mk lf), sl (t : Int)] = [sl N, sl (Tup.mk (stOf n l u)), sl (Stl.mk (cnT l u n)), s3, s4, s5, sl (Ref.mk la), sl (Ref.mk ha), sl (Tup.mk (cl n p)), sl (Ref.mk lf), s10] ∧ [lst lf (cl N.length (ev (wtS p) N)), lst la (cl N.length lo2), lst ha (cl N.length hi2)] = [lst lf (cl N.length (ev (wtS p) N)), lst la (cl N.length lo), lst ha (cl N.length hi)] ∧ (∀ s, s < t + 1 → s < N.length → LoHi (fun p => ev (wtS p) N s) (cs.take i ++ [p]) cs (lo s) (hi s)) ∧ ∀ s, t + 1 ≤ s → s < N.length → LoHi (fun p => ev (wtS p) N s) (cs.take i) cs (lo s) (hi s) := by
          refine ⟨_, lo2, hi2, rfl, rfl, fun s hs hsl => ?_, fun s hs hsl => ?_⟩
          · by_cases e : s = t
            · subst e
              rw [elo2, ehi2]
              show LoHi _ _ _ (if s = s then _ else _) (if s = s then _ else _)
              rw [if_pos rfl, if_pos rfl]
              exact st
            · rw [elo2, ehi2]
              show LoHi _ _ _ (if s = t then _ else _) (if s = t then _ else _)
              rw [if_neg e, if_neg e]
              exact h1 s (by omega) hsl
          · rw [elo2, ehi2]
            show LoHi _ _ _ (if s = t then _ else _) (if s = t then _ else _)
            rw [if_neg (by omega), if_neg (by omega)]
            exact h2 s (by omega) hsl
        refine db_one (ds_if <| dt_val <| de_c1 cll hr (by decide) <| da_cons <| de_ixC (α := Q2) 2 <| de_var (i := 7) rfl <| de_var (i := 10) rfl ⟨_, rfl, _, cl_atI ht, da_cons <| de_ixC (α := Q2) 0 <| de_var (i := 9) rfl <| de_var (i := 10) rfl ⟨_, rfl, _, cl_atI ht, da_nil ⟨[], _, parts_none, _, _, _, _, rfl, qv_can _, qv_can _, okC_b zh zp (by omega), ⟨fun h => ?_, fun h => db_nil ?_⟩⟩⟩⟩)
        · have h := of_decide_eq_true h
          refine db_one (ds_setItem (α := Q2) 2 <| de_ixC (α := Q2) 0 <| de_var (i := 9) rfl <| de_var (i := 10) rfl ⟨_, rfl, _, cl_atI ht, de_var (i := 7) rfl <| de_var (i := 10) rfl ⟨_, rfl, t, ixN_nat (by rw [cl_len]; exact ht), ?_⟩⟩)
          rw [cl_set (g := hi2) fun s hs => by rw [ehi2]; show (if s = t then _ else hi s) = _; rw [if_pos h]]
          exact fin
        · have h := of_decide_eq_false h
          rw [cl_congr (f := hi) (g := hi2) fun s hs => by
            rw [ehi2]
            show hi s = if s = t then _ else hi s
            rw [if_neg h]
            split
            · rename_i e; rw [e]
            · rfl]
          exact fin
      · obtain ⟨s10', lo, hi, rfl, rfl, h1, h2⟩ := hI
        rw [Int.toNat_natCast] at h1
        refine db_drop (α := Q2) 0 rfl (db_nil ⟨_, _, _, lo, hi, rfl, rfl, fun t ht => ?_⟩)
        rw [List.take_add_one, hp]
        exact h1 t ht ht
    · obtain ⟨s8, s9, s10, lo, hi, rfl, rfl, hLH⟩ := hI
      rw [show (Stl.mk (cnT l u n)).l.length = cs.length by show (cnT l u n).length = _; rw [cnT_len, clen], List.take_length] at hLH
      exact ⟨_, _, _, lo, hi, rfl, rfl, hLH⟩
  rintro δ' μ' ⟨s8, s9, s10, lo, hi, rfl, rfl, hLH⟩
  have ends : ∀ t, t < N.length → (can (lo t), can (hi t)) = canS (ev (rgS fun k => (l k, u k)) N t) := fun t ht => by
    have LH := hLH t ht
    have hs := hW.once.span hb.le t ht
    have e1 : lo t = (ev (rgS fun k => (l k, u k)) N t).1 := by
      obtain ⟨p, hp, e⟩ := LH.lo
      obtain ⟨p', hp', e'⟩ := hW.once.meet ht hs.lo
      refine Rat.le_antisymm ?_ ?_
      · rw [e']; exact (LH.bd p' (by rw [ecs]; exact hp')).1
      · rw [e]; exact (hW.once.inside hb.le ht (by rw [← ecs]; exact hp)).1
    have e2 : hi t = (ev (rgS fun k => (l k, u k)) N t).2 := by
      obtain ⟨p, hp, e⟩ := LH.hi
      obtain ⟨p', hp', e'⟩ := hW.once.meet ht hs.hi
      refine Rat.le_antisymm ?_ ?_
      · rw [e]; exact (hW.once.inside hb.le ht (by rw [← ecs]; exact hp)).2
      · rw [e']; exact (LH.bd p' (by rw [ecs]; exact hp')).2
    unfold canS
    rw [e1, e2]
  refine db_one (ds_ret <| de_drop <| de_lcR (i0 := 10) (own := [("t", 10)]) (β := St2) rfl sc_law_corner_spans.nd (blkOk_by (N := ["nodes", "box", "corners", "low", "high", "row", "lows", "highs", "corner", "found", "t"]) (sc := defScope s_law_corner_spans) (by decide +kernel)) (by decide) (fun _ _ _ _ _ => pg_name (i := 10) sc_law_corner_spans.nd rfl (Or.inl rfl)) (by decide) T.range
    (de_lenC (α := Q2) 0 T.len <| de_var (i := 6) rfl ⟨_, rfl, ?_⟩))
  rw [cl_len]
  refine ⟨⟨by omega, by omega⟩, fun k ys μ' => μ' = [lst la (cl N.length lo), lst ha (cl N.length hi)] ∧ ys = ((evL (rgS fun k => (l k, u k)) N).take k).map canS, ⟨rfl, rfl⟩, fun k ys μ' hk hJ => ?_, fun ys μ' hJ => ?_⟩
  · obtain ⟨rfl, rfl⟩ := hJ
    have hk : k < N.length := by omega
    intro s' H' C' cl' fp
    refine de_tup2 <| de_ixC (α := Q2) 0 <| de_var (i := 6) rfl <| de_var (i := 10) rfl ⟨_, rfl, _, cl_atI hk, de_ixC (α := Q2) 1 <| de_var (i := 7) rfl <| de_var (i := 10) rfl ⟨_, rfl, _, cl_atI hk, ?_, rfl, ?_⟩⟩
    · rw [List.length_map, List.length_take]; omega
    · rw [take_snoc (evL_get hk), ends k hk]
  · obtain ⟨rfl, rfl⟩ := hJ
    rw [Int.toNat_natCast, List.take_of_length_le (by rw [evL_len]; exact Nat.le_refl _)]
    exact ⟨[], _, ⟨List.Perm.refl _⟩, q⟩
end
end K17
namespace K17
open PySem PySem.Spec PyProof.Rows L2 Dl
/-! ### from the letters to the problem -/
section
variable {n : Nat} {wk : Nat → Bool} {l u l' u' : Nat → Rat} {S : Bst} {g : Nat} {o : List Nat}
theorem bst_get {k : Nat} (h : k < n) : (bst n wk l u).N[k]? = some (.letter k) := by
  show ((List.range n).map Nd.letter)[k]? = _
  rw [List.getElem?_map, List.getElem?_range h]; rfl
theorem bst_nlen : (bst n wk l u).N.length = n := by show ((List.range n).map Nd.letter).length = n; simp
theorem bst_once : OnceN n (bst n wk l u).N where
  len := by rw [bst_nlen]; exact Nat.le_refl _
  lets k hk := bst_get hk
  good t x hx := by
    have ht := (List.getElem?_eq_some_iff.mp hx).1
    rw [bst_nlen] at ht
    rw [bst_get ht] at hx
    cases hx
    exact ⟨ht, rfl⟩
theorem bst_bd (h : n ≤ 6) : Bd17 n wk l u (bst n wk l u) := by
  have hA := (bst_once (n := n) (wk := wk) (l := l) (u := u)).args
  have e : ∀ k, k < n → ndG (bst n wk l u).N k = .letter k := fun k hk => ndG_some (bst_get hk)
  refine ⟨bst_ok h, rfl, bst_once, ?_, ?_, fun t ht => ?_⟩
  · show stOf n l u = ((List.range (bst n wk l u).N.length).map _).map canS
    rw [bst_nlen, List.map_map]
    unfold stOf
    refine List.map_congr_left fun k hk => ?_
    have hk := List.mem_range.mp hk
    show _ = canS (ev (rgS fun k => (l k, u k)) (bst n wk l u).N k)
    rw [ev_eq hA k, e k hk]; rfl
  · show List.replicate n (1 : Int) = ((List.range (bst n wk l u).N.length).map _).map _
    rw [bst_nlen, List.map_map]
    refine List.ext_getElem? fun k => ?_
    rw [List.getElem?_map]
    by_cases hk : k < n
    · rw [List.getElem?_replicate, if_pos hk, List.getElem?_range hk]
      show some (1 : Int) = some ((ev wgS (bst n wk l u).N k : Nat) : Int)
      rw [ev_eq hA k, e k hk]; rfl
    · rw [List.getElem?_replicate, if_neg hk, List.getElem?_eq_none (by rw [List.length_range]; omega)]; rfl
  · rw [bst_nlen] at ht
    rw [ev_eq hA t, e t ht]
    show 1 ≤ 40
    decide
theorem Bd17.cond (h : Bd17 n wk l u S) {c : List Nat} (hc : c.length ≤ 12) {g' : Option Nat} : Bd17 n wk l u { S with C := c, G := g' } := ⟨⟨h.ok.nd, h.ok.n, h.ok.r, h.ok.w, h.ok.l, hc⟩, h.L, h.once, h.R, h.W, h.w40⟩
theorem ndP_first {x : Nd} : ∀ {N : List Nd} {i : Nat}, N.Nodup → N[i]? = some x → ndP N x = i
  | y :: N, 0, _, h => by
    have : y = x := by simpa using h
    unfold ndP; rw [if_pos this]
  | y :: N, i + 1, d, h => by
    have h : N[i]? = some x := by simpa using h
    have ne : ¬ y = x := fun e => (List.nodup_cons.mp d).1 (by rw [e]; exact List.mem_of_getElem? h)
    unfold ndP
    rw [if_neg ne, ndP_first (List.nodup_cons.mp d).2 h]
theorem Bd17.lts (h : Bd17 n wk l u S) : lts S S.L.length = List.range n := by
  rw [h.L, l4_len]
  unfold K17.lts
  refine (List.map_congr_left fun k hk => ?_).trans (List.map_id _)
  exact ndP_first h.ok.nd (h.once.lets k (List.mem_range.mp hk))
theorem Bd17.wf (h : Bd17 n wk l u S) (hc : ∀ c ∈ S.C, c < S.N.length) : S.Wf := ⟨h.ok, fun i x hx a ha => h.once.args i x hx a ha, fun k hk => by
  rw [h.L, l4_len] at hk
  exact List.mem_of_getElem? (h.once.lets k hk), hc⟩
theorem OrdQ.ordN (h : OrdQ S g o) : OrdN S.N o := ⟨h.1.nd, fun k i hk a ha => by
  have hi := h.1.lt i (List.mem_of_getElem? hk)
  exact h.1.args k i _ hk (ndG_get hi) a ha⟩
theorem OrdQ.law (h : OrdQ S g o) (hB : Bd17 n wk l u S) : o = (S.C ++ [g]).foldl (dfsO (argA S.N)) (List.range n) := by
  have e := h.2.2.2
  unfold ordX at e
  rw [hB.lts, argsA_ndG] at e
  exact e
theorem prb_nodes : (prbOf S g o).nodes = mvL S.N o := rfl
/-- what node_range is asked for, over the problem's nodes -/
theorem Bd17.nr (hB : Bd17 n wk l u S) (ho : OrdQ S g o) (hb : BX 53 n wk l' u') {k : Nat} (hk : k < (mvL S.N o).length) :
    nrA (ndG (mvL S.N o) k) (((evL (rgS fun k => (l' k, u' k)) (mvL S.N o)).take k).map canS) (stOf n l' u') (canS (ev (rgS fun k => (l' k, u' k)) (mvL S.N o) k)) := by
  rw [mvL_len] at hk
  have hA := hB.once.args
  have hO := ho.ordN
  obtain ⟨i, hi⟩ : ∃ i, o[k]? = some i := ⟨_, List.getElem?_eq_getElem hk⟩
  have hil := ho.1.lt i (List.mem_of_getElem? hi)
  rw [ndG_some (mvL_get hi), ev_ord hA hO k i hi]
  have g0 := hB.once.good i _ (ndG_get hil)
  have at_ : ∀ a ∈ argsT (ndG S.N i), (((evL (rgS fun k => (l' k, u' k)) (mvL S.N o)).take k).map canS)[plI o a]? = some (canS (ev (rgS fun k => (l' k, u' k)) S.N a)) := fun a ha => by
    obtain ⟨j, hj, e⟩ := hO.args k i hi a ha
    rw [plI_at hO.nd e, List.getElem?_map, List.getElem?_take_of_lt hj, evL_get (by rw [mvL_len]; omega), ev_ord hA hO j a e]; rfl
  rw [ev_eq hA i]
  cases e : ndG S.N i with
  | letter m =>
    rw [e] at g0
    show (stOf n l' u')[m]? = _
    unfold stOf
    rw [List.getElem?_map, List.getElem?_range g0.1]; rfl
  | num v =>
    rw [e] at g0
    show canS (qv v, qv v) = (v, v)
    unfold canS
    rw [← g0.1]
  | abs a => rw [e] at g0; exact g0.elim
  | pow a m => rw [e] at g0; exact g0.elim
  | op q a b =>
    rw [e] at g0 at_
    obtain ⟨ha, hb', hd, hq⟩ := g0
    have za := hB.once.size hb.nm a (Nat.lt_trans ha hil)
    have zb := hB.once.size hb.nm b (Nat.lt_trans hb' hil)
    have wa := hB.w40 a (Nat.lt_trans ha hil)
    have wb := hB.w40 b (Nat.lt_trans hb' hil)
    refine ⟨_, _, _, _, at_ a (by simp [argsT]), at_ b (by simp [argsT]), za, zb, by omega, fun eq => ?_, rfl⟩
    rcases hq with z | z | z | ⟨z, v, hv, hz⟩
    · rw [z] at eq; cases eq
    · rw [z] at eq; cases eq
    · rw [z] at eq; cases eq
    · rw [show ev (rgS fun k => (l' k, u' k)) S.N b = (qv v, qv v) by rw [ev_eq hA b, ndG_some hv]; rfl]
      exact ⟨hz, hz⟩
theorem rg_map (hB : Bd17 n wk l u S) (ho : OrdQ S g o) : o.map (rgAt S) = o.map fun i => canS (ev (rgS fun k => (l k, u k)) S.N i) := by
  refine List.map_congr_left fun i hi => ?_
  have hil := ho.1.lt i hi
  unfold rgAt
  rw [List.getD_eq_getElem?_getD, hB.rAt hil]; rfl
theorem st_eq (h : stOf n l u = stOf n l' u') : ∀ k, k < n → (l k, u k) = (l' k, u' k) := fun k hk => by
  have e : (stOf n l u)[k]? = (stOf n l' u')[k]? := by rw [h]
  unfold stOf at e
  rw [List.getElem?_map, List.getElem?_map, List.getElem?_range hk] at e
  have e : (can (l k), can (u k)) = (can (l' k), can (u' k)) := Option.some.inj e
  have e1 := congrArg (fun x : St2 => qv x.1) e
  have e2 := congrArg (fun x : St2 => qv x.2) e
  simp only [qv_can] at e1 e2
  rw [e1, e2]
theorem whole_end {x : Rat} (h : IsI x) : ((ceQ x : Int) : Rat) = x ∧ ((flQ x : Int) : Rat) = x := by
  obtain ⟨t, rfl⟩ := h
  refine ⟨?_, by rw [fl_int]⟩
  rw [can_neg1, ← Rat.intCast_neg, fl_int, Int.neg_neg]
theorem end_same {wk : Bool} {x y : Rat} (h : wk = true → IsI x ∧ IsI y) : endQ wk x y = (x, y) := by
  unfold endQ
  split
  · rename_i e
    rw [(whole_end (h e).1).1, (whole_end (h e).2).2]
  · rfl
end
end K17
namespace K17
open PySem PySem.Spec PyProof.Rows L2 Dl
section
variable {P : Program} {w : World} {K : PySem.W.Frag} {mg : Str → Option Value} {base : Heap} {C : Addr}
def phSameBL : Pm Bool := fun as μ P => ∃ ys : List St2, as = [sl (Tup.mk ys), sl ys] ∧ ys.length ≤ 1000 ∧ P true μ
theorem c_same_boxL (D : Dfn K mg "_law_same_box" s_law_same_box ["actual", "due"]) (T : Txt mg) (cs : Cal P w K mg base "_law_same_number" 1 ["actual", "due"] phSameN) : Cal P w K mg base "_law_same_box" 2 ["actual", "due"] phSameBL := by
  refine D.cal sc_law_same_box (fun as μ P h => ?_) fun f cdv A outer s H E hr as μ Pd h => ?_
  · obtain ⟨_, rfl, _⟩ := h; rfl
  obtain ⟨ys, rfl, hn, q⟩ := h
  refine db_cons (ds_if (dw_or <| dt_not <| dt_val <| de_isi (T := "tuple") (r := true) (by decide +kernel) T.isinstance T.tuple (by decide +kernel) <| de_var (i := 0) rfl ⟨fun h => (nomatch h), fun _ => dw_or1 <| dt_neI <| de_lenT (α := St2) T.len <| de_var (i := 0) rfl <| de_lenL (α := St2) T.len <| de_var (i := 1) rfl ⟨fun h => absurd h (by simp), fun h => db_nil ?_⟩⟩).dt)
  refine db_cons (ds_range1 (i := 2) PassesOwn.never rfl sc_law_same_box.nd T.range (de_lenL (α := St2) T.len <| de_var (i := 1) rfl ?_))
  refine ⟨by omega, by omega, fun k δ' μ' => (∃ s, δ' = [sl (Tup.mk ys), sl ys, s]) ∧ μ' = μ, ⟨⟨_, rfl⟩, rfl⟩, fun k δ' μ' hk hI => ?_, fun δ' μ' hI => ?_⟩
  · obtain ⟨⟨s3, rfl⟩, rfl⟩ := hI
    have hk : k < ys.length := by omega
    have hy : atI ys (k : Int) = some ys[k] := atI_nat (List.getElem?_eq_getElem hk)
    refine db_cons (ds_if (dw_or <| dt_not <| dt_val <| de_isi (α := St2) (T := "tuple") (r := true) (by decide +kernel) T.isinstance T.tuple (by decide +kernel) <| de_ixT (α := St2) <| de_var (i := 0) rfl <| de_var (i := 2) rfl ⟨_, hy, ⟨fun h => (nomatch h), fun _ => dw_or1 <| dt_neI <| de_len2 (α := Q2) (β := Q2) T.len <| de_ixT (α := St2) <| de_var (i := 0) rfl <| de_var (i := 2) rfl ⟨_, hy, de_int ⟨fun h => absurd h (by decide), fun h => db_nil ?_⟩⟩⟩⟩).dt)
    exact db_one (ds_if (dw_or <| dt_not <| dt_val <| de_c1 cs hr (by decide) <| da_cons <| de_ix0 (α := Q2) (β := Q2) <| de_ixT (α := St2) <| de_var (i := 0) rfl <| de_var (i := 2) rfl ⟨_, hy, da_cons <| de_ix0 (α := Q2) (β := Q2) <| de_ixL (α := St2) <| de_var (i := 1) rfl <| de_var (i := 2) rfl ⟨_, hy, da_nil ⟨[], _, parts_none, _, rfl, ⟨fun h => (nomatch h), fun _ => dw_or1 <| dt_not <| dt_val <| de_c1 cs hr (by decide) <| da_cons <| de_ix1 (α := Q2) (β := Q2) <| de_ixT (α := St2) <| de_var (i := 0) rfl <| de_var (i := 2) rfl ⟨_, hy, da_cons <| de_ix1 (α := Q2) (β := Q2) <| de_ixL (α := St2) <| de_var (i := 1) rfl <| de_var (i := 2) rfl ⟨_, hy, da_nil ⟨[], _, parts_none, _, rfl, ⟨fun h => (nomatch h), fun _ => db_nil ⟨⟨_, rfl⟩, rfl⟩⟩⟩⟩⟩⟩⟩⟩⟩).dt)
  · obtain ⟨⟨s3, rfl⟩, rfl⟩ := hI
    exact db_one (ds_ret <| de_bl q)
theorem f_law {f : Addr} {fd : FuncData} {dvs : List V} (F : FunD K "law" "law" (defArgs s_law) (defBody s_law) (defScope s_law) dvs [] f fd) (T : Txt mg) (k : BldK K C) (pk : PrbK K) (cj : Cal P w K mg base "_law_jar" 1 ["script"] phJar) (cd : cDraw P w K mg base) (cle : Cal P w K mg base "_law_letters" 2 ["jar"] phLetters)
    (ci : MakD P w K mg base "Builder" C 1 ["self"] (phBInit P w C)) (clt : MetD P w K mg base C "letter" 22 ["self", "name", "kind", "low", "high"] (phLetter P w C nrA)) (cke : MetD P w K mg base C "keep" 1 ["self", "node"] (phKeep P w C)) (cls : MetD P w K mg base C "least" 1 ["self", "node"] (phLeastB P w C)) (cpr : MetD P w K mg base C "problem" 4 ["self"] (phProblem P w C))
    (cte : Cal P w K mg base "_law_term" 25 ["jar", "builder", "nodes", "places"] (phTerm P w C)) (cca : Cal P w K mg base "_law_canonical" 43 ["nodes", "count", "roots"] phCanon) (cin : Cal P w K mg base "_law_inner" 4 ["jar", "letters", "box"] phInner) (csp : Cal P w K mg base "_law_corner_spans" 4 ["nodes", "box"] phSpans)
    (crg : Cal P w K mg base "ranges" 7 ["problem", "box"] phRanges) (csb : Cal P w K mg base "_law_same_box" 2 ["actual", "due"] phSameBL) : FnOk P w K mg base CX0 45 f fd ["script"] (spO K phLaw) := by
  refine fnD_ok F sc_law (fun as μ P h => ?_) fun f cdv A' outer s' H E hr as μ Pd h => ?_
  · obtain ⟨sc, rfl, _⟩ := h; rfl
  obtain ⟨sc, rfl, rfl, q⟩ := h
  refine db_cons (ds_set (i := 1) sc_law.nd (de_c1 cj hr (by decide) (da_cons (de_var (i := 0) rfl (da_nil ⟨[], _, parts_none, _, rfl, rfl, fun j g => ?_⟩)))))
  refine db_cons (ds_set (i := 2) sc_law.nd <| de_c1 cle hr (by decide) <| da_cons <| de_var (i := 1) rfl <| da_nil ⟨_, _, parts_hd, j, g, rfl, rfl, fun n wk l u n1 L B5 => ?_⟩)
  have n6 := L.n6
  have hb := B5.mono (Z' := 53) (by decide)
  refine db_cons (ds_set (i := 3) sc_law.nd <| de_mk0 ci hr (by decide) fun bx dx => ⟨[ObjC bx dx C []], [JarC j g], ⟨List.perm_append_comm (l₁ := [JarC j g])⟩, bx, dx, rfl, rfl, fun A hA => ?_⟩)
  subst hA
  refine db_cons (DS.mid (fun δ' μ' => ∃ na : Addr, δ' = [sl sc, sl (Ref.mk j), sl (rl n wk l u), sl (Ref.mk A.b), .any, sl (Ref.mk na), .any, .any, .any, .any, .any, .any, .any, .any, .any, .any, .any, .any, .any] ∧ μ' = bldM P w C A {} ++ [JarC j g, lst na ((List.range n).map Nd.letter)]) ?_ ?_)
  · refine ds_lcRN (own := [("k", 4)]) (i0 := 4) (i := 5) (β := Nd) rfl sc_law.nd (blkOk_by (N := ["script", "jar", "letters", "builder", "k", "nodes", "places", "goal", "roots", "j", "problem", "order", "row", "outer", "boxes", "box", "spans", "at", "due"]) (sc := defScope s_law) (by decide +kernel)) (by decide) (fun _ _ _ _ _ => pg_name (i := 4) sc_law.nd rfl (Or.inl rfl)) (by decide) T.range
      (de_lenL (α := L3) T.len <| de_var (i := 2) rfl ?_) (sw_true rfl rfl rfl (by decide +kernel))
    rw [rl_len]
    refine ⟨⟨by omega, by omega⟩, fun i ys μ' => μ' = bldM P w C A {} ++ [JarC j g] ∧ ys = (List.range i).map Nd.letter, ⟨rfl, rfl⟩, fun i ys μ' hi hJ => ?_, fun ys μ' hJ na => ?_⟩
    · obtain ⟨rfl, rfl⟩ := hJ
      intro s' H' C' cl' fp
      refine de_asNd2 <| de_tup2 <| de_str <| de_var (i := 4) rfl ⟨.letter i, rfl, ?_, rfl, ?_⟩
      · rw [List.length_map, List.length_range]; omega
      · rw [List.range_succ, List.map_append]; rfl
    · obtain ⟨rfl, rfl⟩ := hJ
      rw [Int.toNat_natCast]
      exact ⟨na, rfl, rfl⟩
  rintro δ' μ' ⟨na, rfl, rfl⟩
  refine db_cons (ds_set (i := 6) sc_law.nd <| de_lstN (α := Int) <| da_nil ⟨[], rfl, by decide, fun pa => ?_⟩)
  refine db_cons (DS.mid (fun δ' μ' => ∃ s4, δ' = [sl sc, sl (Ref.mk j), sl (rl n wk l u), sl (Ref.mk A.b), s4, sl (Ref.mk na), sl (Ref.mk pa), .any, .any, .any, .any, .any, .any, .any, .any, .any, .any, .any, .any] ∧ μ' = bldM P w C A (bst n wk l u) ++ [JarC j g, lst na ((List.range n).map Nd.letter), lst pa (nI (List.range n))]) ?_ ?_)
  · refine ds_range1 (i := 4) PassesOwn.never rfl sc_law.nd T.range (de_lenL (α := L3) T.len <| de_var (i := 2) rfl ?_)
    rw [rl_len]
    refine ⟨by omega, by omega, fun i δ' μ' => ∃ s4, δ' = [sl sc, sl (Ref.mk j), sl (rl n wk l u), sl (Ref.mk A.b), s4, sl (Ref.mk na), sl (Ref.mk pa), .any, .any, .any, .any, .any, .any, .any, .any, .any, .any, .any, .any] ∧ μ' = bldM P w C A (bst i wk l u) ++ [JarC j g, lst na ((List.range n).map Nd.letter), lst pa (nI (List.range i))], ⟨_, rfl, rfl⟩, fun i δ' μ' hi hI => ?_, fun δ' μ' hI => ?_⟩
    · obtain ⟨s4, rfl, rfl⟩ := hI
      have hi : i < n := by omega
      obtain ⟨zl, zu⟩ := B5.nm i hi
      obtain ⟨g1, g2⟩ := L.lg i hi
      have he : endQ (wk i) (l i) (u i) = (l i, u i) := end_same (B5.wh i hi)
      refine db_one (ds_expr (de_append (α := Int) 9 <| de_var (i := 6) rfl ⟨⟨_, rfl⟩, de_mtM clt hr (by decide) <| de_var (i := 3) rfl ⟨⟨0, A.dx, _, rfl, rfl⟩, da_cons <| de_addS <| de_str <| de_strI T.str <| de_var (i := 4) rfl ⟨?_, ?_, da_cons <| de_t30 (α := Str) (β := Q2) (γ := Q2) <| de_ixL (α := L3) <| de_var (i := 2) rfl <| de_var (i := 4) rfl ⟨_, rl_at hi, da_cons <| de_t31 (α := Str) (β := Q2) (γ := Q2) <| de_ixL (α := L3) <| de_var (i := 2) rfl <| de_var (i := 4) rfl ⟨_, rl_at hi, da_cons <| de_t32 (α := Str) (β := Q2) (γ := Q2) <| de_ixL (α := L3) <| de_var (i := 2) rfl <| de_var (i := 4) rfl ⟨_, rl_at hi, da_nil ⟨[], bldM P w C A (bst i wk l u), [JarC j g, lst na ((List.range n).map Nd.letter), lst pa (nI (List.range i))], rfl, A, bst i wk l u, nmX i, wk i, l i, u i, 5, rfl, rfl, ⟨bst_ok (by omega), nmX_ok (by omega), l4_new (by omega), zl, zu, by decide, by decide, B5.le i hi, by rw [he]; exact B5.le i hi, by rw [he]; exact g1, by rw [he]; exact g2, by show (l4 i wk l u).length < 6; rw [l4_len]; omega⟩, ?_⟩⟩⟩⟩⟩⟩⟩))
      · exact bits_of (n := 1920) (pow2_mono (a := 3) (by show ((i : Int)).natAbs < 8; omega) (by decide)) (by decide)
      · have := (nmX_ok' ⟨i, by omega⟩).2.1
        have : (nmX i).length ≤ 12 := this
        have e : ("x" : Str).length + ((toString (i : Int) : String) : Str).length = (nmX i).length := by unfold nmX; exact (Str.length_append _ _).symm
        omega
      · rw [he, show (bst i wk l u).L.length = i from l4_len]
        refine .inr ⟨fun hm => ?_, 1, (can (l i), can (u i)), rfl, by decide, ?_, ?_⟩
        · have hm : Nd.letter i ∈ (List.range i).map Nd.letter := hm
          obtain ⟨z, hz, e⟩ := List.mem_map.mp hm
          cases e
          exact absurd (List.mem_range.mp hz) (Nat.lt_irrefl _)
        · show (boxL (l4 i wk l u ++ [_]))[i]? = _
          rw [← l4_snoc, l4_box]
          unfold stOf
          rw [List.getElem?_map, List.getElem?_range (Nat.lt_succ_self i)]; rfl
        · rw [bst_snoc]
          refine ⟨nI (List.range i), rfl, by rw [nI_len, List.length_range]; omega, _, rfl, ?_⟩
          rw [List.range_succ, nI_snoc]
          have eL : ((bst i wk l u).addL ⟨nmX i, kS (wk i), can (l i, u i).1, can (l i, u i).2⟩).N.length = i := bst_nlen (wk := wk) (l := l) (u := u)
          rw [eL]
          rfl
    · rw [Int.toNat_natCast] at hI; exact hI
  rintro δ' μ' ⟨s4, rfl, rfl⟩
  have b0 : Bd17 n wk l u (bst n wk l u) := bst_bd n6
  have perm : (bldM P w C A (bst n wk l u) ++ [JarC j g, lst na ((List.range n).map Nd.letter), lst pa (nI (List.range n))]).Perm (stJ P w C A (bst n wk l u) na pa j g ++ []) := by
    rw [List.append_nil]
    unfold stJ
    rw [bst_nlen]
    exact List.Perm.append_left _ ((List.Perm.swap _ _ _).trans (List.Perm.cons _ (List.Perm.swap _ _ _)))
  refine db_cons (ds_set (i := 7) sc_law.nd <| de_c1 cte hr (by decide) <| da_cons <| de_var (i := 1) rfl <| da_cons <| de_var (i := 3) rfl <| da_cons <| de_var (i := 5) rfl <| da_cons <| de_var (i := 6) rfl <| da_nil ⟨_, [], ⟨perm⟩, A, bst n wk l u, na, pa, j, g, n, wk, l, u, rfl, rfl, ⟨b0, hb, bst_nlen, n1, n6⟩, fun S goal ex bS hgl hS => ?_⟩)
  have eC : S.C = [] := ex.C
  have eS : ({ S with C := [] } : Bst) = S := by rw [← eC]
  refine db_cons (ds_set (i := 8) sc_law.nd <| de_lstN (α := Int) <| da_nil ⟨[], rfl, by decide, fun ra => ?_⟩)
  refine db_cons (DS.mid (fun δ' μ' => ∃ (rs : List Nat) (s9 : Slot), (rs.length ≤ 3 ∧ ∀ r ∈ rs, r < S.N.length) ∧ δ' = [sl sc, sl (Ref.mk j), sl (rl n wk l u), sl (Ref.mk A.b), s4, sl (Ref.mk na), sl (Ref.mk pa), sl (goal : Int), sl (Ref.mk ra), s9, .any, .any, .any, .any, .any, .any, .any, .any, .any] ∧ μ' = stJ P w C A { S with C := rs } na pa j g ++ [lst ra (nI rs)]) ?_ ?_)
  · refine ds_range1 (i := 9) PassesOwn.never rfl sc_law.nd T.range (de_c1M cd hr (by decide) <| da_cons <| de_var (i := 1) rfl <| da_cons <| de_int <| da_nil ⟨stN P w C A S na pa, [JarC j g], [lst ra ([] : List Int)], rfl, j, g, _, rfl, rfl, ⟨by decide, by decide⟩, fun m m0 m1 => ?_⟩)
    refine ⟨by omega, by omega, fun i δ' μ' => ∃ (rs : List Nat) (s9 : Slot), (rs.length = i ∧ ∀ r ∈ rs, r < S.N.length) ∧ δ' = [sl sc, sl (Ref.mk j), sl (rl n wk l u), sl (Ref.mk A.b), s4, sl (Ref.mk na), sl (Ref.mk pa), sl (goal : Int), sl (Ref.mk ra), s9, .any, .any, .any, .any, .any, .any, .any, .any, .any] ∧ μ' = stJ P w C A { S with C := rs } na pa j g ++ [lst ra (nI rs)],
      ⟨[], _, ⟨rfl, fun r hr => absurd hr List.not_mem_nil⟩, rfl, by rw [eS]; rfl⟩, fun i δ' μ' hi hI => ?_, fun δ' μ' hI => ?_⟩
    · obtain ⟨rs, s9, ⟨hrl, hrs⟩, rfl, rfl⟩ := hI
      refine db_cons (DS.mid (fun δ' μ' => ∃ r : Nat, r < S.N.length ∧ δ' = [sl sc, sl (Ref.mk j), sl (rl n wk l u), sl (Ref.mk A.b), s4, sl (Ref.mk na), sl (Ref.mk pa), sl (goal : Int), sl (Ref.mk ra), sl (i : Int), .any, .any, .any, .any, .any, .any, .any, .any, .any] ∧ μ' = stJ P w C A { S with C := rs } na pa j g ++ [lst ra (nI (rs ++ [r]))]) ?_ ?_)
      · refine ds_expr (de_append (α := Int) 10 <| de_var (i := 8) rfl ⟨⟨_, rfl⟩, de_c1M cd hr (by decide) <| da_cons <| de_var (i := 1) rfl <| da_cons <| de_lenC (α := Nd) 7 T.len <| de_var (i := 5) rfl ⟨S.N, rfl, da_nil ⟨stN P w C A { S with C := rs } na pa, [JarC j g], [lst ra (nI rs)], rfl, j, g, _, rfl, rfl, ⟨by omega, big_bits (by omega) (by omega)⟩, fun d d0 d1 => ?_⟩⟩⟩)
        obtain ⟨r, rfl⟩ := Int.eq_ofNat_of_zero_le d0
        refine ⟨nI rs, rfl, by rw [nI_len]; omega, r, by omega, rfl, ?_⟩
        rw [← nI_snoc]; rfl
      rintro δ' μ' ⟨r, hrN, rfl, rfl⟩
      refine db_one (ds_expr <| de_mtM cke hr (by decide) <| de_var (i := 3) rfl ⟨⟨0, A.dx, _, rfl, rfl⟩, da_cons <| de_ixC (α := Int) 8 <| de_var (i := 6) rfl <| de_ixC (α := Int) 10 <| de_var (i := 8) rfl <| de_var (i := 9) rfl ⟨nI (rs ++ [r]), rfl, (r : Int), atI_nat (nI_at (by rw [← hrl, List.getElem?_append_right (Nat.le_refl _), Nat.sub_self]; rfl)), _, rfl, _, places_at hrN, da_nil ⟨[], bldM P w C A { S with C := rs }, [lst na S.N, lst pa (nI (List.range S.N.length)), JarC j g, lst ra (nI (rs ++ [r]))], rfl, A, { S with C := rs }, r, rfl, rfl, by show rs.length < 12; omega, ?_⟩⟩⟩)
      refine ⟨rs ++ [r], _, ⟨by rw [List.length_append]; simp [hrl], fun x hx => ?_⟩, rfl, rfl⟩
      rcases List.mem_append.mp hx with z | z
      · exact hrs x z
      · rw [List.mem_singleton.mp z]; exact hrN
    · obtain ⟨rs, s9, ⟨hrl, hrs⟩, rfl, rfl⟩ := hI
      exact ⟨rs, s9, ⟨by omega, hrs⟩, rfl, rfl⟩
  rintro δ' μ' ⟨rs, s9, ⟨hrl, hrs⟩, rfl, rfl⟩
  refine db_cons (ds_expr <| de_mtM cls hr (by decide) <| de_var (i := 3) rfl ⟨⟨0, A.dx, _, rfl, rfl⟩, da_cons <| de_ixC (α := Int) 8 <| de_var (i := 6) rfl <| de_var (i := 7) rfl ⟨_, rfl, _, places_at hgl, da_nil ⟨[], bldM P w C A { S with C := rs }, [lst na S.N, lst pa (nI (List.range S.N.length)), JarC j g, lst ra (nI rs)], rfl, A, { S with C := rs }, goal, rfl, rfl, ?_⟩⟩⟩)
  have bT : Bd17 n wk l u { S with C := rs, G := some goal } := bS.cond (c := rs) (by omega)
  refine db_cons (ds_set (i := 10) sc_law.nd <| de_mt0M cpr hr (by decide) <| de_var (i := 3) rfl ⟨⟨0, A.dx, _, rfl, rfl⟩, [], bldM P w C A { S with C := rs, G := some goal }, [lst na S.N, lst pa (nI (List.range S.N.length)), JarC j g, lst ra (nI rs)], rfl, A, _, goal, rfl, rfl, ⟨bT.wf hrs, rfl, hgl, by show S.N.length ≤ 60; omega⟩, fun o ho => ?_⟩)
  have oLaw := ho.law bT
  have oLaw : o = (rs ++ [goal]).foldl (dfsO (argA S.N)) (List.range n) := oLaw
  generalize ep : prbOf { S with C := rs, G := some goal } goal o = p
  have hpn : p.nodes = mvL S.N o := by rw [← ep]; rfl
  have hpr : p.ranges = o.map fun i => canS (ev (rgS fun k => (l k, u k)) S.N i) := by rw [← ep]; exact rg_map bT ho
  refine db_frz (α := Nd) 7 5 (l := na) (xs := S.N) rfl rfl ?_
  refine db_frzS (α := Int) 9 8 (l := ra) (xs := nI rs) rfl rfl ?_
  refine db_cons (ds_set (i := 11) sc_law.nd <| de_c1 cca hr (by decide) <| da_cons <| de_var (i := 5) rfl <| da_cons <| de_lenL (α := L3) T.len <| de_var (i := 2) rfl <| da_cons <| de_catS <| de_var (i := 8) rfl <| de_lstS (α := Int) <| da_cons <| de_var (i := 7) rfl <| da_nil ⟨[(goal : Int)], rfl, by simp, ?_, ?_⟩)
  · show (nI rs).length + 1 ≤ 10000
    rw [nI_len]; omega
  have hcanon : ∀ {r : Nat}, r ∈ rs ++ [goal] → r < S.N.length := fun {r} hr => by
    rcases List.mem_append.mp hr with z | z
    · exact hrs r z
    · rw [List.mem_singleton.mp z]; exact hgl
  refine da_nil ⟨[], _, parts_none, S.N, n, rs ++ [goal], ?_, ⟨bS.once.args, bS.once.len, fun r hr => hcanon hr, by omega⟩, ?_⟩
  · rw [nI_snoc, rl_len]
  rw [← oLaw]
  refine db_cons (ds_set (i := 13) sc_law.nd <| de_tuple (α := St2) T.tuple <| de_lcL (own := [("row", 12)]) (α := L3) (β := St2) rfl sc_law.nd (blkOk_by (N := ["script", "jar", "letters", "builder", "k", "nodes", "places", "goal", "roots", "j", "problem", "order", "row", "outer", "boxes", "box", "spans", "at", "due"]) (sc := defScope s_law) (by decide +kernel)) (fun (x : L3) δ => δ.set 12 (sl x)) (fun _ _ _ _ _ => pg_name (i := 12) sc_law.nd rfl (Or.inl rfl)) (fun x => wb_name) (by decide)
    (de_var (i := 2) rfl ⟨fun i ys μ' => ys = stOf i l u ∧ μ' = bldM P w C A { S with C := rs, G := some goal } ++ [lst pa (nI (List.range S.N.length)), JarC j g], ⟨rfl, rfl⟩, fun i x ys μ' hx hJ => ?_, fun ys μ' hJ => ?_⟩))
  · obtain ⟨rfl, rfl⟩ := hJ
    obtain ⟨hi, rfl⟩ := range_map_get hx
    intro s H C cl0 fp
    refine de_tup2 (α := Q2) (β := Q2) <| de_t31 (α := Str) (β := Q2) (γ := Q2) <| de_var (i := 12) rfl <| de_t32 (α := Str) (β := Q2) (γ := Q2) <| de_var (i := 12) rfl ⟨?_, ?_, rfl⟩
    · rw [st_len]; omega
    · show stOf i l u ++ [(can (l i), can (u i))] = stOf (i + 1) l u
      unfold stOf; rw [List.range_succ, List.map_append]; rfl
  obtain ⟨rfl, rfl⟩ := hJ
  rw [rl_len]
  refine db_cons (ds_set (i := 14) sc_law.nd <| de_lstN (α := Tup St2) <| da_cons <| de_c1M cin hr (by decide) <| da_cons <| de_var (i := 1) rfl <| da_cons <| de_var (i := 2) rfl <| da_cons <| de_var (i := 13) rfl <| da_nil ⟨bldM P w C A { S with C := rs, G := some goal } ++ [lst pa (nI (List.range S.N.length))], [JarC j g], [], rfl, j, g, n, 5, wk, l, u, l, u, rfl, rfl, ⟨B5, by decide, n6⟩, fun l' u' b' => da_nil ⟨[Tup.mk (stOf n l' u')], rfl, by simp, fun xa => ?_⟩⟩)
  have hall0 : ∀ y, y ∈ [Tup.mk (stOf n l' u')] → ∃ c d, y = Tup.mk (stOf n c d) ∧ BX 53 n wk c d := fun y hy => by
    rw [List.mem_singleton.mp hy]; exact ⟨_, _, rfl, b'⟩
  refine db_cons (DS.mid (fun δ' μ' => ∃ bxs : List (Tup St2), (∀ y, y ∈ bxs → ∃ c d, y = Tup.mk (stOf n c d) ∧ BX 53 n wk c d) ∧ δ' = [sl sc, sl (Ref.mk j), sl (rl n wk l u), sl (Ref.mk A.b), s4, sl S.N, sl (Ref.mk pa), sl (goal : Int), sl (Stl.mk (nI rs)), s9, sl p, sl (Stl.mk (nI o)), .any, sl (Tup.mk (stOf n l u)), sl (Ref.mk xa), .any, .any, .any, .any] ∧ μ' = bldM P w C A { S with C := rs, G := some goal } ++ [lst pa (nI (List.range S.N.length)), JarC j g, lst xa bxs]) ?_ ?_)
  · refine ds_if <| dt_lt <| de_lenL (α := L3) T.len <| de_var (i := 2) rfl <| de_int ⟨fun _ => ?_, fun _ => db_nil ⟨_, hall0, rfl, rfl⟩⟩
    refine db_one (ds_expr (de_append (α := Tup St2) 9 <| de_var (i := 14) rfl ⟨⟨_, rfl⟩, de_var (i := 13) rfl ⟨_, rfl, by simp, [Tup.mk (stOf n l' u'), Tup.mk (stOf n l u)], fun y hy => ?_, rfl, rfl⟩⟩))
    rcases List.mem_cons.mp hy with z | z
    · rw [z]; exact ⟨_, _, rfl, b'⟩
    · rw [List.mem_singleton.mp z]; exact ⟨_, _, rfl, hb⟩
  rintro δ' μ' ⟨bxs, hall, rfl, rfl⟩
  refine db_frz (α := Tup St2) 9 14 (l := xa) (xs := bxs) rfl rfl ?_
  refine db_cons (ds_forL (α := Tup St2) PassesOwn.never rfl (pg_name (i := 15) sc_law.nd rfl (Or.inl rfl)) (fun (x : Tup St2) δ => δ.set 15 (sl x)) (fun x δ' => wg_name) (de_var (i := 14) rfl ⟨fun _ δ' μ' => ∃ s15 s16 s17 s18, δ' = [sl sc, sl (Ref.mk j), sl (rl n wk l u), sl (Ref.mk A.b), s4, sl S.N, sl (Ref.mk pa), sl (goal : Int), sl (Stl.mk (nI rs)), s9, sl p, sl (Stl.mk (nI o)), .any, sl (Tup.mk (stOf n l u)), sl bxs, s15, s16, s17, s18] ∧ μ' = bldM P w C A { S with C := rs, G := some goal } ++ [lst pa (nI (List.range S.N.length)), JarC j g], ⟨_, _, _, _, rfl, rfl⟩, fun i y δ' μ' hy hI => ?_, fun δ' μ' hI => ?_⟩))
  · obtain ⟨s15, s16, s17, s18, rfl, rfl⟩ := hI
    obtain ⟨c, d, rfl, hcd⟩ := hall y (List.mem_of_getElem? hy)
    have oL := ho.1.len
    have oL : o.length ≤ S.N.length := oL
    have hW : Wt40 n S.N := ⟨bS.once, bS.w40, by omega⟩
    refine db_cons (ds_set (i := 16) sc_law.nd <| de_c1 csp hr (by decide) <| da_cons <| de_var (i := 5) rfl <| da_cons <| de_var (i := 15) rfl <| da_nil ⟨[], _, parts_none, n, S.N, wk, c, d, rfl, rfl, ⟨hW, hcd, n6⟩, ?_⟩)
    refine db_cons (ds_lcL (own := [("at", 17)]) (i := 18) (α := Int) (β := St2) rfl sc_law.nd (blkOk_by (N := ["script", "jar", "letters", "builder", "k", "nodes", "places", "goal", "roots", "j", "problem", "order", "row", "outer", "boxes", "box", "spans", "at", "due"]) (sc := defScope s_law) (by decide +kernel)) (fun (x : Int) δ => δ.set 17 (sl x)) (fun _ _ _ _ _ => pg_name (i := 17) sc_law.nd rfl (Or.inl rfl)) (fun x => wb_name) (by decide)
      (de_ofS <| de_var (i := 11) rfl ⟨fun i ys μ' => μ' = [] ++ (bldM P w C A { S with C := rs, G := some goal } ++ [lst pa (nI (List.range S.N.length)), JarC j g]) ∧ ys = (o.take i).map fun t => canS (ev (rgS fun k => (c k, d k)) S.N t), ⟨rfl, rfl⟩, fun i x ys μ' hx hJ => ?_, fun ys μ' hJ => ?_⟩) (sw_true rfl rfl rfl (by decide +kernel)))
    · obtain ⟨rfl, rfl⟩ := hJ
      obtain ⟨t, ht, rfl⟩ := nI_get hx
      have htl : t < S.N.length := ho.1.lt t (List.mem_of_getElem? ht)
      intro s' H' C' cl' fp
      refine de_ixL (α := St2) <| de_var (i := 16) rfl <| de_var (i := 17) rfl ⟨_, atI_nat (by rw [List.getElem?_map, evL_get htl]; rfl), ?_, rfl, (take_snoc ht).symm⟩
      rw [List.length_map, List.length_take]; omega
    obtain ⟨rfl, rfl⟩ := hJ
    rw [show (Stl.mk (nI o)).l.length = o.length from nI_len, List.take_length]
    have eR : (evL (rgS fun k => (c k, d k)) p.nodes).map canS = o.map fun t => canS (ev (rgS fun k => (c k, d k)) S.N t) := by
      rw [hpn, evL_ord bS.once.args ho.ordN, List.map_map]; rfl
    refine db_cons (ds_if <| dt_not <| dt_val <| de_c1 csb hr (by decide) <| da_cons <| de_c1 crg hr (by decide) <| da_cons <| de_var (i := 10) rfl <| da_cons <| de_var (i := 15) rfl <| da_nil ⟨[], _, parts_none, p, stOf n c d, fun k => (c k, d k), rfl, rfl, ⟨by rw [hpn]; exact mvL_lt ho.ordN, by rw [hpn, mvL_len]; omega, fun t ht => by rw [hpn] at ht ⊢; exact bT.nr ho hcd ht⟩, da_cons <| de_var (i := 18) rfl <| da_nil ⟨[], _, parts_none, o.map fun t => canS (ev (rgS fun k => (c k, d k)) S.N t), by rw [eR], by rw [List.length_map]; omega, ⟨fun h => (nomatch h), fun _ => db_nil ?_⟩⟩⟩)
    refine db_one (ds_if (dw_and <| dt_eqD (α := Tup St2) (un_of hr) (by decide) <| de_var (i := 15) rfl <| de_var (i := 13) rfl fun r hr1 => ⟨fun h => ?_, fun h => ⟨fun h => (nomatch h), fun _ => db_nil ⟨_, _, _, _, rfl, rfl⟩⟩⟩).dt)
    have e := hr1.mp h
    have e : stOf n c d = stOf n l u := congrArg Tup.l e
    have same := st_eq e
    refine dw_and1 <| dt_not <| dt_val <| de_c1 csb hr (by decide) <| da_cons <| de_tupleT (α := St2) T.tuple <| de_pfld pk.cls pk.ranges <| de_var (i := 10) rfl ⟨_, rfl, da_cons <| de_var (i := 18) rfl <| da_nil ⟨[], _, parts_none, o.map fun t => canS (ev (rgS fun k => (c k, d k)) S.N t), ?_, by rw [List.length_map]; omega, ⟨fun h => (nomatch h), fun _ => db_nil ⟨_, _, _, _, rfl, rfl⟩⟩⟩⟩
    rw [hpr, List.map_congr_left (l := o) (g := fun t => canS (ev (rgS fun k => (c k, d k)) S.N t)) fun t ht => by
      have htl : t < S.N.length := ho.1.lt t ht
      rw [rg_loc bS.once.args t fun k hk => (same k (bS.once.ls_lt t htl k hk)).symm]]
  obtain ⟨s15, s16, s17, s18, rfl, rfl⟩ := hI
  exact db_one (ds_ret <| de_bl <| q _)
end
end K17
namespace K17
open PySem PySem.Spec PyProof.Rows L2 Dl
theorem facts {P : Program} {w : World} {K : PySem.W.Frag} {h : Heap} {mg : Str → Option Value} {f : Addr} (X : K.In h) (G : h.Ns mainGlobals mg) (hfa : mg ("law" : Str) = some (.ref f)) (c : SaysW biL exL faL fnL K) :
    ∃ fd : FuncData, (∀ (s : Shared) (v : Value), BindsTo s fd ⟨[v], []⟩ [("script", v)]) ∧ ∀ base : Heap, K.In base → base.Ns mainGlobals mg → FnOk P w K mg base CX0 45 f fd ["script"] (spO K phLaw) := by
  obtain ⟨fd, dvs, F, b⟩ := lawfd X G hfa c
  refine ⟨fd, b, fun base _ _ => ?_⟩
  have T : Txt mg := ⟨bi_gcd X G c, fr_range X G c, fr_abs X G c, fr_int X G c, fr_len X G c, fr_isinstance X G c, fr_tuple X G c, fr_bool X G c, fr_str X G c, fr_list X G c⟩
  have pk : PrbK K := ⟨cls_Problem X G c, na_Problem_letters X G c, na_Problem_nodes X G c, na_Problem_ranges X G c, na_Problem_conditions X G c, na_Problem_goal X G c⟩
  have bk : BldK K (He.ga K "Builder") := ⟨cls_Builder X G c, na_Builder_letters X G c, na_Builder_nodes X G c, na_Builder_ranges X G c, na_Builder_weights X G c, na_Builder_conditions X G c, na_Builder_goal X G c, na_Builder__known X G c, co_Builder_MOST_LETTERS X G c, co_Builder_MOST_NODES X G c, co_Builder_MOST_CONDITIONS X G c, co_Builder_MOST_WEIGHT X G c⟩
  have bc : BCon K mg := ⟨⟨_, tt_RESERVED X G c⟩, st_FIRST_SIGNS X G c, st_LATER_SIGNS X G c, in_BEYOND X G c⟩
  have zo : ZO K mg := ⟨⟨_, tu_ZERO X G c⟩, ⟨_, tu_ONE X G c⟩⟩
  have cr := c_ratio (P := P) (w := w) (base := base) (at_ratio X G c) T.gcd
  have crN := c_ratioN (P := P) (w := w) (base := base) (at_ratio X G c) T.gcd
  have cad := c_add (at_add X G c) cr
  have csu := c_sub (at_sub X G c) cr
  have cmu := c_mul (at_mul X G c) cr
  have cdi := c_divN (at_div X G c) crN
  have cne := c_negate (P := P) (w := w) (base := base) (at_negate X G c)
  have csz := c_size (P := P) (w := w) (base := base) (at_size X G c) T.abs
  have cpow := c_power (P := P) (w := w) (base := base) (at_power X G c) T.range
  have cup := c_upto (P := P) (w := w) (base := base) (at_upto X G c)
  have cls := c_lesser (at_lesser X G c) cup
  have cgr := c_greater (at_greater X G c) cup
  have cfl := c_floor (P := P) (w := w) (base := base) (at_floor X G c)
  have cce := c_ceil (P := P) (w := w) (base := base) (at_ceil X G c)
  have cps := c_point_stretch (P := P) (w := w) (base := base) (at_point_stretch X G c)
  have s1 := c_add_stretches (at_add_stretches X G c) cad
  have s2 := c_sub_stretches (at_sub_stretches X G c) csu
  have s3 := c_negate_stretch (at_negate_stretch X G c) cne
  have s4 := c_mul_stretches (at_mul_stretches X G c) cmu cls cgr
  have s5 := c_has_zero (P := P) (w := w) (base := base) (at_has_zero X G c)
  have s6 := c_div_stretches (at_div_stretches X G c) zo cdi s4
  have s7 := c_power_stretch (at_power_stretch X G c) zo cpow cgr
  have s8 := c_abs_stretch (at_abs_stretch X G c) zo cne s3 cgr
  have s9 := c_max_stretches (at_max_stretches X G c) cgr
  have s10 := c_min_stretches (at_min_stretches X G c) cls
  have s11 := c_combine_stretches (at_combine_stretches X G c) s1 s2 s4 s6 s9 s10
  have car := c_arguments (P := P) (w := w) (base := base) (at_arguments X G c)
  have cmv := c_moved_node (P := P) (w := w) (base := base) (at_moved_node X G c)
  have cnw := c_node_weight (P := P) (w := w) (base := base) (at_node_weight X G c)
  have cco := c_combine (at_combine X G c) cad csu cmu cdi cgr cls
  have cwo := c_node_worthD (at_node_worth X G c) csz cpow cco
  have cnr := c_node_range (at_node_range X G c) cps s8 s7 s11
  have cnT := c_node_rangeT (at_node_range X G c) cps s8 s7 s11
  have crg := c_ranges (at_ranges X G c) T.tuple pk cnT
  have ctl := c_too_long (P := P) (w := w) (base := base) (at_too_long X G c) T.abs bc
  have cvn := c_valid_name (P := P) (w := w) (base := base) (at_valid_name X G c) T.len bc
  have cbi := c_binit (P := P) (w := w) (base := base) (at_Builder_init X G c) bk
  have cpl := c_place (at_Builder_place X G c) T.len bk cnw (by decide) cnr
  have cnu := c_number (at_Builder_number X G c) bk ctl cpl
  have cno := c_node (at_Builder_node X G c) (fr_all X G c) bk s5 car cwo cnu cpl
  have cls2 := c_bleast (P := P) (w := w) (mg := mg) (base := base) (at_Builder_least X G c) bk
  have cke := c_keep (P := P) (w := w) (base := base) (at_Builder_keep X G c) T.len bk
  have clt := c_letter (at_Builder_letter X G c) T.len bk cvn cup cce cfl ctl cpl
  have cor := c_order (at_Builder_order X G c) T.len T.range bk car
  have cpi := c_pinit (P := P) (w := w) (base := base) (at_Problem_init X G c) pk
  have cpr := c_problem (at_Builder_problem X G c) T.len T.range T.tuple bk cor cmv cpi
  have cj := c_jar (P := P) (w := w) (base := base) (at_law_jar X G c) T.int
  have cd := c_draw (P := P) (w := w) (base := base) (at_law_draw X G c) T.len T.int
  have clow := c_low (P := P) (w := w) (base := base) (at_law_low X G c) T
  have cplus := c_plus (at_law_plus X G c) clow
  have cminus := c_minus (at_law_minus X G c) clow
  have ctimes := c_times (at_law_times X G c) clow
  have cover := c_over (at_law_over X G c) clow
  have cll := c_lless (P := P) (w := w) (base := base) (at_law_less X G c)
  have clp := c_lplace (at_law_place X G c) cd clow cminus ctimes cplus
  have csn := c_same_number (P := P) (w := w) (base := base) (at_law_same_number X G c) T
  have csb := c_same_boxL (at_law_same_box X G c) T csn
  have clet := c_letters (at_law_letters X G c) T cd clow
  have cinn := c_inner (at_law_inner X G c) T cd clp
  have cpu := c_put (P := P) (w := w) (base := base) (at_law_put X G c) T
  have cva := c_value (at_law_value X G c) cd clow
  have cwn := c_wnum (at_law_with_number X G c) cd cva cpu cnu cno
  have cte := c_term (at_law_term X G c) T cd cpu cwn cno
  have cpa := c_parts (P := P) (w := w) (base := base) (at_law_parts X G c)
  have cnd := c_need (at_law_needed X G c) cpa 40
  have cca := c_canon (at_law_canonical X G c) T cnd
  have cws := c_worths (at_law_worths X G c) cplus cminus ctimes cover
  have csp := c_spans (at_law_corner_spans X G c) T cll cws
  exact f_law F T bk pk cj cd clet cbi clt cke cls2 cpr cte cca cinn csp crg csb
end K17
open PySem PySem.W PySem.Calls PyProof.Rows
set_option maxRecDepth 100000 in
set_option maxHeartbeats 0 in
theorem PySem.Challenge.cw_leastinbox_k17_ranges_exact_once_holds : PySem.Challenge.rw_leastinbox_k17_ranges_exact_once.Holds := by
  w_on; o_law
  refine HandSHeadRun.head_imp (r := OpenLaw.row PySem.Challenge.rw_leastinbox_k17_ranges_exact_once) (q := view (OpenLaw.row PySem.Challenge.rw_leastinbox_k17_ranges_exact_once).prog [0, 80]) (H := K17.hk) (ob := K17.ob) (M := 8000) (loose := (("ZERO" : PySem.Str) :: ("ONE" : PySem.Str) :: ("ratio" : PySem.Str) :: ("add" : PySem.Str) :: ("sub" : PySem.Str) :: ("mul" : PySem.Str) :: ("div" : PySem.Str) :: ("negate" : PySem.Str) :: ("size" : PySem.Str) :: ("power" : PySem.Str) :: ("upto" : PySem.Str) :: ("lesser" : PySem.Str) :: ("greater" : PySem.Str) :: ("floor" : PySem.Str) :: ("ceil" : PySem.Str) :: ("point_stretch" : PySem.Str) :: ("add_stretches" : PySem.Str) :: ("sub_stretches" : PySem.Str) :: ("negate_stretch" : PySem.Str) :: ("mul_stretches" : PySem.Str) :: ("has_zero" : PySem.Str) :: ("div_stretches" : PySem.Str) :: ("power_stretch" : PySem.Str) :: ("abs_stretch" : PySem.Str) :: ("max_stretches" : PySem.Str) :: ("min_stretches" : PySem.Str) :: ("arguments" : PySem.Str) :: ("moved_node" : PySem.Str) :: ("combine" : PySem.Str) :: ("node_worth" : PySem.Str) :: ("combine_stretches" : PySem.Str) :: ("node_range" : PySem.Str) :: ("node_weight" : PySem.Str) :: ("ranges" : PySem.Str) :: ("LeastError" : PySem.Str) :: ("BadName" : PySem.Str) :: ("BadStretch" : PySem.Str) :: ("EmptyRange" : PySem.Str) :: ("BadPower" : PySem.Str) :: ("BadQuotient" : PySem.Str) :: ("NoGoal" : PySem.Str) :: ("TooMany" : PySem.Str) :: ("RESERVED" : PySem.Str) :: ("FIRST_SIGNS" : PySem.Str) :: ("LATER_SIGNS" : PySem.Str) :: ("BEYOND" : PySem.Str) :: ("valid_name" : PySem.Str) :: ("Problem" : PySem.Str) :: ("Builder" : PySem.Str) :: ("too_long" : PySem.Str) :: ("_law_jar" : PySem.Str) :: ("_law_draw" : PySem.Str) :: ("_law_low" : PySem.Str) :: ("_law_less" : PySem.Str) :: ("_law_plus" : PySem.Str) :: ("_law_minus" : PySem.Str) :: ("_law_times" : PySem.Str) :: ("_law_over" : PySem.Str) :: ("_law_place" : PySem.Str) :: ("_law_inner" : PySem.Str) :: ("_law_letters" : PySem.Str) :: ("_law_put" : PySem.Str) :: ("_law_value" : PySem.Str) :: ("_law_with_number" : PySem.Str) :: ("_law_term" : PySem.Str) :: ("_law_parts" : PySem.Str) :: ("_law_needed" : PySem.Str) :: ("_law_canonical" : PySem.Str) :: ("_law_worths" : PySem.Str) :: ("_law_corner_spans" : PySem.Str) :: ("_law_same_number" : PySem.Str) :: ("_law_same_box" : PySem.Str) :: [])) (d := HandSHeadRun.topDef (OpenLaw.row PySem.Challenge.rw_leastinbox_k17_ranges_exact_once).prog 80) (kwd := []) K17.ob_eq
    K17.run (by kernel_rfl) (by kernel_rfl) (by kernel_rfl) (by rfl) (by first | assumption | decide +kernel) (by decide +kernel) ⟨rfl, rfl, rfl, rfl, rfl, by decide +kernel⟩ ?hw ?hc
  case hw => w_witness2
  case hc =>
    refine L2.walk_ofE (l := PySem.Challenge.rw_leastinbox_k17_ranges_exact_once) (n := 63) (k := 45) (x := "script") (CX := L2.CX0) rfl (by decide) (by kernel_rfl) ⟨rfl, by decide, by decide⟩ ?F (fun _ _ _ _ z => z)
    intro w mg fa h Y G hmg0
    obtain ⟨K, KX, c⟩ := Y
    have hmg : mg ("law" : PySem.Str) = some (.ref fa) := by
      have e : (HandSHeadRun.topDef (OpenLaw.row PySem.Challenge.rw_leastinbox_k17_ranges_exact_once).prog 80).name = ("law" : PySem.Str) := by kernel_rfl
      rw [← e]
      exact hmg0
    obtain ⟨fd, hb, hF⟩ := K17.facts (P := (PySem.Challenge.rw_leastinbox_k17_ranges_exact_once).prog) (w := w) KX G hmg c
    exact ⟨K, fd, Dl.spO K Dl.phLaw, KX, hb, fun H a ns hl hO hS => Dl.law_end hO hS, hF⟩
