import PyProof.Rows.All
import Wide.All
import OpenK.AllK
import Wide.FinOn
import HandS.ForMost
import HandS.ForExc
import HandS.Evl
import HandS.Deep
import HandS.Conv
import HandS.Sort
import HandS.SortRule
import HandS.SortInts
import HandS.Wide
import HandS.Walk
import HandS.More
import HandS.Style
import HandS.SetFor
import HandS.IsInst
import KE.IntTextLaws
import PySem.Challenge.RW_movedays_k52_tales_written
set_option Elab.async false
set_option linter.all false
set_option maxRecDepth 100000
set_option maxHeartbeats 4000000
namespace L3
open PySem L2 Evl

/-! ### growth of the known heap F within the heap H -/
structure Stp (F H F' H' : Hp) : Prop where
  ff : Ex F F'
  fh : Ex F' H'
  hh : Ex H H'
  nw : ∀ a o, H a = some o → F' a = F a
section
variable {F H F' H' F2 H2 : Hp} {p : Addr} {o u : HO}
theorem Stp.refl (h : Ex F H) : Stp F H F H := ⟨Ex.refl _, h, Ex.refl _, fun _ _ _ => rfl⟩
theorem Stp.trans (a : Stp F H F' H') (b : Stp F' H' F2 H2) : Stp F H F2 H2 :=
  ⟨a.ff.trans b.ff, b.fh, a.hh.trans b.hh, fun x o h => (b.nw x o (a.hh x o h)).trans (a.nw x o h)⟩
theorem Stp.ext (a : Stp F H F' H') (e : Ex H' H2) : Stp F H F' H2 := ⟨a.ff, a.fh.trans e, a.hh.trans e, a.nw⟩
theorem Stp.of_ex (h : Ex F H) (e : Ex H H') : Stp F H F H' := (Stp.refl h).ext e
/-- a new object, known from now on -/
theorem Stp.new (a : Stp F H F' H') (hp : H' p = none) : Stp F H (upd F' p o) (upd H' p o) := by
  refine ⟨a.ff.trans (Ex.new ?_), fun b q e => ?_, a.hh.trans (Ex.new hp), fun b q e => ?_⟩
  · exact fresh_back a.fh hp
  · by_cases hb : b = p
    · subst hb; rw [upd_same] at e ⊢; exact e
    · rw [upd_ne hb] at e ⊢; exact a.fh b q e
  · have hb : b ≠ p := fun z => by subst z; rw [a.hh _ _ e] at hp; cases hp
    rw [upd_ne hb]; exact a.nw b q e
/-- a new object that stays changeable -/
theorem Stp.own (a : Stp F H F' H') (hp : H' p = none) : Stp F H F' (upd H' p o) := a.ext (Ex.new hp)
/-- a changeable object of ours is written -/
theorem Stp.mut (a : Stp F H F' H') (hp : H p = none) (hf : F' p = none) : Stp F H F' (upd H' p o) :=
  ⟨a.ff, Ex.mut a.fh hf, Ex.mut a.hh hp, a.nw⟩
/-- a changeable object of ours is known from now on -/
theorem Stp.frz (a : Stp F H F' H') (hp : H p = none) (hf : F' p = none) (h : H' p = some o) : Stp F H (upd F' p o) H' := by
  refine ⟨a.ff.trans (Ex.new hf), fun b q e => ?_, a.hh, fun b q e => ?_⟩
  · by_cases hb : b = p
    · subst hb; rw [upd_same] at e; rw [← e]; exact h
    · rw [upd_ne hb] at e; exact a.fh b q e
  · have hb : b ≠ p := fun z => by subst z; rw [hp] at e; cases e
    rw [upd_ne hb]; exact a.nw b q e
theorem Stp.fno (a : Stp F H F' H') (h : H p = some o) (hf : F p = none) : F' p = none := (a.nw p o h).trans hf
/-- one known heap and another, both within H -/
def cup (F G : Hp) : Hp := fun a => match F a with
  | some o => some o
  | none => G a
theorem cup_l : Ex F (cup F F') := fun a o h => by unfold cup; rw [h]
theorem cup_r (hF : Ex F H) (hG : Ex F' H) : Ex F' (cup F F') := fun a o h => by
  unfold cup
  cases e : F a with
  | none => exact h
  | some q =>
    have z := hF a q e
    rw [hG a o h] at z
    exact z.symm
theorem cup_in (hF : Ex F H) (hG : Ex F' H) : Ex (cup F F') H := fun a o h => by
  unfold cup at h
  cases e : F a with
  | none => rw [e] at h; exact hG a o h
  | some q => rw [e] at h; rw [← h]; exact hF a q e
theorem Stp.up (a : Stp F H F' H') (e : Ex F F2) (h2 : Ex F2 H) : Stp F2 H (cup F2 F') H' ∧ Ex F' (cup F2 F') := by
  have h3 : Ex F2 H' := h2.trans a.hh
  refine ⟨⟨cup_l, cup_in h3 a.fh, a.hh, fun x o h => ?_⟩, cup_r h3 a.fh⟩
  unfold cup
  cases q : F2 x with
  | some u => rfl
  | none =>
    show F' x = none
    rw [a.nw x o h]
    cases r : F x with
    | none => rfl
    | some u => rw [e x u r] at q; cases q
end

/-! ### what a value stands for -/
class Rep (α : Type) where
  R : PySem.W.Frag → Hp → V → α → Prop
  mono : ∀ {K : PySem.W.Frag} {F F' : Hp} {v : V} {x : α}, Ex F F' → R K F v x → R K F' v x
open Rep (R)
instance : Rep Int := ⟨fun _ _ v i => v = .int i, fun _ h => h⟩
instance : Rep Bool := ⟨fun _ _ v i => v = .bl i, fun _ h => h⟩
instance : Rep Str := ⟨fun _ _ v i => v = .str i, fun _ h => h⟩
instance : Rep Unit := ⟨fun _ _ v _ => v = .non, fun _ h => h⟩
/-- an object as such -/
instance : Rep V := ⟨fun _ _ v x => v = x, fun _ h => h⟩
inductive All2 {α β : Type} (P : α → β → Prop) : List α → List β → Prop
  | nil : All2 P [] []
  | cons {a b l m} : P a b → All2 P l m → All2 P (a :: l) (b :: m)
theorem All2.imp {α β : Type} {P Q : α → β → Prop} (h : ∀ a b, P a b → Q a b) : ∀ {l : List α} {m : List β}, All2 P l m → All2 Q l m
  | _, _, .nil => .nil
  | _, _, .cons p t => .cons (h _ _ p) (t.imp h)
theorem All2.len {α β : Type} {P : α → β → Prop} : ∀ {l : List α} {m : List β}, All2 P l m → l.length = m.length
  | _, _, .nil => rfl
  | _, _, .cons _ t => by simp [t.len]
theorem All2.get {α β : Type} {P : α → β → Prop} : ∀ {l : List α} {m : List β} {i : Nat} {b : β}, All2 P l m → m[i]? = some b → ∃ a, l[i]? = some a ∧ P a b
  | _, _, _, _, .nil, e => by simp at e
  | _, _, 0, _, .cons p _, e => by simp at e; subst e; exact ⟨_, rfl, p⟩
  | _, _, i + 1, _, .cons _ t, e => by
    obtain ⟨a, h1, h2⟩ := All2.get (i := i) t (by simpa using e)
    exact ⟨a, by simpa using h1, h2⟩
theorem All2.getl {α β : Type} {P : α → β → Prop} : ∀ {l : List α} {m : List β} {i : Nat} {a : α}, All2 P l m → l[i]? = some a → ∃ b, m[i]? = some b ∧ P a b
  | _, _, _, _, .nil, e => by simp at e
  | _, _, 0, _, .cons p _, e => by simp at e; subst e; exact ⟨_, rfl, p⟩
  | _, _, i + 1, _, .cons _ t, e => by
    obtain ⟨a, h1, h2⟩ := All2.getl (i := i) t (by simpa using e)
    exact ⟨a, by simpa using h1, h2⟩
theorem All2.app {α β : Type} {P : α → β → Prop} {l' : List α} {m' : List β} : ∀ {l : List α} {m : List β}, All2 P l m → All2 P l' m' → All2 P (l ++ l') (m ++ m')
  | _, _, .nil, h => h
  | _, _, .cons p t, h => .cons p (t.app h)
theorem All2.of {α β : Type} {P : α → β → Prop} : ∀ {l : List α} {m : List β}, l.length = m.length → (∀ (i : Nat) a b, l[i]? = some a → m[i]? = some b → P a b) → All2 P l m
  | [], [], _, _ => .nil
  | a :: l, b :: m, h, k => .cons (k 0 a b rfl rfl) (All2.of (by simpa using h) fun i x y h1 h2 => k (i + 1) x y (by simpa using h1) (by simpa using h2))
theorem All2.set {α β : Type} {P : α → β → Prop} {a : α} {b : β} (h : P a b) : ∀ {l : List α} {m : List β} (i : Nat), All2 P l m → All2 P (l.set i a) (m.set i b)
  | _, _, _, .nil => .nil
  | _, _, 0, .cons _ t => .cons h t
  | _, _, i + 1, .cons p t => .cons p (t.set h i)
theorem All2.erase {α β : Type} {P : α → β → Prop} : ∀ {l : List α} {m : List β} (i : Nat), All2 P l m → All2 P (l.eraseIdx i) (m.eraseIdx i)
  | _, _, _, .nil => .nil
  | _, _, 0, .cons _ t => t
  | _, _, i + 1, .cons p t => .cons p (t.erase i)
theorem All2.take {α β : Type} {P : α → β → Prop} : ∀ {l : List α} {m : List β} (i : Nat), All2 P l m → All2 P (l.take i) (m.take i)
  | _, _, _, .nil => by simp; exact .nil
  | _, _, 0, .cons p t => .nil
  | _, _, i + 1, .cons p t => .cons p (t.take i)
theorem All2.drop {α β : Type} {P : α → β → Prop} : ∀ {l : List α} {m : List β} (i : Nat), All2 P l m → All2 P (l.drop i) (m.drop i)
  | _, _, _, .nil => by simp; exact .nil
  | _, _, 0, .cons p t => .cons p t
  | _, _, i + 1, .cons p t => t.drop i
theorem all2_ints : ∀ {vs : List V} {xs : List Int}, All2 (fun v i => v = V.int i) vs xs ↔ vs = xs.map V.int := by
  intro vs xs
  constructor
  · intro h
    induction h with
    | nil => rfl
    | cons p t ih => rw [p, ih]; rfl
  · rintro rfl
    induction xs with
    | nil => exact .nil
    | cons a l ih => exact .cons rfl ih
theorem all2_strs : ∀ {vs : List V} {xs : List Str}, All2 (fun v i => v = V.str i) vs xs ↔ vs = xs.map V.str := by
  intro vs xs
  constructor
  · intro h
    induction h with
    | nil => rfl
    | cons p t ih => rw [p, ih]; rfl
  · rintro rfl
    induction xs with
    | nil => exact .nil
    | cons a l ih => exact .cons rfl ih
theorem all2_bls : ∀ {vs : List V} {xs : List Bool}, All2 (fun v i => v = V.bl i) vs xs ↔ vs = xs.map V.bl := by
  intro vs xs
  constructor
  · intro h
    induction h with
    | nil => rfl
    | cons p t ih => rw [p, ih]; rfl
  · rintro rfl
    induction xs with
    | nil => exact .nil
    | cons a l ih => exact .cons rfl ih
instance {α : Type} [Rep α] : Rep (List α) :=
  ⟨fun K F v xs => ∃ a vs, v = .ref a ∧ SqL K F a vs ∧ All2 (R K F) vs xs,
   fun e ⟨a, vs, h1, h2, h3⟩ => ⟨a, vs, h1, ex_l e h2, h3.imp fun _ _ => Rep.mono e⟩⟩
instance {α β : Type} [Rep α] [Rep β] : Rep (α × β) :=
  ⟨fun K F v x => ∃ a u w, v = .ref a ∧ SqT K F a [u, w] ∧ R K F u x.1 ∧ R K F w x.2,
   fun e ⟨a, u, w, h1, h2, h3, h4⟩ => ⟨a, u, w, h1, ex_t e h2, Rep.mono e h3, Rep.mono e h4⟩⟩
instance {α : Type} [Rep α] : Rep (Option α) :=
  ⟨fun K F v x => match x with
    | none => v = .non
    | some y => R K F v y,
   fun {K F F' v x} e h => by cases x with
    | none => exact h
    | some y => exact Rep.mono (α := α) e h⟩

section
variable {K : PySem.W.Frag} {F F' G H H' : Hp} {σ : L2.St} {ta tb te tl : TE} {tt tu : TT}
variable {α β γ : Type} [Rep α] [Rep β] [Rep γ] {x : α} {y : β} {z : γ}

/-- te gives what stands for x, whatever stands behind F and G -/
def EvX (K : PySem.W.Frag) (F G : Hp) (σ : L2.St) (te : TE) (x : α) : Prop :=
  ∀ H, Ex F H → Ex G H → ∀ Q : VK, (∀ v F' H', Stp F H F' H' → R K F' v x → Q v H') → te σ H Q
def EvT (F G : Hp) (σ : L2.St) (tt : TT) (b : Bool) : Prop :=
  ∀ H, Ex F H → Ex G H → ∀ Q : Bool → Hp → Prop, (∀ H', Ex H H' → Q b H') → tt σ H Q
theorem EvX.up (h : EvX K F G σ te x) (e : Ex F F') : EvX K F' G σ te x := fun H e1 e2 Q k =>
  h H (e.trans e1) e2 Q fun v F2 H2 s r => by
    obtain ⟨s2, e3⟩ := s.up e e1
    exact k v _ H2 s2 (Rep.mono e3 r)
theorem EvT.up {b : Bool} (h : EvT F G σ tt b) (e : Ex F F') : EvT F' G σ tt b := fun H e1 e2 Q k => h H (e.trans e1) e2 Q k
theorem EvX.is {x' : α} (h : EvX K F G σ te x) (e : x = x') : EvX K F G σ te x' := e ▸ h
theorem EvT.is {b b' : Bool} (h : EvT F G σ tt b) (e : b = b') : EvT F G σ tt b' := e ▸ h
theorem ev_var {i : Nat} {v : V} (hs : σ[i]? = some (some v)) (h : R K F v x) : EvX K F G σ (tVar i) x := fun H e _ Q k =>
  ⟨v, hs, k v F H (Stp.refl e) h⟩
theorem ev_int {i : Int} : EvX K F G σ (tC (.int i)) i := fun H e _ Q k => k _ F H (Stp.refl e) rfl
theorem ev_bl {b : Bool} : EvX K F G σ (tC (.bl b)) b := fun H e _ Q k => k _ F H (Stp.refl e) rfl
theorem ev_str {b : Str} : EvX K F G σ (tC (.str b)) b := fun H e _ Q k => k _ F H (Stp.refl e) rfl
theorem ev_non : EvX K F G σ (tC .non) () := fun H e _ Q k => k _ F H (Stp.refl e) rfl
theorem ev_none : EvX K F G σ (tC .non) (none : Option α) := fun H e _ Q k => k _ F H (Stp.refl e) rfl
theorem EvX.opt (h : EvX K F G σ te x) : EvX K F G σ te (Option.some x) := fun H e g Q k => h H e g Q k
theorem EvX.unopt (h : EvX K F G σ te (Option.some x)) : EvX K F G σ te x := fun H e g Q k => h H e g Q k

/-- two operands -/
theorem ev_op {r : R2} (ha : EvX K F G σ ta x) (hb : EvX K F G σ tb y)
    (hr : ∀ F1 u w, Ex F F1 → R K F1 u x → R K F1 w y → ∀ H1, Ex F1 H1 → Ex G H1 → ∀ Q : VK, (∀ v F2 H2, Stp F1 H1 F2 H2 → R K F2 v z → Q v H2) → r u w H1 Q) :
    EvX K F G σ (tOp r ta tb) z := fun H e g Q k =>
  ha H e g _ fun u F1 H1 s1 r1 => (hb.up s1.ff) H1 s1.fh (g.trans s1.hh) _ fun w F2 H2 s2 r2 =>
    hr F2 u w (s1.ff.trans s2.ff) (Rep.mono s2.ff r1) r2 H2 s2.fh ((g.trans s1.hh).trans s2.hh) Q fun v F3 H3 s3 r3 => k v F3 H3 ((s1.trans s2).trans s3) r3
theorem ev_un {r : V → Hp → VK → Prop} (ha : EvX K F G σ ta x)
    (hr : ∀ F1 u, Ex F F1 → R K F1 u x → ∀ H1, Ex F1 H1 → Ex G H1 → ∀ Q : VK, (∀ v F2 H2, Stp F1 H1 F2 H2 → R K F2 v z → Q v H2) → r u H1 Q) :
    EvX K F G σ (tUn r ta) z := fun H e g Q k =>
  ha H e g _ fun u F1 H1 s1 r1 => hr F1 u s1.ff r1 H1 s1.fh (g.trans s1.hh) Q fun v F2 H2 s2 r2 => k v F2 H2 (s1.trans s2) r2
theorem ev_I0 {f : Int → Int → V} {i j : Int} {z : γ} (ha : EvX K F G σ ta i) (hb : EvX K F G σ tb j) (hz : ∀ F, R K F (f i j) z) : EvX K F G σ (tOp (rI0 f) ta tb) z :=
  ev_op ha hb fun F1 u w _ h1 h2 H1 e1 _ Q k => ⟨i, j, h1, h2, k _ F1 H1 (Stp.refl e1) (hz F1)⟩
theorem ev_I {f : Int → Int → V} {C : Int → Int → Prop} {i j : Int} {z : γ} (ha : EvX K F G σ ta i) (hb : EvX K F G σ tb j) (hc : C i j) (hz : ∀ F, R K F (f i j) z) : EvX K F G σ (tOp (rI C f) ta tb) z :=
  ev_op ha hb fun F1 u w _ h1 h2 H1 e1 _ Q k => ⟨i, j, h1, h2, hc, k _ F1 H1 (Stp.refl e1) (hz F1)⟩
theorem ev_add {i j : Int} (ha : EvX K F G σ ta i) (hb : EvX K F G σ tb j) : EvX K F G σ (tOp (rI0 fun i j => .int (i + j)) ta tb) (i + j) := ev_I0 ha hb fun _ => rfl
theorem ev_sub {i j : Int} (ha : EvX K F G σ ta i) (hb : EvX K F G σ tb j) : EvX K F G σ (tOp (rI0 fun i j => .int (i - j)) ta tb) (i - j) := ev_I0 ha hb fun _ => rfl
theorem ev_neg {i : Int} (ha : EvX K F G σ ta i) : EvX K F G σ (tUn (rU fun i => .int (-i)) ta) (-i) :=
  ev_un ha fun F1 u _ h1 H1 e1 _ Q k => ⟨i, h1, k _ F1 H1 (Stp.refl e1) rfl⟩
theorem ev_lt {i j : Int} (ha : EvX K F G σ ta i) (hb : EvX K F G σ tb j) : EvX K F G σ (tOp (rI0 fun i j => .bl (decide (i < j))) ta tb) (decide (i < j)) := ev_I0 ha hb fun _ => rfl
theorem ev_le {i j : Int} (ha : EvX K F G σ ta i) (hb : EvX K F G σ tb j) : EvX K F G σ (tOp (rI0 fun i j => .bl (decide (i ≤ j))) ta tb) (decide (i ≤ j)) := ev_I0 ha hb fun _ => rfl
theorem ev_gt {i j : Int} (ha : EvX K F G σ ta i) (hb : EvX K F G σ tb j) : EvX K F G σ (tOp (rI0 fun i j => .bl (decide (j < i))) ta tb) (decide (j < i)) := ev_I0 ha hb fun _ => rfl
theorem ev_ge {i j : Int} (ha : EvX K F G σ ta i) (hb : EvX K F G σ tb j) : EvX K F G σ (tOp (rI0 fun i j => .bl (decide (j ≤ i))) ta tb) (decide (j ≤ i)) := ev_I0 ha hb fun _ => rfl
theorem dec_vint {i j : Int} : decide (V.int i = V.int j) = decide (i = j) := by simp
theorem ev_eqI {i j : Int} (ha : EvX K F G σ ta i) (hb : EvX K F G σ tb j) : EvX K F G σ (tOp rEq ta tb) (decide (i = j)) :=
  ev_op ha hb fun F1 u w _ h1 h2 H1 e1 _ Q k => by
    cases h1; cases h2
    exact ⟨rfl, k _ F1 H1 (Stp.refl e1) (by rw [dec_vint]; rfl)⟩
theorem ev_neI {i j : Int} (ha : EvX K F G σ ta i) (hb : EvX K F G σ tb j) : EvX K F G σ (tOp rNe ta tb) (!decide (i = j)) :=
  ev_op ha hb fun F1 u w _ h1 h2 H1 e1 _ Q k => by
    cases h1; cases h2
    exact ⟨rfl, k _ F1 H1 (Stp.refl e1) (by rw [dec_vint]; rfl)⟩
/-! tests -/
theorem et_test {b : Bool} (h : EvX K F G σ te b) : EvT F G σ (tTest te) b := fun H e g Q k => h H e g _ fun v F' H' s r => ⟨b, r, k H' s.hh⟩
theorem et_B {b : Bool} (h : EvX K F G σ te b) : EvT F G σ (tB te) b := fun H e g Q k => h H e g _ fun v F' H' s r => ⟨b, r, k H' s.hh⟩
theorem et_yes : EvT F G σ tYes true := fun H _ _ Q k => k H (Ex.refl H)
theorem et_and {a b : Bool} (h1 : EvT F G σ tt a) (h2 : a = true → EvT F G σ tu b) : EvT F G σ (tAnd tt tu) (a && b) := fun H e g Q k => h1 H e g _ fun H1 e1 => by
  cases a with
  | true => exact h2 rfl H1 (e.trans e1) (g.trans e1) Q fun H2 e2 => k H2 (e1.trans e2)
  | false => exact k H1 e1
theorem et_or {a b : Bool} (h1 : EvT F G σ tt a) (h2 : a = false → EvT F G σ tu b) : EvT F G σ (tOr tt tu) (a || b) := fun H e g Q k => h1 H e g _ fun H1 e1 => by
  cases a with
  | true => exact k H1 e1
  | false => exact h2 rfl H1 (e.trans e1) (g.trans e1) Q fun H2 e2 => k H2 (e1.trans e2)
theorem et_not {a : Bool} (h : EvT F G σ tt a) : EvT F G σ (tNot tt) (!a) := fun H e g Q k => h H e g _ fun H1 e1 => k H1 e1
theorem ev_if {b : Bool} {x1 x2 : α} (h : EvT F G σ tt b) (h1 : b = true → EvX K F G σ ta x1) (h2 : b = false → EvX K F G σ tb x2) : EvX K F G σ (tIf tt ta tb) (if b = true then x1 else x2) := fun H e g Q k => h H e g _ fun H1 e1 => by
  cases b with
  | true =>
    show ta σ H1 Q
    exact h1 rfl H1 (e.trans e1) (g.trans e1) Q fun v F2 H2 s r => k v F2 H2 ((Stp.of_ex e e1).trans s) r
  | false =>
    show tb σ H1 Q
    exact h2 rfl H1 (e.trans e1) (g.trans e1) Q fun v F2 H2 s r => k v F2 H2 ((Stp.of_ex e e1).trans s) r
theorem ev_andV {a b : Bool} (h1 : EvX K F G σ ta a) (h2 : a = true → EvX K F G σ tb b) : EvX K F G σ (tAndV ta tb) (a && b) := fun H e g Q k => h1 H e g _ fun v F1 H1 s1 r1 => ⟨a, r1, by
  cases a with
  | true => exact h2 rfl H1 (e.trans s1.hh) (g.trans s1.hh) Q fun v F2 H2 s2 r2 => k v F2 H2 ((Stp.of_ex e s1.hh).trans s2) r2
  | false => exact k _ F1 H1 s1 rfl⟩
theorem ev_orV {a b : Bool} (h1 : EvX K F G σ ta a) (h2 : a = false → EvX K F G σ tb b) : EvX K F G σ (tOrV ta tb) (a || b) := fun H e g Q k => h1 H e g _ fun v F1 H1 s1 r1 => ⟨a, r1, by
  cases a with
  | true => exact k _ F1 H1 s1 rfl
  | false => exact h2 rfl H1 (e.trans s1.hh) (g.trans s1.hh) Q fun v F2 H2 s2 r2 => k v F2 H2 ((Stp.of_ex e s1.hh).trans s2) r2⟩
theorem ev_notV {a : Bool} (h1 : EvX K F G σ ta a) : EvX K F G σ (tNotV ta) (!a) := fun H e g Q k => h1 H e g _ fun v F1 H1 s1 r1 => ⟨a, r1, k _ F1 H1 s1 rfl⟩

/-! lists, tuples -/
theorem ev_pair {tr : TA} (ha : EvX K F G σ ta x) (hb : EvX K F G σ tb y) : EvX K F G σ (tTup (tCons ta (tCons tb tNil))) (x, y) := fun H e g Q k =>
  ha H e g _ fun u F1 H1 s1 r1 => (hb.up s1.ff) H1 s1.fh (g.trans s1.hh) _ fun w F2 H2 s2 r2 =>
    ⟨by show 2 ≤ sizeLine; decide, fun p hp => k _ _ _ ((s1.trans s2).new hp) ⟨p, u, w, rfl, SqT.of upd_same, Rep.mono (s2.ff.trans (Ex.new (fresh_back s2.fh hp))) r1, Rep.mono (Ex.new (fresh_back s2.fh hp)) r2⟩⟩
/-- the items of a display -/
def EvL (K : PySem.W.Frag) (F G : Hp) (σ : L2.St) (ta : TA) (xs : List α) : Prop :=
  ∀ H, Ex F H → Ex G H → ∀ Q : List V → Hp → Prop, (∀ vs F' H', Stp F H F' H' → All2 (R K F') vs xs → Q vs H') → ta σ H Q
theorem el_nil : EvL K F G σ tNil ([] : List α) := fun H e g Q k => k [] F H (Stp.refl e) .nil
theorem el_cons {tr : TA} {xs : List α} (h : EvX K F G σ te x) (hr : EvL K F G σ tr xs) : EvL K F G σ (tCons te tr) (x :: xs) := fun H e g Q k =>
  h H e g _ fun u F1 H1 s1 r1 => hr H1 (e.trans s1.hh) (g.trans s1.hh) _ fun vs F2 H2 s2 r2 => by
    obtain ⟨s3, e3⟩ := s2.up s1.ff s1.fh
    exact k _ _ _ (s1.trans s3) (.cons (Rep.mono s3.ff r1) (r2.imp fun _ _ => Rep.mono e3))
theorem ev_lst {tr : TA} {xs : List α} (h : EvL K F G σ tr xs) (hl : xs.length ≤ 100000) : EvX K F G σ (tLst tr) xs := fun H e g Q k =>
  h H e g _ fun vs F1 H1 s1 r1 => ⟨by rw [r1.len]; exact sz_of hl, fun p hp => k _ _ _ (s1.new hp) ⟨p, vs, rfl, SqL.of upd_same, r1.imp fun _ _ => Rep.mono (Ex.new (fresh_back s1.fh hp))⟩⟩
theorem ev_nillst : EvX K F G σ (tLst tNil) ([] : List α) := ev_lst el_nil (Nat.zero_le _)
theorem ixN_all2 {xs : List α} {vs : List V} {i : Int} (h : All2 (R K F) vs xs) (ha : atI xs i = some x) : ∃ v, atI vs i = some v ∧ R K F v x := by
  unfold atI at ha ⊢
  rw [h.len]
  cases q : ixN xs.length i with
  | none => rw [q] at ha; cases ha
  | some j =>
    rw [q] at ha
    exact h.get ha
theorem ev_ixL {xs : List α} {i : Int} (ha : EvX K F G σ ta xs) (hb : EvX K F G σ tb i) (hx : atI xs i = some x) : EvX K F G σ (tOp (rIxL K) ta tb) x :=
  ev_op ha hb fun F1 u w _ h1 h2 H1 e1 _ Q k => by
    obtain ⟨a, vs, rfl, hs, hv⟩ := h1
    obtain ⟨v, hv1, hv2⟩ := ixN_all2 hv hx
    exact ⟨a, vs, i, v, rfl, h2, ex_l e1 hs, hv1, k _ F1 H1 (Stp.refl e1) hv2⟩
end
end L3

namespace L3
open PySem L2 Evl
open Rep (R)
section
variable {K : PySem.W.Frag} {F F' G H H' : Hp} {σ : L2.St} {ta tb te tl : TE} {tt tu : TT}
variable {α β γ : Type} [Rep α] [Rep β] [Rep γ] {x : α} {y : β} {z : γ}

/-! ### what a for walks -/
def WalkX (K : PySem.W.Frag) (F : Hp) (J : It) (xs : List α) : Prop :=
  ∃ (Gd : Hp → Prop) (Y : Nat → Hp → V → Hp → Prop), Walk J xs.length Gd Y ∧ (∀ H, Ex F H → Gd H) ∧
    ∀ i H v H', Ex F H → i < xs.length → Y i H v H' → ∃ x, xs[i]? = some x ∧ ∃ F', Stp F H F' H' ∧ R K F' v x
def IT (K : PySem.W.Frag) (F G : Hp) (σ : L2.St) (wi : TI) (xs : List α) : Prop :=
  ∀ H, Ex F H → Ex G H → ∀ Rr : It → Hp → Prop, (∀ J F' H', Stp F H F' H' → WalkX K F' J xs → Rr J H') → wi σ H Rr
theorem WalkX.up {J : It} {xs : List α} (h : WalkX K F J xs) (e : Ex F F') : WalkX K F' J xs := by
  obtain ⟨Gd, Y, w, h1, h2⟩ := h
  refine ⟨Gd, Y, w, fun H e1 => h1 H (e.trans e1), fun i H v H' e1 hi y => ?_⟩
  obtain ⟨x, hx, F1, s, r⟩ := h2 i H v H' (e.trans e1) hi y
  obtain ⟨s2, e3⟩ := s.up e e1
  exact ⟨x, hx, _, s2, Rep.mono e3 r⟩
theorem it_list {xs : List α} (h : EvX K F G σ tl xs) : IT K F G σ (iList K tl) xs := fun H e g Rr k =>
  h H e g _ fun v F' H' s r => by
    obtain ⟨a, vs, rfl, h1, h2⟩ := r
    refine ⟨a, rfl, ⟨vs, ex_l s.fh h1⟩, k _ F' H' s ⟨fun H => SqL K H a vs, YAt vs, by rw [← h2.len]; exact walk_list, fun H2 e2 => ex_l e2 h1, fun i H2 v H3 e2 _ y => ?_⟩⟩
    obtain ⟨rfl, hv⟩ := y
    obtain ⟨x, hx, r⟩ := h2.getl hv
    exact ⟨x, hx, F', Stp.refl e2, r⟩
/-- the ints below n -/
def rng (n : Int) : List Int := (List.range n.toNat).map fun (i : Nat) => (i : Int)
def rng2 (a b : Int) : List Int := (List.range (b - a).toNat).map fun (i : Nat) => a + (i : Int)
theorem rng_len (n : Int) : (rng n).length = n.toNat := by simp [rng]
theorem rng2_len (a b : Int) : (rng2 a b).length = (b - a).toNat := by simp [rng2]
theorem mem_rng {n i : Int} : i ∈ rng n ↔ 0 ≤ i ∧ i < n := by
  simp only [rng, List.mem_map, List.mem_range]
  constructor
  · rintro ⟨k, h, rfl⟩; omega
  · rintro ⟨h1, h2⟩; exact ⟨i.toNat, by omega, by omega⟩
theorem mem_rng2 {a b i : Int} : i ∈ rng2 a b ↔ a ≤ i ∧ i < b := by
  simp only [rng2, List.mem_map, List.mem_range]
  constructor
  · rintro ⟨k, h, rfl⟩; omega
  · rintro ⟨h1, h2⟩; exact ⟨(i - a).toNat, by omega, by omega⟩
theorem rng_get {n : Int} {i : Nat} (h : i < n.toNat) : (rng n)[i]? = some (i : Int) := by simp [rng, h]
theorem rng2_get {a b : Int} {i : Nat} (h : i < (b - a).toNat) : (rng2 a b)[i]? = some (a + (i : Int)) := by simp [rng2, h]
theorem it_rng1 {n : Int} (h : EvX K F G σ te n) (hn : -1000000000 ≤ n ∧ n ≤ 1000000000) : IT K F G σ (iRng1 (tCons te tNil)) (rng n) := fun H e g Rr k =>
  h H e g _ fun v F' H' s r => by
    cases r
    refine ⟨n, rfl, by omega, by omega, k _ F' H' s ⟨fun _ => True, YFn fun i => .int (0 + i), by rw [rng_len]; exact walk_range, fun _ _ => trivial, fun i H2 v H3 e2 hi y => ?_⟩⟩
    obtain ⟨rfl, rfl⟩ := y
    rw [rng_len] at hi
    refine ⟨(i : Int), rng_get hi, F', Stp.refl e2, ?_⟩
    show V.int (0 + (i : Int)) = V.int (i : Int)
    rw [Int.zero_add]
theorem it_rng2 {a b : Int} (h1 : EvX K F G σ ta a) (h2 : EvX K F G σ tb b) (hn : -1000000000 ≤ a ∧ a ≤ 1000000000 ∧ -1000000000 ≤ b ∧ b ≤ 1000000000) : IT K F G σ (iRng2 (tCons ta (tCons tb tNil))) (rng2 a b) := fun H e g Rr k =>
  h1 H e g _ fun v F1 H1 s1 r1 => (h2.up s1.ff) H1 s1.fh (g.trans s1.hh) _ fun w F2 H2 s2 r2 => by
    cases r1; cases r2
    refine ⟨a, b, rfl, by omega, k _ F2 H2 (s1.trans s2) ⟨fun _ => True, YFn fun i => .int (a + i), by rw [rng2_len]; exact walk_range, fun _ _ => trivial, fun i H2 v H3 e2 hi y => ?_⟩⟩
    obtain ⟨rfl, rfl⟩ := y
    rw [rng2_len] at hi
    exact ⟨a + (i : Int), rng2_get hi, F2, Stp.refl e2, rfl⟩
/-- pairs (i, x) -/
def enu (xs : List α) : List (Int × α) := xs.zipIdx.map fun p => ((p.2 : Int), p.1)
theorem enu_len (xs : List α) : (enu xs).length = xs.length := by simp [enu]
theorem enu_get {xs : List α} {i : Nat} (h : xs[i]? = some x) : (enu xs)[i]? = some ((i : Int), x) := by simp [enu, List.getElem?_zipIdx, h]
theorem it_enum {xs : List α} (h : EvX K F G σ tl xs) : IT K F G σ (iEnum K (tCons tl tNil)) (enu xs) := fun H e g Rr k =>
  h H e g _ fun v F' H' s r => by
    obtain ⟨a, vs, rfl, h1, h2⟩ := r
    refine ⟨a, vs, rfl, ex_l s.fh h1, k _ F' H' s ⟨fun H => SqL K H a vs, _, by rw [enu_len, ← h2.len]; exact walk_enum, fun H2 e2 => ex_l e2 h1, fun i H2 v H3 e2 _ y => ?_⟩⟩
    obtain ⟨T, u, w, rfl, hT, rfl, h3, h4⟩ := y
    cases h3
    obtain ⟨x, hx, r⟩ := h2.getl h4
    refine ⟨((i : Int), x), enu_get hx, _, (Stp.refl e2).new hT, T, _, w, rfl, SqT.of upd_same, rfl, Rep.mono (Ex.new (fresh_back e2 hT)) r⟩
theorem it_zip {xs : List α} {ys : List β} (ha : EvX K F G σ ta xs) (hb : EvX K F G σ tb ys) : IT K F G σ (iZip K (tCons ta (tCons tb tNil))) (xs.zip ys) := fun H e g Rr k =>
  ha H e g _ fun v F1 H1 s1 r1 => (hb.up s1.ff) H1 s1.fh (g.trans s1.hh) _ fun w F2 H2 s2 r2 => by
    obtain ⟨a, vs, rfl, h1, h2⟩ := Rep.mono s2.ff r1
    obtain ⟨b, ws, rfl, h3, h4⟩ := r2
    refine ⟨a, b, vs, ws, rfl, ex_l s2.fh h1, ex_l s2.fh h3, k _ F2 H2 (s1.trans s2) ⟨fun H => SqL K H a vs ∧ SqL K H b ws, _, walk_zip (by rw [List.length_zip, h2.len, h4.len]), fun H2 e2 => ⟨ex_l e2 h1, ex_l e2 h3⟩, fun i H2 v H3 e2 _ y => ?_⟩⟩
    obtain ⟨T, u, w, rfl, hT, rfl, q1, q2⟩ := y
    obtain ⟨x, hx, r⟩ := h2.getl q1
    obtain ⟨y, hy, r'⟩ := h4.getl q2
    refine ⟨(x, y), by rw [List.getElem?_zip_eq_some]; exact ⟨hx, hy⟩, _, (Stp.refl e2).new hT, T, u, w, rfl, SqT.of upd_same, Rep.mono (Ex.new (fresh_back e2 hT)) r, Rep.mono (Ex.new (fresh_back e2 hT)) r'⟩

/-! ### targets -/
def Tgt (K : PySem.W.Frag) (g : TG) (B : Hp → α → L2.St → L2.St → Prop) : Prop :=
  ∀ v x σ F H, R K F v x → Ex F H → ∀ Q : L2.St → Hp → Prop, (∀ σ', B F x σ σ' → Q σ' H) → g v σ H Q
def BN (K : PySem.W.Frag) (α : Type) [Rep α] (i : Nat) : Hp → α → L2.St → L2.St → Prop := fun F x σ σ' => ∃ v, R K F v x ∧ σ' = σ.set i (some v)
def BP (K : PySem.W.Frag) (α β : Type) [Rep α] [Rep β] (i j : Nat) : Hp → α × β → L2.St → L2.St → Prop := fun F x σ σ' => ∃ u w, R K F u x.1 ∧ R K F w x.2 ∧ σ' = (σ.set i (some u)).set j (some w)
theorem tgt_n {i : Nat} : Tgt K (gName i) (BN K α i) := fun v x σ F H r e Q k => k _ ⟨v, r, rfl⟩
theorem tgt_p {i j : Nat} : Tgt K (gTup K 2 (gCons (gName i) (gCons (gName j) gNil))) (BP K α β i j) := fun v x σ F H r e Q k => by
  obtain ⟨a, u, w, rfl, h1, h2, h3⟩ := r
  exact ⟨a, [u, w], rfl, ex_t e h1, rfl, u, [w], rfl, w, [], rfl, rfl, k _ ⟨u, w, h2, h3, rfl⟩⟩

/-! ### comprehensions -/
theorem ev_lc {wi : TI} {g : TG} {vs : List Nat} {xs : List α} {B : Hp → α → L2.St → L2.St → Prop} (f : α → Bool) (ee : α → β) (hi : IT K F G σ wi xs) (hg : Tgt K g B) (hn : xs.length ≤ 100000)
    (hw : ∀ F' x σ', B F' x (wipe σ vs) σ' → wipe σ' vs = wipe σ vs)
    (ht : ∀ F' x σ', x ∈ xs → Ex F F' → B F' x (wipe σ vs) σ' → EvT F' G σ' tt (f x))
    (he : ∀ F' x σ', x ∈ xs → f x = true → Ex F F' → B F' x (wipe σ vs) σ' → EvX K F' G σ' te (ee x)) :
    EvX K F G σ (tLc wi g tt te vs) ((xs.filter f).map ee) := fun H0 e0 g0 Q k =>
  hi H0 e0 g0 _ fun J F1 H1 s1 wx D hD => by
    obtain ⟨Gd, Y, w, hgd, hy⟩ := id wx
    have g1 : Ex G H1 := g0.trans s1.hh
    refine lc_it w (fun i H => ∃ F' acc, Stp F1 H1 F' H ∧ F' D = none ∧ H D = some (.lst acc) ∧ All2 (R K F') acc (((xs.take i).filter f).map ee))
      ⟨F1, [], (Stp.refl s1.fh).own hD, fresh_back s1.fh hD, upd_same, by simp; exact .nil⟩
      (fun i H _ ⟨F', acc, s, _⟩ => hgd H (s.ff.trans s.fh)) ?_ ?_
    · rintro i v H H' hin ⟨F', acc, s, fD, hDa, ha⟩ y
      obtain ⟨Gd', Y', w', hgd', hy'⟩ := id (wx.up s.ff)
      obtain ⟨x, hx, F2, s2, r2⟩ := hy i H v H' (s.ff.trans s.fh) hin y
      obtain ⟨s3, e3⟩ := s2.up s.ff s.fh
      have r3 := Rep.mono e3 r2
      have hDa' : H' D = some (.lst acc) := s3.hh D _ hDa
      have fD' : cup F' F2 D = none := s3.fno hDa fD
      have s4 := s.trans s3
      have hxm : x ∈ xs := List.mem_of_getElem? hx
      have ht1 : xs.take (i + 1) = xs.take i ++ [x] := by
        rw [List.take_add_one, hx]; rfl
      have hlen : acc.length < sizeLine := by
        have h1 := ha.len
        have h2 : (((xs.take i).filter f).map ee).length ≤ i := by
          rw [List.length_map]
          exact Nat.le_trans (List.length_filter_le _ _) (by rw [List.length_take]; exact Nat.min_le_left _ _)
        exact Nat.lt_of_lt_of_le (show acc.length < 100000 by omega) (by decide)
      refine hg v x _ (cup F' F2) H' r3 s3.fh _ fun σ' hb => ⟨hw _ _ _ hb, ?_⟩
      refine ht _ x σ' hxm (s1.ff.trans s4.ff) hb H' s3.fh (g1.trans s4.hh) _ fun H3 e3 => ?_
      cases hf : f x with
      | false =>
        show ∃ F' acc, _
        refine ⟨cup F' F2, acc, s4.ext e3, fD', e3 D _ hDa', ?_⟩
        rw [ht1, List.filter_append, List.filter_cons_of_neg (by rw [hf]; decide)]
        simp only [List.filter_nil, List.append_nil]
        exact ha.imp fun _ _ => Rep.mono s3.ff
      | true =>
        show te σ' H3 _
        refine he _ x σ' hxm hf (s1.ff.trans s4.ff) hb H3 (s3.fh.trans e3) ((g1.trans s4.hh).trans e3) _ fun u F5 H5 s5 r5 => ?_
        have s6 := (s4.ext e3).trans s5
        have hD5 := s5.hh D _ (e3 D _ hDa')
        have fD5 : F5 D = none := s5.fno (e3 D _ hDa') fD'
        refine ⟨acc, hD5, hlen, F5, acc ++ [u], s6.mut hD fD5, fD5, upd_same, ?_⟩
        rw [ht1, List.filter_append, List.map_append, List.filter_cons_of_pos (by rw [hf])]
        exact (ha.imp fun _ _ => Rep.mono (s3.ff.trans s5.ff)).app (.cons r5 .nil)
    · rintro H ⟨F', acc, s, fD, hDa, ha⟩
      rw [List.take_length] at ha
      exact k (.ref D) _ H (s1.trans (s.frz hD fD hDa)) ⟨D, acc, rfl, SqL.of upd_same, ha.imp fun _ _ => Rep.mono (Ex.new fD)⟩
theorem filter_true (xs : List α) : xs.filter (fun _ => true) = xs := List.filter_eq_self.mpr fun _ _ => rfl
theorem ev_lcy {wi : TI} {g : TG} {vs : List Nat} {xs : List α} {B : Hp → α → L2.St → L2.St → Prop} (ee : α → β) (hi : IT K F G σ wi xs) (hg : Tgt K g B) (hn : xs.length ≤ 100000)
    (hw : ∀ F' x σ', B F' x (wipe σ vs) σ' → wipe σ' vs = wipe σ vs)
    (he : ∀ F' x σ', x ∈ xs → Ex F F' → B F' x (wipe σ vs) σ' → EvX K F' G σ' te (ee x)) :
    EvX K F G σ (tLc wi g tYes te vs) (xs.map ee) :=
  (ev_lc (fun _ => true) ee hi hg hn hw (fun _ _ _ _ _ _ => et_yes) (fun F' x σ' h1 _ h2 h3 => he F' x σ' h1 h2 h3)).is (by rw [filter_true])
end
end L3

namespace L3
open PySem L2 Evl PyProof.Rows

/-! ### rules put together: what an operator does is chosen at the reading -/
theorem PE.or {X : Cx} {e : Expr} {t u : TE} (h : PE X e t) (h' : PE X e u) : PE X e (fun σ H Q => t σ H Q ∨ u σ H Q) :=
  ⟨fun pins s σ H Q I hw => hw.elim (h.run pins s σ H Q I) (h'.run pins s σ H Q I)⟩
section
variable {X : Cx}
def rAddS : R2 := fun x y H Q => ∃ i j, x = .str i ∧ y = .str j ∧ i.length + j.length ≤ sizeLine ∧ Q (.str (i ++ j)) H
def rAddA : R2 := fun x y H Q => (rI0 fun i j => .int (i + j)) x y H Q ∨ rAddS x y H Q ∨ L2.rCat x y H Q
theorem op_addA : OpR X (binaryOp .Add) rAddA := op_add.or (op_add_str.or op_cat)
def CPowW (i j : Int) : Prop := 0 ≤ j ∧ (Builtin.Int.intBits i : Int) * j ≤ 2 ^ 27
def rPowW : R2 := rI CPowW fun i j => .int (i ^ j.toNat)
theorem op_powW : OpR X (binaryOp .Pow) rPowW := opI fun _ _ _ _ _ _ _ hc q => pow_int hc.1 hc.2 q
def rEqA (K : PySem.W.Frag) : R2 := fun x y H Q => rEq x y H Q ∨ rEqD K x y H Q
def rNeA (K : PySem.W.Frag) : R2 := fun x y H Q => rNe x y H Q ∨ rNeD K x y H Q
theorem op_eqA (hu : X.A.units + 64 < cLine) : OpR X (compareOp .Eq) (rEqA X.K) := op_eq.or (op_eqD hu)
theorem op_neA (hu : X.A.units + 64 < cLine) : OpR X (compareOp .NotEq) (rNeA X.K) := op_ne.or (op_neD hu)
def rDIn : R2 := fun y x H Q => ∃ a o, x = .ref a ∧ DGet H a y o ∧ Q (.bl o.isSome) H
def rDNotIn : R2 := fun y x H Q => ∃ a o, x = .ref a ∧ DGet H a y o ∧ Q (.bl (!o.isSome)) H
theorem op_din (hu : X.A.units + 1 < cLine) : OpR X (compareOp .In) rDIn := fun pins s σ H x y v u Q I rx ry h => by
  obtain ⟨a, o, rfl, g, q⟩ := h
  cases ry
  exact d_in hu I g rx fun s' I' => ⟨.bl _, H, I', rfl, q⟩
theorem op_dnotin (hu : X.A.units + 1 < cLine) : OpR X (compareOp .NotIn) rDNotIn := fun pins s σ H x y v u Q I rx ry h => by
  obtain ⟨a, o, rfl, g, q⟩ := h
  cases ry
  exact d_notIn hu I g rx fun s' I' => ⟨.bl _, H, I', rfl, q⟩
def rInS : R2 := fun x y H Q => ∃ (c : Nat) (z : Str), x = .str ⟨#[c]⟩ ∧ y = .str z ∧ Q (.bl (decide (c ∈ z.cps.toList))) H
def rInA (K : PySem.W.Frag) : R2 := fun x y H Q => rDIn x y H Q ∨ rIn K false x y H Q ∨ rInD K x y H Q ∨ rInS x y H Q
def rNotInA (K : PySem.W.Frag) : R2 := fun x y H Q => rDNotIn x y H Q ∨ rIn K true x y H Q ∨ rNotInD K x y H Q
theorem hu65 {k : Nat} {A : Around} (hr : Room k A) : A.units + 65 < cLine := by have := hr.un; omega
theorem op_inA {k : Nat} (hr : Room k X.A) : OpR X (compareOp .In) (rInA X.K) := (op_din (hu_of hr)).or (op_in_seq.or ((op_inD (hu65 hr)).or op_in_sign))
theorem op_notInA {k : Nat} (hr : Room k X.A) : OpR X (compareOp .NotIn) (rNotInA X.K) := (op_dnotin (hu_of hr)).or (op_notIn_seq.or (op_notInD (hu65 hr)))
def tIx (K : PySem.W.Frag) (ta tb : TE) : TE := fun σ H Q => tOp (rIx K) ta tb σ H Q ∨ tDGet ta tb σ H Q
theorem pe_ixA {a b : Expr} {pos : Pos} {ta tb : TE} {k : Nat} (hr : Room k X.A) (ha : PE X a ta) (hb : PE X b tb) (hs : PlainIx b) : PE X (.Subscript a b pos) (tIx X.K ta tb) :=
  PE.or (pe_ix ix_seq ha hb hs) (pe_dget (hu_of hr) ha hb hs)
def rSlA (K : PySem.W.Frag) : V → Option Int → Option Int → Hp → VK → Prop := fun x lo hi H Q => rSlL K x lo hi H Q ∨ rSlT K x lo hi H Q
theorem sl_any : SlR X (rSlA X.K) := sl_list.or sl_tup
def rLen (K : PySem.W.Frag) : List V → Hp → VK → Prop := fun xs H Q => ∃ x n, xs = [x] ∧ LenV K x H n ∧ Q (.int (n : Int)) H
def rLenD : List V → Hp → VK → Prop := fun xs H Q => ∃ p kvs, xs = [.ref p] ∧ Rd H p (.dK kvs) ∧ Q (.int (kvs.length : Int)) H
theorem call_lenDr : CallR X (.builtin "len") rLenD := fun pins s σ H xs us Q I rx h => by
  obtain ⟨p, kvs, rfl, e, q⟩ := h
  obtain rfl := Vals.ref1 rx
  exact d_len I e fun t s' I' => ⟨.int _, H, I', ⟨_, rfl⟩, q⟩
def rLenA (K : PySem.W.Frag) : List V → Hp → VK → Prop := fun xs H Q => rLen K xs H Q ∨ rLenD xs H Q
theorem call_lenA : CallR X (.builtin "len") (rLenA X.K) := CallR.or call_len call_lenDr
def rListS (K : PySem.W.Frag) : List V → Hp → VK → Prop := fun xs H Q => ∃ p ys, xs = [.ref p] ∧ (SqL K H p ys ∨ SqT K H p ys) ∧ ∀ l, H l = none → Q (.ref l) (upd H l (.lst ys))
def rListA (K : PySem.W.Frag) : List V → Hp → VK → Prop := fun xs H Q => rListS K xs H Q ∨ rListD xs H Q
theorem call_listA (hc : X.calm = true) : CallR X (.type "list") (rListA X.K) := CallR.or call_list_of (call_list_dK hc)
def rTupS (K : PySem.W.Frag) : List V → Hp → VK → Prop := fun xs H Q => ∃ p ys, xs = [.ref p] ∧ ((SqL K H p ys ∧ ∀ l, H l = none → Q (.ref l) (upd H l (.tup ys))) ∨ (SqT K H p ys ∧ Q (.ref p) H))
theorem call_tupA : CallR X (.type "tuple") (rTupS X.K) := call_tuple_of
def rSortA (K : PySem.W.Frag) : List V → Hp → VK → Prop := fun xs H Q => rSortedI K xs H Q ∨ rSortedPO K xs H Q
theorem call_sortA : CallR X (.builtin "sorted") (rSortA X.K) := CallR.or cr_sortedI cr_sortedPO
def rMax2 : List V → Hp → VK → Prop := fun xs H Q => ∃ i j, xs = [.int i, .int j] ∧ Q (.int (if j > i then j else i)) H
def rMin2 : List V → Hp → VK → Prop := fun xs H Q => ∃ i j, xs = [.int i, .int j] ∧ Q (.int (if j < i then j else i)) H
theorem call_max2' (hc : X.calm = true) : CallR X (.builtin "max") rMax2 := call_max2 hc
theorem call_min2' (hc : X.calm = true) : CallR X (.builtin "min") rMin2 := call_min2 hc
def rAbs : List V → Hp → VK → Prop := fun xs H Q => ∃ i, xs = [.int i] ∧ Q (.int (if i < 0 then -i else i)) H
theorem call_abs' : CallR X (.builtin "abs") rAbs := call_abs
end

/-! ### defs, methods, classes as they are called -/
section
variable (P : Program) (w : World) (K : PySem.W.Frag) (mg : Str → Option Value) (base : Heap) (CX : CXT)
structure Cal (k : Nat) (x : Str) (st : Stmt) (ps : List Str) (sp : Sp) : Prop where
  ex : ∃ f fd, mg x = some (.ref f) ∧ Fun K x x st f fd ∧ Binds K fd ps [] ∧ FnOk P w K mg base CX k f fd ps sp
structure MCal (C : Addr) (k : Nat) (m : Str) (ps : List Str) (sp : Sp) : Prop where
  cl : Cls K C
  ex : ∃ f fd, Meth K C m f ∧ Binds K fd ps [] ∧ FnOk P w K mg base CX k f fd ps sp
structure NCal (C : Addr) (k : Nat) (x : Str) (ps : List Str) (sp : Sp) : Prop where
  at_ : mg x = some (.ref C)
  ex : ∃ f fd, Mk K C f ∧ Binds K fd ps [] ∧ FnOk P w K mg base CX k f fd ps sp
end
section
variable {X : Cx} {CX : CXT} {k j : Nat} {ps : List Str} {sp : Sp} {E : XK} {x m : Str} {C : Addr} {p pos apos : Pos} {e o : Expr} {es : List Expr} {ta : TE} {t : TA}
theorem pe_cal {st : Stmt} (c : Cal X.prog X.w X.K X.mg X.base CX k x st ps sp) (hr : Room j X.A) (hk : k ≤ j) (hg : Gl X x) (hx : Passes CX X E)
    (ha : PA X (e :: es) t) (hdb : (x == ("__debug__" : Str)) = false := by decide) (he : starEach (e :: es) X.env = (false, eval e X.env) :: starEach es X.env := by rfl) (hpl : (backTo pos (starEach es X.env)).any (·.1) = false := by rfl) :
    PE X (.Call (.Name x p) (e :: es) [] pos) (tCall sp [] E t) := by
  obtain ⟨f, fd, hm, kp, hb, F⟩ := c.ex
  exact pe_call F (hr.mono hk) hg hm kp.kp hb .nil hx ha hdb he hpl
theorem pe_mcal {pl : Sem Bool} (c : MCal X.prog X.w X.K X.mg X.base CX C k m ps sp) (hr : Room j X.A) (hk : k ≤ j) (hx : Passes CX X E) (he : PE X o ta)
    (ha : PA X (e :: es) t)
    (hst : starEach (e :: es) X.env = (false, eval e X.env) :: starEach es X.env := by rfl) (hpl : (backTo pos (starEach es X.env)).any (·.1) = false := by rfl)
    (ht : eval (.Call (.Attribute o m apos) (e :: es) [] pos) X.env = (do
      let ov ← eval o X.env
      standAt apos.atName
      let (f, first) ← holding [ov] (getMethod ov m pl)
      callWith pos f first (backTo pos (starEach (e :: es) X.env)) (backToKw pos (keywordEach [] X.env))) := by rfl) :
    PE X (.Call (.Attribute o m apos) (e :: es) [] pos) (tMeth C m sp [] E ta t) := by
  obtain ⟨f, fd, hm, hb, F⟩ := c.ex
  exact pe_meth he c.cl hm F (hr.mono hk) hb .nil hx ha hst hpl ht
theorem pe_mcal0 {pl : Sem Bool} (c : MCal X.prog X.w X.K X.mg X.base CX C k m ps sp) (hr : Room j X.A) (hk : k ≤ j) (hx : Passes CX X E) (he : PE X o ta)
    (ht : eval (.Call (.Attribute o m apos) [] [] pos) X.env = (do
      let ov ← eval o X.env
      standAt apos.atName
      let (f, first) ← holding [ov] (getMethod ov m pl)
      callWith pos f first (backTo pos (starEach [] X.env)) (backToKw pos (keywordEach [] X.env))) := by rfl) :
    PE X (.Call (.Attribute o m apos) [] [] pos) (tMeth C m sp [] E ta tNil) := by
  obtain ⟨f, fd, hm, hb, F⟩ := c.ex
  exact pe_meth0 he c.cl hm F (hr.mono hk) hb .nil hx ht
theorem pe_ncal (c : NCal X.prog X.w X.K X.mg X.base CX C k x ps sp) (hr : Room j X.A) (hk : k + 1 ≤ j) (hg : Gl X x) (hx : Passes CX X E)
    (ha : PA X (e :: es) t) (hdb : (x == ("__debug__" : Str)) = false := by decide) (he : starEach (e :: es) X.env = (false, eval e X.env) :: starEach es X.env := by rfl) (hpl : (backTo pos (starEach es X.env)).any (·.1) = false := by rfl) :
    PE X (.Call (.Name x p) (e :: es) [] pos) (tMake C sp [] E t) := by
  obtain ⟨f, fd, M, hb, F⟩ := c.ex
  exact pe_make M F (hr.mono hk) hg c.at_ hb .nil hx ha hdb he hpl
end
/-- a def of the text, found by its name -/
structure Ft (K : PySem.W.Frag) (mg : Str → Option Value) (x : Str) (st : Stmt) (ps : List Str) : Prop where
  ex : ∃ f fd, mg x = some (.ref f) ∧ Fun K x x st f fd ∧ Binds K fd ps []
structure Mt (K : PySem.W.Frag) (C : Addr) (m qual : Str) (st : Stmt) (ps : List Str) : Prop where
  cl : Cls K C
  ex : ∃ f fd, Meth K C m f ∧ Fun K m qual st f fd ∧ Binds K fd ps []
structure Nt (K : PySem.W.Frag) (mg : Str → Option Value) (C : Addr) (x qual : Str) (st : Stmt) (ps : List Str) : Prop where
  cl : Cls K C
  at_ : mg x = some (.ref C)
  ex : ∃ f fd, Mk K C f ∧ Fun K "__init__" qual st f fd ∧ Binds K fd ps []
section
variable {P : Program} {w : World} {K : PySem.W.Frag} {mg : Str → Option Value} {base : Heap}
theorem Ft.ok {x : Str} {st : Stmt} {N ps : List Str} {k : Nat} {sp : Sp} (T : Ft K mg x st ps) (S : FnScope N ps (defScope st)) (len : ∀ vs H Q E, sp vs H Q E → vs.length = ps.length)
    (hbody : ∀ (f : Addr) (cdv : Value) (A : Around) (outer : List Env) (s : Shared) (H : Hp) (vs : List V) (Q : VK) (E : XK), Room k (A.deeper (envOfC x (defScope st) s.heap.objs.size f cdv)) → sp vs H Q E →
      ∃ t, PSs (cxOf CX0 P w K mg base N x (defScope st) f cdv A outer s H E).nox (defBody st) t ∧ t { nx := fun _ H' => Q .non H', rt := Q } (start N vs) H) : Cal P w K mg base CX0 (k + 1) x st ps sp := by
  obtain ⟨f, fd, hm, F, b⟩ := T.ex
  exact ⟨f, fd, hm, F, b, F.ok S len fun cdv A outer s H vs Q E => hbody f cdv A outer s H vs Q E⟩
theorem Mt.ok {C : Addr} {m qual : Str} {st : Stmt} {N ps : List Str} {k : Nat} {sp : Sp} (T : Mt K C m qual st ps) (S : FnScope N ps (defScope st)) (len : ∀ vs H Q E, sp vs H Q E → vs.length = ps.length)
    (hbody : ∀ (f : Addr) (cdv : Value) (A : Around) (outer : List Env) (s : Shared) (H : Hp) (vs : List V) (Q : VK) (E : XK), Room k (A.deeper (envOfC qual (defScope st) s.heap.objs.size f cdv)) → sp vs H Q E →
      ∃ t, PSs (cxOf CX0 P w K mg base N qual (defScope st) f cdv A outer s H E).nox (defBody st) t ∧ t { nx := fun _ H' => Q .non H', rt := Q } (start N vs) H) : MCal P w K mg base CX0 C (k + 1) m ps sp := by
  obtain ⟨f, fd, hm, F, b⟩ := T.ex
  exact ⟨T.cl, f, fd, hm, b, F.ok S len fun cdv A outer s H vs Q E => hbody f cdv A outer s H vs Q E⟩
theorem Nt.ok {C : Addr} {x qual : Str} {st : Stmt} {N ps : List Str} {k : Nat} {sp : Sp} (T : Nt K mg C x qual st ps) (S : FnScope N ps (defScope st)) (len : ∀ vs H Q E, sp vs H Q E → vs.length = ps.length)
    (hbody : ∀ (f : Addr) (cdv : Value) (A : Around) (outer : List Env) (s : Shared) (H : Hp) (vs : List V) (Q : VK) (E : XK), Room k (A.deeper (envOfC qual (defScope st) s.heap.objs.size f cdv)) → sp vs H Q E →
      ∃ t, PSs (cxOf CX0 P w K mg base N qual (defScope st) f cdv A outer s H E).nox (defBody st) t ∧ t { nx := fun _ H' => Q .non H', rt := Q } (start N vs) H) : NCal P w K mg base CX0 C (k + 1) x ps sp := by
  obtain ⟨f, fd, hm, F, b⟩ := T.ex
  exact ⟨T.at_, f, fd, hm, b, F.ok S len fun cdv A outer s H vs Q E => hbody f cdv A outer s H vs Q E⟩
end
end L3
namespace L3
open PySem L2 Evl PyProof.Rows
section
variable {X : Cx} {x : Str} {pos : Pos}
theorem pe_conI {i : Int} (hg : Gl X x) (hm : ∃ t, X.mg x = some (.int i t)) (hd : (x == ("__debug__" : Str)) = false := by decide) : PE X (.Name x pos) (tC (.int i)) := by
  obtain ⟨t, h⟩ := hm
  exact pe_glob hg h ⟨t, rfl⟩ hd
theorem pe_conS {i : Str} (hg : Gl X x) (hm : ∃ t, X.mg x = some (.str i t)) (hd : (x == ("__debug__" : Str)) = false := by decide) : PE X (.Name x pos) (tC (.str i)) := by
  obtain ⟨t, h⟩ := hm
  exact pe_glob hg h ⟨t, rfl⟩ hd
variable {CX : CXT} {k j : Nat} {ps ks : List Str} {sp : Sp} {E : XK} {p : Pos} {e : Expr} {es : List Expr} {kws : List Keyword} {t tk : TA}
/-- how keywords alone bind: ρ puts their values in the parameters' order -/
def KwB (x qual : Str) (st : Stmt) (ps ks : List Str) (ρ : List Value → List Value) : Prop :=
  ∀ (kV doc pm : Value) (an : Option Addr) (cdv ct : Value) (us : List Value), us.length = ks.length → bindArgs (PySem.W.fnOf x qual (defArgs st) (defBody st) (defScope st) .none kV doc pm an cdv ct) ⟨[], ks.zip us⟩ = pure (ps.zip (ρ us))
def tCallKw (sp : Sp) (n : Nat) (ρV : List V → List V) (E : XK) (tk : TA) : TE := fun σ H Q => tk σ H fun zs H2 => zs.length = n ∧ sp (ρV zs) H2 Q E
/-- f(k = v, ..), keywords alone -/
theorem pe_kcal {st : Stmt} {ρ : List Value → List Value} {ρV : List V → List V} (c : Cal X.prog X.w X.K X.mg X.base CX k x st ps sp) (hb : KwB x x st ps ks ρ) (hρ : ∀ {zs : List V} {ws : List Value}, Vals zs ws → Vals (ρV zs) (ρ ws)) (hr : Room j X.A) (hk : k ≤ j) (hg : Gl X x) (hx : Passes CX X E)
    (hkw : PK X kws tk) (hall : (backToKw pos (keywordEach kws X.env)).all (·.1.isSome) = true := by rfl) (hks : (backToKw pos (keywordEach kws X.env)).filterMap (·.1) = ks := by rfl)
    (hdb : (x == ("__debug__" : Str)) = false := by decide)
    (hpl : ((backTo pos (starEach [] X.env)).any (·.1) || (backToKw pos (keywordEach kws X.env)).any (·.1.isNone)) = false := by rfl) :
    PE X (.Call (.Name x p) [] kws pos) (tCallKw sp ks.length ρV E tk) := by
  obtain ⟨f, fd, hm, F, _, G⟩ := c.ex
  obtain ⟨oc, od, kV, doc, pm, an, cdv, ct, osl, hfd, lk, hcd⟩ := F.ex
  refine ⟨fun pins s σ H Q I h => ?_⟩
  refine wpAny_Call_Name_kw (ld_glob I hg hm ?_ hdb)
  refine PySem.W.callWith_KW0 (h₀ := X.base) I.ok.mod.kin F.kp hall (thn (hkw.run pos pins s σ H _ I h) fun ws s2 ⟨zs, H2, I2, rz, hn, q2⟩ => ⟨I2.kIn, ?_⟩) hpl
  rw [hks, List.append_nil]
  have r2 := hρ rz
  have hl : (ρ ws).length = ps.length := by rw [← r2.length]; exact G.len _ _ _ _ q2
  have hz : ws.length = ks.length := by rw [← rz.length]; exact hn
  refine wpAny_call (codeAny_mono (G.run X.A X.stack s2 H2 ⟨[], ks.zip ws⟩ (ρ ws) (ρV zs) Q E (hr.mono hk) I2.env0 (.of_eq (by rw [hfd]; exact hb kV doc pm an cdv ct ws hz)) r2 q2) fun r s' hq => ?_)
  cases r with
  | error e => exact hx pins σ H2 s2 e s' I2 hq
  | ok fl =>
    cases fl with
    | ret u => exact I2.after hq
    | next => exact False.elim hq
    | brk => exact False.elim hq
    | cont => exact False.elim hq
theorem rho1 {zs : List V} {ws : List Value} (h : Vals zs ws) : Vals (id zs) (id ws) := h
theorem rho2 {zs : List V} {ws : List Value} (h : Vals zs ws) : Vals zs.reverse ws.reverse := Vals.reverse h
end
end L3

/-! the same rules, the written part named (within a comprehension's block it must not be read off the block) -/
namespace L3
open PySem L2 Evl PyProof.Rows
section
variable {X : Cx} {K : PySem.W.Frag}
theorem k_eqA (hK : X.K = K) (hu : X.A.units + 64 < cLine) : OpR X (compareOp .Eq) (rEqA K) := hK ▸ op_eqA hu
theorem k_neA (hK : X.K = K) (hu : X.A.units + 64 < cLine) : OpR X (compareOp .NotEq) (rNeA K) := hK ▸ op_neA hu
theorem k_inA {k : Nat} (hK : X.K = K) (hr : Room k X.A) : OpR X (compareOp .In) (rInA K) := hK ▸ op_inA hr
theorem k_notInA {k : Nat} (hK : X.K = K) (hr : Room k X.A) : OpR X (compareOp .NotIn) (rNotInA K) := hK ▸ op_notInA hr
theorem k_ixA {a b : Expr} {pos : Pos} {ta tb : TE} {k : Nat} (hK : X.K = K) (hr : Room k X.A) (ha : PE X a ta) (hb : PE X b tb) (hs : PlainIx b) : PE X (.Subscript a b pos) (tIx K ta tb) := hK ▸ pe_ixA hr ha hb hs
theorem k_slice {a : Expr} {lo hi : Option Expr} {p2 pos : Pos} {ta : TE} {tl th : TO} (hK : X.K = K) (ha : PE X a ta) (hl : PO X lo tl) (hh : PO X hi th) : PE X (.Subscript a (.Slice lo hi none p2) pos) (tSl (rSlA K) ta tl th) := hK ▸ pe_slice sl_any ha hl hh
theorem k_len (hK : X.K = K) : CallR X (.builtin "len") (rLenA K) := hK ▸ call_lenA
theorem k_list (hK : X.K = K) (hc : X.calm = true) : CallR X (.type "list") (rListA K) := hK ▸ call_listA hc
theorem k_tuple (hK : X.K = K) : CallR X (.type "tuple") (rTupS K) := hK ▸ call_tupA
theorem k_sorted (hK : X.K = K) : CallR X (.builtin "sorted") (rSortA K) := hK ▸ call_sortA
theorem k_max (hK : X.K = K) (hc : X.calm = true) : CallR X (.builtin "max") (rMax K) := hK ▸ cr_max hc
theorem k_min (hK : X.K = K) (hc : X.calm = true) : CallR X (.builtin "min") (rMin K) := hK ▸ cr_min hc
theorem k_sum (hK : X.K = K) (hc : X.calm = true) : CallR X (.builtin "sum") (rSum K) := hK ▸ cr_sum hc
theorem k_all (hK : X.K = K) (hc : X.calm = true) : CallR X (.builtin "all") (rAll K) := hK ▸ cr_all hc
theorem k_any (hK : X.K = K) (hc : X.calm = true) : CallR X (.builtin "any") (rAny K) := hK ▸ cr_any hc
theorem k_isi (hK : X.K = K) : CallR X (.builtin "isinstance") (rIsi K) := hK ▸ call_isi
theorem k_isiT (hK : X.K = K) : CallR X (.builtin "isinstance") (rIsiT K) := hK ▸ call_isiT
theorem k_fld {e : Expr} {f : Str} {pos : Pos} {ta : TE} (hK : X.K = K) (he : PE X e ta) (hb : attributeBase e f X.env (eval e X.env) = eval e X.env) : PE X (.Attribute e f pos) (tFld K ta f) := hK ▸ pe_fld he hb
theorem k_pilist {tg l : Expr} {tl : TE} (hK : X.K = K) (hl : PE X l tl) : PI X tg l (iList K tl) := hK ▸ pi_list hl
theorem k_pitup {tg l : Expr} {tl : TE} (hK : X.K = K) (hl : PE X l tl) : PI X tg l (iTup K tl) := hK ▸ pi_tup hl
theorem k_enum {e : Expr} {ta : TA} {p pos tpos : Pos} {elts : List Expr} {kk : Nat} (hK : X.K = K) (hg : Gl X "enumerate") (hm : X.mg "enumerate" = none) (ha : PA X [e] ta) (hs : starEach [e] X.env = [(false, eval e X.env)] := by rfl) :
    PI X (.Tuple elts kk tpos) (.Call (.Name "enumerate" p) [e] [] pos) (iEnum K ta) := hK ▸ pi_enum hg hm ha hs
theorem k_zip {e e2 : Expr} {ta : TA} {p pos tpos : Pos} {elts : List Expr} {kk : Nat} (hK : X.K = K) (hg : Gl X "zip") (hm : X.mg "zip" = none) (ha : PA X [e, e2] ta)
    (hs : starEach [e, e2] X.env = (false, eval e X.env) :: starEach [e2] X.env := by rfl) (hpl : (backTo pos (starEach [e2] X.env)).any (·.1) = false := by rfl) :
    PI X (.Tuple elts kk tpos) (.Call (.Name "zip" p) [e, e2] [] pos) (iZip K ta) := hK ▸ pi_zip hg hm ha hs hpl
theorem k_tup {es : List Expr} {k : Nat} {pos : Pos} {t : TGs} {n : Nat} (hK : X.K = K) (hc : X.calm = true) (h : PGs X es t)
    (hn : (assignEach es X.env).length = n := by rfl) (hst : (assignEach es X.env).findIdx? (·.1) = none := by rfl) : PG X (.Tuple es k pos) (gTup K n t) := hK ▸ pg_tup hc h hn hst
theorem k_join {o e : Expr} {to te : TE} {apos pos : Pos} (hK : X.K = K) (ho : PE X o to) (he : PE X e te) (hs : starEach [e] X.env = [(false, eval e X.env)] := by rfl) (hbase : attributeBase o "join" X.env (eval o X.env) = eval o X.env := by rfl) (hline : (apos.endLine == pos.line) = true := by rfl) :
    PE X (.Call (.Attribute o "join" apos) [e] [] pos) (tM1 (fun x xs H Q => ∃ a p, ∃ ys : List Str, x = .str a ∧ xs = [.ref p] ∧ (SqL K H p (ys.map V.str) ∨ SqT K H p (ys.map V.str)) ∧
      (ys.map (·.length)).sum + ys.length * a.length ≤ 16777216 ∧ Q (.str (Txt.join a ys)) H) to te) := hK ▸ pe_join ho he hs hbase hline
theorem k_bm0 {o : Expr} {to : TE} {name : Str} {apos cpos : Pos} {T id : String} {r : V → List V → Hp → VK → Prop} (hK : X.K = K) (pa : PlainAttrs T) (slot : Slot T name id) (hty : typeOf (.builtin id) = pure (.type "method_descriptor")) (hm : MtR X id r) (ho : PE X o to)
    (hbase : attributeBase o name X.env (eval o X.env) = eval o X.env := by rfl) (hline : (apos.endLine == cpos.line) = true := by rfl) : PE X (.Call (.Attribute o name apos) [] [] cpos) (tBM0 K T r to) := hK ▸ pe_bm0 pa slot hty hm ho hbase hline
theorem k_bm {o e : Expr} {es : List Expr} {to : TE} {t : TA} {name : Str} {apos cpos : Pos} {T id : String} {r : V → List V → Hp → VK → Prop} (hK : X.K = K) (pa : PlainAttrs T) (slot : Slot T name id) (hty : typeOf (.builtin id) = pure (.type "method_descriptor")) (hm : MtR X id r) (ho : PE X o to) (ha : PA X (e :: es) t)
    (hbase : attributeBase o name X.env (eval o X.env) = eval o X.env := by rfl)
    (hfew : ((backTo cpos (starEach (e :: es) X.env)).all (fun x => !x.1) && (backToKw cpos (keywordEach [] X.env)).all (fun x => x.1.isSome)
      && decide ((e :: es).length + ([] : List Keyword).length + (if ([] : List Keyword).isEmpty then 0 else 1) < 30)) = true := by rfl)
    (hline : (apos.endLine == cpos.line) = true := by rfl) (hs : starEach (e :: es) X.env = (false, eval e X.env) :: starEach es X.env := by rfl) (hplain : (backTo cpos (starEach es X.env)).any (·.1) = false := by rfl) :
    PE X (.Call (.Attribute o name apos) (e :: es) [] cpos) (tBM K T r to t) := hK ▸ pe_bm pa slot hty hm ho ha hbase hfew hline hs hplain
theorem k_blk {N : List Str} {sc scope : Scope} {own : List (Str × Nat)} (hN : X.N = N) (hs : X.env.scope = sc) (h : blkC N sc scope own = true) : BlkOk X.N X.env.scope scope own := by
  subst hN hs
  exact blkOk_by h
theorem mk_index (hK : X.K = K) : MtR X "list.index" (rIndex K) := hK ▸ mt_index
theorem mk_lcount (hK : X.K = K) : MtR X "list.count" (rCntI K) := hK ▸ mt_lcount
end
end L3

namespace L3
open PySem L2 Evl
open Rep (R)

/-! ### growth where some objects change -/
structure StpM (M : Addr → Prop) (F H F' H' : Hp) : Prop where
  ff : Ex F F'
  fh : Ex F' H'
  hh : ∀ a o, ¬ M a → H a = some o → H' a = some o
  dm : ∀ a, H' a = none → H a = none
  nw : ∀ a o, H a = some o → F' a = F a
section
variable {M : Addr → Prop} {F H F' H' F2 H2 G : Hp} {p : Addr} {o u : HO}
theorem Ex.dom (e : Ex H H') {a : Addr} (h : H' a = none) : H a = none := fresh_back e h
theorem Stp.m (s : Stp F H F' H') : StpM M F H F' H' := ⟨s.ff, s.fh, fun a o _ h => s.hh a o h, fun a h => Ex.dom s.hh h, s.nw⟩
theorem some_of_ne {a : Addr} (h : H a ≠ none) : ∃ o, H a = some o := by
  cases e : H a with
  | none => exact absurd e h
  | some o => exact ⟨o, rfl⟩
theorem StpM.refl (h : Ex F H) : StpM M F H F H := (Stp.refl h).m
theorem StpM.trans (a : StpM M F H F' H') (b : StpM M F' H' F2 H2) : StpM M F H F2 H2 :=
  ⟨a.ff.trans b.ff, b.fh, fun x o n h => b.hh x o n (a.hh x o n h), fun x h => a.dm x (b.dm x h), fun x o h => by
    obtain ⟨o', h'⟩ := some_of_ne (H := H') (a := x) fun z => by rw [a.dm x z] at h; cases h
    exact (b.nw x o' h').trans (a.nw x o h)⟩
theorem StpM.ext (a : StpM M F H F' H') (e : Ex H' H2) : StpM M F H F' H2 := ⟨a.ff, a.fh.trans e, fun x o n h => e x o (a.hh x o n h), fun x h => a.dm x (Ex.dom e h), a.nw⟩
theorem StpM.imp {M' : Addr → Prop} (a : StpM M F H F' H') (h : ∀ x, M x → M' x) : StpM M' F H F' H' := ⟨a.ff, a.fh, fun x o n => a.hh x o (fun z => n (h x z)), a.dm, a.nw⟩
theorem StpM.fno (a : StpM M F H F' H') (h : H p = some o) (hf : F p = none) : F' p = none := (a.nw p o h).trans hf
theorem StpM.new (a : StpM M F H F' H') (hp : H' p = none) : StpM M F H (upd F' p o) (upd H' p o) := by
  refine ⟨a.ff.trans (Ex.new ?_), fun b q e => ?_, fun b q n e => ?_, fun b e => ?_, fun b q e => ?_⟩
  · exact fresh_back a.fh hp
  · by_cases hb : b = p
    · subst hb; rw [upd_same] at e ⊢; exact e
    · rw [upd_ne hb] at e ⊢; exact a.fh b q e
  · have hb : b ≠ p := fun z => by subst z; rw [a.dm _ hp] at e; cases e
    rw [upd_ne hb]; exact a.hh b q n e
  · by_cases hb : b = p
    · subst hb; exact a.dm _ hp
    · rw [upd_ne hb] at e; exact a.dm b e
  · have hb : b ≠ p := fun z => by subst z; rw [a.dm _ hp] at e; cases e
    rw [upd_ne hb]; exact a.nw b q e
theorem StpM.own (a : StpM M F H F' H') (hp : H' p = none) : StpM M F H F' (upd H' p o) := a.ext (Ex.new hp)
/-- a changeable object is written: one of ours, or one that may change -/
theorem StpM.mut (a : StpM M F H F' H') (hp : M p ∨ H p = none) (hf : F' p = none) (ht : H' p ≠ none) : StpM M F H F' (upd H' p o) :=
  ⟨a.ff, Ex.mut a.fh hf, fun b q n e => by
    have hb : b ≠ p := fun z => by
      subst z
      rcases hp with h | h
      · exact n h
      · rw [h] at e; cases e
    rw [upd_ne hb]; exact a.hh b q n e, fun b e => by
    by_cases hb : b = p
    · subst hb; rw [upd_same] at e; cases e
    · rw [upd_ne hb] at e; exact a.dm b e, a.nw⟩
theorem StpM.frz (a : StpM M F H F' H') (hp : H p = none) (hf : F' p = none) (h : H' p = some o) : StpM M F H (upd F' p o) H' := by
  refine ⟨a.ff.trans (Ex.new hf), fun b q e => ?_, a.hh, a.dm, fun b q e => ?_⟩
  · by_cases hb : b = p
    · subst hb; rw [upd_same] at e; rw [← e]; exact h
    · rw [upd_ne hb] at e; exact a.fh b q e
  · have hb : b ≠ p := fun z => by subst z; rw [hp] at e; cases e
    rw [upd_ne hb]; exact a.nw b q e
end

section
variable {K : PySem.W.Frag} {F F' G H H' : Hp} {σ : L2.St} {ta tb te tl : TE} {tt tu : TT}
variable {α β γ : Type} [Rep α] [Rep β] [Rep γ] {x : α} {y : β} {z : γ}

/-! ### the rules put together -/
theorem EvX.or1 {tu : TE} (h : EvX K F G σ te x) : EvX K F G σ (fun σ H Q => te σ H Q ∨ tu σ H Q) x := fun H e g Q k => .inl (h H e g Q k)
theorem ev_addI {i j : Int} (ha : EvX K F G σ ta i) (hb : EvX K F G σ tb j) : EvX K F G σ (tOp rAddA ta tb) (i + j) :=
  ev_op ha hb fun F1 u w _ h1 h2 H1 e1 _ Q k => .inl ⟨i, j, h1, h2, k _ F1 H1 (Stp.refl e1) rfl⟩
theorem ev_addS {i j : Str} (ha : EvX K F G σ ta i) (hb : EvX K F G σ tb j) (hl : i.length + j.length ≤ sizeLine) : EvX K F G σ (tOp rAddA ta tb) (i ++ j) :=
  ev_op ha hb fun F1 u w _ h1 h2 H1 e1 _ Q k => .inr (.inl ⟨i, j, h1, h2, hl, k _ F1 H1 (Stp.refl e1) rfl⟩)
theorem ev_mulI {i j : Int} (ha : EvX K F G σ ta i) (hb : EvX K F G σ tb j) (hc : CMul i j) : EvX K F G σ (tOp (rI CMul fun i j => .int (i * j)) ta tb) (i * j) := ev_I ha hb hc fun _ => rfl
theorem ev_modI {i j : Int} (ha : EvX K F G σ ta i) (hb : EvX K F G σ tb j) (hc : 0 < j) : EvX K F G σ (tOp (rI (fun _ j => 0 < j) fun i j => .int (i % j)) ta tb) (i % j) := ev_I ha hb hc fun _ => rfl
theorem ev_divI {i j : Int} (ha : EvX K F G σ ta i) (hb : EvX K F G σ tb j) (hc : CDivW i j) : EvX K F G σ (tOp (rI CDivW fun i j => .int (i / j)) ta tb) (i / j) := ev_I ha hb hc fun _ => rfl
theorem ev_powI {i j : Int} (ha : EvX K F G σ ta i) (hb : EvX K F G σ tb j) (hc : CPowW i j) : EvX K F G σ (tOp rPowW ta tb) (i ^ j.toNat) := ev_I ha hb hc fun _ => rfl
theorem ev_eqAI {i j : Int} (ha : EvX K F G σ ta i) (hb : EvX K F G σ tb j) : EvX K F G σ (tOp (rEqA K) ta tb) (decide (i = j)) :=
  ev_op ha hb fun F1 u w _ h1 h2 H1 e1 _ Q k => by
    cases h1; cases h2
    exact .inl ⟨rfl, k _ F1 H1 (Stp.refl e1) (by rw [dec_vint]; rfl)⟩
theorem ev_neAI {i j : Int} (ha : EvX K F G σ ta i) (hb : EvX K F G σ tb j) : EvX K F G σ (tOp (rNeA K) ta tb) (!decide (i = j)) :=
  ev_op ha hb fun F1 u w _ h1 h2 H1 e1 _ Q k => by
    cases h1; cases h2
    exact .inl ⟨rfl, k _ F1 H1 (Stp.refl e1) (by rw [dec_vint]; rfl)⟩
theorem ev_eqAS {i j : Str} (ha : EvX K F G σ ta i) (hb : EvX K F G σ tb j) : EvX K F G σ (tOp (rEqA K) ta tb) (decide (i = j)) :=
  ev_op ha hb fun F1 u w _ h1 h2 H1 e1 _ Q k => by
    cases h1; cases h2
    exact .inl ⟨rfl, k _ F1 H1 (Stp.refl e1) (by show V.bl (decide (V.str i = V.str j)) = V.bl (decide (i = j)); simp)⟩
theorem ev_neAS {i j : Str} (ha : EvX K F G σ ta i) (hb : EvX K F G σ tb j) : EvX K F G σ (tOp (rNeA K) ta tb) (!decide (i = j)) :=
  ev_op ha hb fun F1 u w _ h1 h2 H1 e1 _ Q k => by
    cases h1; cases h2
    exact .inl ⟨rfl, k _ F1 H1 (Stp.refl e1) (by show V.bl (!decide (V.str i = V.str j)) = V.bl (!decide (i = j)); simp)⟩
theorem ev_eqAB {i j : Bool} (ha : EvX K F G σ ta i) (hb : EvX K F G σ tb j) : EvX K F G σ (tOp (rEqA K) ta tb) (decide (i = j)) :=
  ev_op ha hb fun F1 u w _ h1 h2 H1 e1 _ Q k => by
    cases h1; cases h2
    exact .inl ⟨rfl, k _ F1 H1 (Stp.refl e1) (by show V.bl (decide (V.bl i = V.bl j)) = V.bl (decide (i = j)); simp)⟩
theorem ev_neAB {i j : Bool} (ha : EvX K F G σ ta i) (hb : EvX K F G σ tb j) : EvX K F G σ (tOp (rNeA K) ta tb) (!decide (i = j)) :=
  ev_op ha hb fun F1 u w _ h1 h2 H1 e1 _ Q k => by
    cases h1; cases h2
    exact .inl ⟨rfl, k _ F1 H1 (Stp.refl e1) (by show V.bl (!decide (V.bl i = V.bl j)) = V.bl (!decide (i = j)); simp)⟩
theorem ev_ix {xs : List α} {i : Int} (ha : EvX K F G σ ta xs) (hb : EvX K F G σ tb i) (hx : atI xs i = some x) : EvX K F G σ (tIx K ta tb) x := by
  refine EvX.or1 (ev_op ha hb fun F1 u w _ h1 h2 H1 e1 _ Q k => ?_)
  obtain ⟨a, vs, rfl, hs, hv⟩ := h1
  obtain ⟨v, hv1, hv2⟩ := ixN_all2 hv hx
  exact .inl ⟨a, vs, i, v, rfl, h2, ex_l e1 hs, hv1, k _ F1 H1 (Stp.refl e1) hv2⟩
theorem ev_fst {xy : α × β} {j : Int} (ha : EvX K F G σ ta xy) (hb : EvX K F G σ tb j) (h0 : j = 0 := by rfl) : EvX K F G σ (tIx K ta tb) xy.1 := by
  subst h0
  refine EvX.or1 (ev_op ha hb fun F1 u w _ h1 h2 H1 e1 _ Q k => ?_)
  obtain ⟨a, u', w', rfl, hs, h3, h4⟩ := h1
  exact .inr (.inl ⟨a, _, 0, u', rfl, h2, ex_t e1 hs, rfl, k _ F1 H1 (Stp.refl e1) h3⟩)
theorem ev_snd {xy : α × β} {j : Int} (ha : EvX K F G σ ta xy) (hb : EvX K F G σ tb j) (h0 : j = 1 := by rfl) : EvX K F G σ (tIx K ta tb) xy.2 := by
  subst h0
  refine EvX.or1 (ev_op ha hb fun F1 u w _ h1 h2 H1 e1 _ Q k => ?_)
  obtain ⟨a, u', w', rfl, hs, h3, h4⟩ := h1
  exact .inr (.inl ⟨a, _, 1, w', rfl, h2, ex_t e1 hs, rfl, k _ F1 H1 (Stp.refl e1) h4⟩)
/-- an item of an object of ours that may change -/
theorem ev_cell {j : Nat} {t : Addr} {vs : List V} {i : Int} {v : V} (hs : σ[j]? = some (some (.ref t))) (h : G t = some (.lst vs)) (ha : atI vs i = some v) (r : R K F v x) : EvX K F G σ (tIx K (tVar j) (tC (.int i))) x :=
  fun H e g Q k => .inl ⟨_, hs, .inl ⟨t, vs, i, v, rfl, rfl, SqL.of (g t _ h), ha, k v F H (Stp.refl e) r⟩⟩
theorem ev_obj {v : V} {i : Nat} (hs : σ[i]? = some (some v)) : EvX K F G σ (tVar i) v := ev_var hs rfl
/-! len, list, max, min, abs, all, any, sum -/
theorem ev_cb1 {r : List V → Hp → VK → Prop} (ha : EvX K F G σ ta x)
    (hr : ∀ F1 u, Ex F F1 → R K F1 u x → ∀ H1, Ex F1 H1 → Ex G H1 → ∀ Q : VK, (∀ v F2 H2, Stp F1 H1 F2 H2 → R K F2 v z → Q v H2) → r [u] H1 Q) :
    EvX K F G σ (tCB r (tCons ta tNil)) z := fun H e g Q k =>
  ha H e g _ fun u F1 H1 s1 r1 => hr F1 u s1.ff r1 H1 s1.fh (g.trans s1.hh) Q fun v F2 H2 s2 r2 => k v F2 H2 (s1.trans s2) r2
theorem ev_cb2 {r : List V → Hp → VK → Prop} (ha : EvX K F G σ ta x) (hb : EvX K F G σ tb y)
    (hr : ∀ F1 u w, Ex F F1 → R K F1 u x → R K F1 w y → ∀ H1, Ex F1 H1 → Ex G H1 → ∀ Q : VK, (∀ v F2 H2, Stp F1 H1 F2 H2 → R K F2 v z → Q v H2) → r [u, w] H1 Q) :
    EvX K F G σ (tCB r (tCons ta (tCons tb tNil))) z := fun H e g Q k =>
  ha H e g _ fun u F1 H1 s1 r1 => (hb.up s1.ff) H1 s1.fh (g.trans s1.hh) _ fun w F2 H2 s2 r2 =>
    hr F2 u w (s1.ff.trans s2.ff) (Rep.mono s2.ff r1) r2 H2 s2.fh ((g.trans s1.hh).trans s2.hh) Q fun v F3 H3 s3 r3 => k v F3 H3 ((s1.trans s2).trans s3) r3
theorem ev_len {xs : List α} (ha : EvX K F G σ ta xs) : EvX K F G σ (tCB (rLenA K) (tCons ta tNil)) (xs.length : Int) :=
  ev_cb1 ha fun F1 u _ h1 H1 e1 _ Q k => by
    obtain ⟨a, vs, rfl, hs, hv⟩ := h1
    exact .inl ⟨_, xs.length, rfl, .inl ⟨vs, ex_l e1 hs, hv.len.symm⟩, k _ F1 H1 (Stp.refl e1) rfl⟩
theorem ev_lenS {s : Str} (ha : EvX K F G σ ta s) (hl : s.length ≤ sizeLine) : EvX K F G σ (tCB (rLenA K) (tCons ta tNil)) (s.length : Int) :=
  ev_cb1 ha fun F1 u _ h1 H1 e1 _ Q k => by
    cases h1
    exact .inl ⟨_, s.length, rfl, ⟨hl, rfl⟩, k _ F1 H1 (Stp.refl e1) rfl⟩
/-- len of an object of ours that may change -/
theorem ev_lenC {t : Addr} {vs : List V} (ha : EvX K F G σ ta (V.ref t)) (h : G t = some (.lst vs)) : EvX K F G σ (tCB (rLenA K) (tCons ta tNil)) (vs.length : Int) :=
  ev_cb1 ha fun F1 u _ h1 H1 e1 g1 Q k => by
    cases h1
    exact .inl ⟨_, vs.length, rfl, .inl ⟨vs, SqL.of (g1 t _ h), rfl⟩, k _ F1 H1 (Stp.refl e1) rfl⟩
theorem ev_list {xs : List α} (ha : EvX K F G σ ta xs) : EvX K F G σ (tCB (rListA K) (tCons ta tNil)) xs :=
  ev_cb1 ha fun F1 u _ h1 H1 e1 _ Q k => by
    obtain ⟨a, vs, rfl, hs, hv⟩ := h1
    exact .inl ⟨a, vs, rfl, .inl (ex_l e1 hs), fun l hl => k _ _ _ ((Stp.refl e1).new hl) ⟨l, vs, rfl, SqL.of upd_same, hv.imp fun _ _ => Rep.mono (Ex.new (fresh_back e1 hl))⟩⟩
theorem ev_max2 {i j : Int} (ha : EvX K F G σ ta i) (hb : EvX K F G σ tb j) : EvX K F G σ (tCB rMax2 (tCons ta (tCons tb tNil))) (max i j) :=
  ev_cb2 ha hb fun F1 u w _ h1 h2 H1 e1 _ Q k => by
    cases h1; cases h2
    refine ⟨i, j, rfl, k _ F1 H1 (Stp.refl e1) ?_⟩
    show V.int _ = V.int _
    congr 1
    omega
theorem ev_min2 {i j : Int} (ha : EvX K F G σ ta i) (hb : EvX K F G σ tb j) : EvX K F G σ (tCB rMin2 (tCons ta (tCons tb tNil))) (min i j) :=
  ev_cb2 ha hb fun F1 u w _ h1 h2 H1 e1 _ Q k => by
    cases h1; cases h2
    refine ⟨i, j, rfl, k _ F1 H1 (Stp.refl e1) ?_⟩
    show V.int _ = V.int _
    congr 1
    omega
theorem ev_abs {i : Int} (ha : EvX K F G σ ta i) : EvX K F G σ (tCB rAbs (tCons ta tNil)) (if i < 0 then -i else i) :=
  ev_cb1 ha fun F1 u _ h1 H1 e1 _ Q k => by
    cases h1
    exact ⟨i, rfl, k _ F1 H1 (Stp.refl e1) rfl⟩
theorem ev_all {bs : List Bool} (ha : EvX K F G σ ta bs) : EvX K F G σ (tCB (rAll K) (tCons ta tNil)) (bs.all id) :=
  ev_cb1 ha fun F1 u _ h1 H1 e1 _ Q k => by
    obtain ⟨a, vs, rfl, hs, hv⟩ := h1
    have := all2_bls.mp hv
    subst this
    exact ⟨a, bs, rfl, ex_l e1 hs, k _ F1 H1 (Stp.refl e1) rfl⟩
theorem ev_any {bs : List Bool} (ha : EvX K F G σ ta bs) : EvX K F G σ (tCB (rAny K) (tCons ta tNil)) (bs.any id) :=
  ev_cb1 ha fun F1 u _ h1 H1 e1 _ Q k => by
    obtain ⟨a, vs, rfl, hs, hv⟩ := h1
    have := all2_bls.mp hv
    subst this
    exact ⟨a, bs, rfl, ex_l e1 hs, k _ F1 H1 (Stp.refl e1) rfl⟩
theorem ev_sum {bs : List Int} (ha : EvX K F G σ ta bs) : EvX K F G σ (tCB (rSum K) (tCons ta tNil)) bs.sum :=
  ev_cb1 ha fun F1 u _ h1 H1 e1 _ Q k => by
    obtain ⟨a, vs, rfl, hs, hv⟩ := h1
    have := all2_ints.mp hv
    subst this
    exact ⟨a, bs, rfl, ex_l e1 hs, k _ F1 H1 (Stp.refl e1) rfl⟩
/-- the greatest, the least -/
def maxL (xs : List Int) : Int := xs.foldl max (xs.headD 0)
def minL (xs : List Int) : Int := xs.foldl min (xs.headD 0)
theorem foldl_max_mem : ∀ (xs : List Int) (a : Int), xs.foldl max a = a ∨ xs.foldl max a ∈ xs
  | [], a => .inl rfl
  | x :: xs, a => by
    rcases foldl_max_mem xs (max a x) with h | h
    · show (xs.foldl max (max a x) = a) ∨ _
      rw [h]
      by_cases q : a ≤ x
      · right; rw [show (x :: xs).foldl max a = x by show xs.foldl max (max a x) = x; rw [h]; omega]; exact List.mem_cons_self
      · left; omega
    · exact .inr (List.mem_cons_of_mem _ h)
theorem foldl_max_ge : ∀ (xs : List Int) (a : Int), a ≤ xs.foldl max a ∧ ∀ y ∈ xs, y ≤ xs.foldl max a
  | [], a => ⟨Int.le_refl a, fun y h => by cases h⟩
  | x :: xs, a => by
    obtain ⟨h1, h2⟩ := foldl_max_ge xs (max a x)
    refine ⟨by show a ≤ xs.foldl max (max a x); omega, fun y h => ?_⟩
    show y ≤ xs.foldl max (max a x)
    rcases List.mem_cons.mp h with rfl | h
    · omega
    · exact h2 y h
theorem foldl_min_mem : ∀ (xs : List Int) (a : Int), xs.foldl min a = a ∨ xs.foldl min a ∈ xs
  | [], a => .inl rfl
  | x :: xs, a => by
    rcases foldl_min_mem xs (min a x) with h | h
    · show (xs.foldl min (min a x) = a) ∨ _
      by_cases q : a ≤ x
      · left; rw [h]; omega
      · right; rw [show (x :: xs).foldl min a = x by show xs.foldl min (min a x) = x; rw [h]; omega]; exact List.mem_cons_self
    · exact .inr (List.mem_cons_of_mem _ h)
theorem foldl_min_le : ∀ (xs : List Int) (a : Int), xs.foldl min a ≤ a ∧ ∀ y ∈ xs, xs.foldl min a ≤ y
  | [], a => ⟨Int.le_refl a, fun y h => by cases h⟩
  | x :: xs, a => by
    obtain ⟨h1, h2⟩ := foldl_min_le xs (min a x)
    refine ⟨by show xs.foldl min (min a x) ≤ a; omega, fun y h => ?_⟩
    show xs.foldl min (min a x) ≤ y
    rcases List.mem_cons.mp h with rfl | h
    · omega
    · exact h2 y h
theorem maxL_mem {xs : List Int} (h : xs ≠ []) : maxL xs ∈ xs := by
  cases xs with
  | nil => exact absurd rfl h
  | cons a l =>
    rcases foldl_max_mem (a :: l) a with q | q
    · show (a :: l).foldl max a ∈ _; rw [q]; exact List.mem_cons_self
    · exact q
theorem le_maxL {xs : List Int} {y : Int} (h : y ∈ xs) : y ≤ maxL xs := (foldl_max_ge xs _).2 y h
theorem minL_mem {xs : List Int} (h : xs ≠ []) : minL xs ∈ xs := by
  cases xs with
  | nil => exact absurd rfl h
  | cons a l =>
    rcases foldl_min_mem (a :: l) a with q | q
    · show (a :: l).foldl min a ∈ _; rw [q]; exact List.mem_cons_self
    · exact q
theorem minL_le {xs : List Int} {y : Int} (h : y ∈ xs) : minL xs ≤ y := (foldl_min_le xs _).2 y h
theorem maxL_uniq {xs : List Int} {m : Int} (h1 : m ∈ xs) (h2 : ∀ y ∈ xs, y ≤ m) : m = maxL xs := by
  have a := le_maxL h1
  have b := h2 _ (maxL_mem (List.ne_nil_of_mem h1))
  omega
theorem minL_uniq {xs : List Int} {m : Int} (h1 : m ∈ xs) (h2 : ∀ y ∈ xs, m ≤ y) : m = minL xs := by
  have a := minL_le h1
  have b := h2 _ (minL_mem (List.ne_nil_of_mem h1))
  omega
theorem ev_max {bs : List Int} (ha : EvX K F G σ ta bs) (h0 : 0 < bs.length) : EvX K F G σ (tCB (rMax K) (tCons ta tNil)) (maxL bs) :=
  ev_cb1 ha fun F1 u _ h1 H1 e1 _ Q k => by
    obtain ⟨a, vs, rfl, hs, hv⟩ := h1
    have := all2_ints.mp hv
    subst this
    exact ⟨a, bs, rfl, ex_l e1 hs, h0, fun m hm hl => k _ F1 H1 (Stp.refl e1) (by rw [maxL_uniq hm hl]; rfl)⟩
theorem ev_min {bs : List Int} (ha : EvX K F G σ ta bs) (h0 : 0 < bs.length) : EvX K F G σ (tCB (rMin K) (tCons ta tNil)) (minL bs) :=
  ev_cb1 ha fun F1 u _ h1 H1 e1 _ Q k => by
    obtain ⟨a, vs, rfl, hs, hv⟩ := h1
    have := all2_ints.mp hv
    subst this
    exact ⟨a, bs, rfl, ex_l e1 hs, h0, fun m hm hl => k _ F1 H1 (Stp.refl e1) (by rw [minL_uniq hm hl]; rfl)⟩
end

/-! ### data as Python compares it -/
class RepD (α : Type) [Rep α] [DecidableEq α] where
  toD : α → PyData
  dp : ∀ {K : PySem.W.Frag} {F : Hp} {v : V} {x : α}, R K F v x → Dp K F v (toD x)
  dep : Nat
  dep_le : ∀ x : α, (toD x).depth ≤ dep
  eqv : ∀ x y : α, PyData.eqv (toD x) (toD y) = decide (x = y)
open RepD (toD)
/-- never None -/
class NN (α : Type) [Rep α] [DecidableEq α] [RepD α] : Prop where
  nn : ∀ x : α, PyData.eqv .none (toD x) = false ∧ PyData.eqv (toD x) .none = false
/-- no odd text in it -/
class Lay (α : Type) [Rep α] [DecidableEq α] [RepD α] : Prop where
  lay : ∀ x : α, (toD x).canLay0 = true
instance : RepD Int := ⟨fun i => .int i, fun h => by cases h; exact .int _, 0, fun _ => by simp [PyData.depth], fun x y => by simp [PyData.eqv, Bool.beq_eq_decide_eq]⟩
instance : RepD Bool := ⟨fun i => .bool i, fun h => by cases h; exact .bl _, 0, fun _ => by simp [PyData.depth], fun x y => by simp [PyData.eqv, Bool.beq_eq_decide_eq]⟩
instance : RepD Str := ⟨fun i => .str i, fun h => by cases h; exact .str _, 0, fun _ => by simp [PyData.depth], fun x y => by
  simp only [PyData.eqv]
  by_cases h : x = y
  · subst h; simp
  · rw [decide_eq_false h]; exact beq_eq_false_iff_ne.mpr h⟩
instance : NN Int := ⟨fun _ => by simp [toD, PyData.eqv]⟩
instance : NN Bool := ⟨fun _ => by simp [toD, PyData.eqv]⟩
instance : NN Str := ⟨fun _ => by simp [toD, PyData.eqv]⟩
instance : Lay Int := ⟨fun _ => by simp [toD, PyData.canLay0]⟩
instance : Lay Bool := ⟨fun _ => by simp [toD, PyData.canLay0]⟩
section
variable {α β : Type} [Rep α] [DecidableEq α] [RepD α] [Rep β] [DecidableEq β] [RepD β]
theorem dpAll_of {K : PySem.W.Frag} {F : Hp} : ∀ {vs : List V} {xs : List α}, All2 (R K F) vs xs → DpAll K F vs (xs.map toD)
  | _, _, .nil => .nil
  | _, _, .cons p t => .cons (RepD.dp p) (dpAll_of t)
theorem depAll_le : ∀ xs : List α, PyData.depthAll (xs.map toD) ≤ RepD.dep α
  | [] => by simp [PyData.depthAll]
  | x :: xs => by
    have h1 := depAll_le xs
    have h2 := RepD.dep_le x
    simp only [List.map_cons, PyData.depthAll]
    omega
theorem eqvAll_of : ∀ xs ys : List α, PyData.eqvAll (xs.map toD) (ys.map toD) = decide (xs = ys)
  | [], [] => by simp [PyData.eqvAll]
  | [], y :: ys => by simp [PyData.eqvAll]
  | x :: xs, [] => by simp [PyData.eqvAll]
  | x :: xs, y :: ys => by
    simp only [List.map_cons, PyData.eqvAll, RepD.eqv, eqvAll_of xs ys, List.cons.injEq, Bool.decide_and]
instance : RepD (List α) := ⟨fun xs => .list (xs.map toD), fun ⟨a, vs, h1, h2, h3⟩ => by subst h1; exact .lst h2 (dpAll_of h3), RepD.dep α + 1,
  fun xs => by have := depAll_le xs; simp only [PyData.depth]; omega, fun x y => by simp only [PyData.eqv]; exact eqvAll_of x y⟩
instance : NN (List α) := ⟨fun _ => by simp [toD, PyData.eqv]⟩
instance : RepD (α × β) := ⟨fun x => .tuple [toD x.1, toD x.2], fun ⟨a, u, w, h1, h2, h3, h4⟩ => by subst h1; exact .tup h2 (.cons (RepD.dp h3) (.cons (RepD.dp h4) .nil)), max (RepD.dep α) (RepD.dep β) + 1,
  fun x => by have h1 := RepD.dep_le x.1; have h2 := RepD.dep_le x.2; simp only [PyData.depth, PyData.depthAll]; omega,
  fun x y => by
    obtain ⟨a, b⟩ := x
    obtain ⟨c, d⟩ := y
    simp only [PyData.eqv, PyData.eqvAll, RepD.eqv, Bool.and_true, Prod.mk.injEq, Bool.decide_and]⟩
instance : NN (α × β) := ⟨fun _ => by simp [toD, PyData.eqv]⟩
instance [NN α] : RepD (Option α) := ⟨fun x => match x with | none => .none | some y => toD y, fun {K F v x} h => by
    cases x with
    | none => cases h; exact .non
    | some y => exact RepD.dp (α := α) h, RepD.dep α,
  fun x => by cases x with
    | none => simp [PyData.depth]
    | some y => exact RepD.dep_le y,
  fun x y => by
    cases x with
    | none => cases y with
      | none => simp [PyData.eqv]
      | some y => simp only; rw [(NN.nn y).1]; simp
    | some x => cases y with
      | none => simp only; rw [(NN.nn x).2]; simp
      | some y => simp only; rw [RepD.eqv]; simp⟩
theorem layAll_of [Lay α] : ∀ xs : List α, PyData.canLayAll0 (xs.map toD) = true
  | [] => by simp [PyData.canLayAll0]
  | x :: xs => by simp [PyData.canLayAll0, Lay.lay x, layAll_of xs]
instance [Lay α] : Lay (List α) := ⟨fun xs => by show (PyData.list (xs.map toD)).canLay0 = true; simp only [PyData.canLay0]; exact layAll_of xs⟩
instance [Lay α] [Lay β] : Lay (α × β) := ⟨fun x => by show (PyData.tuple [toD x.1, toD x.2]).canLay0 = true; simp [PyData.canLay0, PyData.canLayAll0, Lay.lay]⟩
instance [NN α] [Lay α] : Lay (Option α) := ⟨fun x => by
  cases x with
  | none => show PyData.canLay0 .none = true; simp [PyData.canLay0]
  | some y => exact Lay.lay y⟩
theorem dp_mono {K : PySem.W.Frag} {F F' : Hp} (e : Ex F F') {d : PyData} {v : V} (h : Dp K F v d) : Dp K F' v d := by
  refine Dp.rec (motive_1 := fun v d _ => Dp K F' v d) (motive_2 := fun vs ds _ => DpAll K F' vs ds) ?_ ?_ ?_ ?_ ?_ ?_ ?_ ?_ h
  · exact .non
  · exact fun b => .bl b
  · exact fun b => .int b
  · exact fun b => .str b
  · exact fun h1 _ h2 => .lst (ex_l e h1) h2
  · exact fun h1 _ h2 => .tup (ex_t e h1) h2
  · exact .nil
  · exact fun _ _ h1 h2 => .cons h1 h2
theorem shaped_of (x : α) (h : (toD x).canLay0 = true) (hd : RepD.dep α ≤ 64) : SeqAt.shaped (toD x) = true := by
  show ((toD x).canLay0 && decide ((toD x).depth ≤ 64)) = true
  rw [Bool.and_eq_true]
  exact ⟨h, decide_eq_true (Nat.le_trans (RepD.dep_le x) hd)⟩
section
variable {K : PySem.W.Frag} {F F' G H H' : Hp} {σ : L2.St} {ta tb te tl : TE} {x y : α}
theorem ev_eqL (hx : (toD x).canLay0 = true) (hy : (toD y).canLay0 = true) (hd : RepD.dep α ≤ 64) (ha : EvX K F G σ ta x) (hb : EvX K F G σ tb y) : EvX K F G σ (tOp (rEqA K) ta tb) (decide (x = y)) :=
  ev_op ha hb fun F1 u w _ h1 h2 H1 e1 _ Q k => .inr ⟨toD x, toD y, dp_mono e1 (RepD.dp h1), dp_mono e1 (RepD.dp h2), shaped_of x hx hd, shaped_of y hy hd, k _ F1 H1 (Stp.refl e1) (by rw [RepD.eqv]; rfl)⟩
theorem ev_neL (hx : (toD x).canLay0 = true) (hy : (toD y).canLay0 = true) (hd : RepD.dep α ≤ 64) (ha : EvX K F G σ ta x) (hb : EvX K F G σ tb y) : EvX K F G σ (tOp (rNeA K) ta tb) (!decide (x = y)) :=
  ev_op ha hb fun F1 u w _ h1 h2 H1 e1 _ Q k => .inr ⟨toD x, toD y, dp_mono e1 (RepD.dp h1), dp_mono e1 (RepD.dp h2), shaped_of x hx hd, shaped_of y hy hd, k _ F1 H1 (Stp.refl e1) (by rw [RepD.eqv]; rfl)⟩
theorem ev_eq [Lay α] (ha : EvX K F G σ ta x) (hb : EvX K F G σ tb y) (hd : RepD.dep α ≤ 64 := by decide) : EvX K F G σ (tOp (rEqA K) ta tb) (decide (x = y)) := ev_eqL (Lay.lay x) (Lay.lay y) hd ha hb
theorem ev_ne [Lay α] (ha : EvX K F G σ ta x) (hb : EvX K F G σ tb y) (hd : RepD.dep α ≤ 64 := by decide) : EvX K F G σ (tOp (rNeA K) ta tb) (!decide (x = y)) := ev_neL (Lay.lay x) (Lay.lay y) hd ha hb
theorem any_eqv (x : α) (xs : List α) : ((xs.map toD).any fun z => PyData.eqv z (toD x)) = decide (x ∈ xs) := by
  induction xs with
  | nil => simp
  | cons a l ih =>
    simp only [List.map_cons, List.any_cons, ih, RepD.eqv, List.mem_cons, Bool.decide_or]
    congr 1
    by_cases h : a = x
    · subst h; simp
    · rw [decide_eq_false h, decide_eq_false (fun q => h q.symm)]
theorem ev_in [Lay α] {xs : List α} (ha : EvX K F G σ ta x) (hb : EvX K F G σ tb xs) (hd : RepD.dep α ≤ 60 := by decide) : EvX K F G σ (tOp (rInA K) ta tb) (decide (x ∈ xs)) :=
  ev_op ha hb fun F1 u w _ h1 h2 H1 e1 _ Q k => .inr (.inr (.inl ⟨toD x, xs.map toD, dp_mono e1 (RepD.dp h1), dp_mono e1 (RepD.dp (α := List α) h2), shaped_of x (Lay.lay x) (by omega), shaped_of xs (Lay.lay xs) (by show RepD.dep α + 1 ≤ 64; omega), k _ F1 H1 (Stp.refl e1) (by rw [any_eqv]; rfl)⟩))
theorem ev_notIn [Lay α] {xs : List α} (ha : EvX K F G σ ta x) (hb : EvX K F G σ tb xs) (hd : RepD.dep α ≤ 60 := by decide) : EvX K F G σ (tOp (rNotInA K) ta tb) (!decide (x ∈ xs)) :=
  ev_op ha hb fun F1 u w _ h1 h2 H1 e1 _ Q k => .inr (.inr ⟨toD x, xs.map toD, dp_mono e1 (RepD.dp h1), dp_mono e1 (RepD.dp (α := List α) h2), shaped_of x (Lay.lay x) (by omega), shaped_of xs (Lay.lay xs) (by show RepD.dep α + 1 ≤ 64; omega), k _ F1 H1 (Stp.refl e1) (by rw [any_eqv]; rfl)⟩)
end
end
end L3

namespace L3
open PySem L2 Evl
open Rep (R)
open RepD (toD)

/-! ### promises of defs that change nothing -/
section
variable (K : PySem.W.Frag) {α β γ δ : Type} [Rep α] [Rep β] [Rep γ] [Rep δ]
/-- f(x): what stands for f x, where pre x -/
def Pu1 (pre : α → Prop) (f : α → δ) : Sp := fun vs H Q _ => ∃ F x v, vs = [v] ∧ Ex F H ∧ R K F v x ∧ pre x ∧ ∀ u F' H', Stp F H F' H' → R K F' u (f x) → Q u H'
def Pu2 (pre : α → β → Prop) (f : α → β → δ) : Sp := fun vs H Q _ => ∃ F x y v w, vs = [v, w] ∧ Ex F H ∧ R K F v x ∧ R K F w y ∧ pre x y ∧ ∀ u F' H', Stp F H F' H' → R K F' u (f x y) → Q u H'
def Pu3 (pre : α → β → γ → Prop) (f : α → β → γ → δ) : Sp := fun vs H Q _ => ∃ F x y z v w t, vs = [v, w, t] ∧ Ex F H ∧ R K F v x ∧ R K F w y ∧ R K F t z ∧ pre x y z ∧ ∀ u F' H', Stp F H F' H' → R K F' u (f x y z) → Q u H'
/-- f(x): a NEW list, which may be changed by whoever asked -/
def PuL1 (pre : α → Prop) (f : α → List δ) : Sp := fun vs H Q _ => ∃ F x v, vs = [v] ∧ Ex F H ∧ R K F v x ∧ pre x ∧ ∀ p us F' H', Stp F H F' H' → H p = none → F' p = none → H' p = some (.lst us) → All2 (R K F') us (f x) → Q (.ref p) H'
def PuL2 (pre : α → β → Prop) (f : α → β → List δ) : Sp := fun vs H Q _ => ∃ F x y v w, vs = [v, w] ∧ Ex F H ∧ R K F v x ∧ R K F w y ∧ pre x y ∧ ∀ p us F' H', Stp F H F' H' → H p = none → F' p = none → H' p = some (.lst us) → All2 (R K F') us (f x y) → Q (.ref p) H'
end
section
variable {K : PySem.W.Frag} {F F' G H H' : Hp} {σ : L2.St} {ta tb tc te tl : TE}
variable {α β γ δ : Type} [Rep α] [Rep β] [Rep γ] [Rep δ] {x : α} {y : β} {z : γ} {E : XK}
theorem ev_call1 {pre : α → Prop} {f : α → δ} (ha : EvX K F G σ ta x) (hp : pre x) : EvX K F G σ (tCall (Pu1 K pre f) [] E (tCons ta tNil)) (f x) := fun H e g Q k =>
  ha H e g _ fun v F1 H1 s1 r1 => ⟨F1, x, v, rfl, s1.fh, r1, hp, fun u F2 H2 s2 r2 => k u F2 H2 (s1.trans s2) r2⟩
theorem ev_call2 {pre : α → β → Prop} {f : α → β → δ} (ha : EvX K F G σ ta x) (hb : EvX K F G σ tb y) (hp : pre x y) : EvX K F G σ (tCall (Pu2 K pre f) [] E (tCons ta (tCons tb tNil))) (f x y) := fun H e g Q k =>
  ha H e g _ fun v F1 H1 s1 r1 => (hb.up s1.ff) H1 s1.fh (g.trans s1.hh) _ fun w F2 H2 s2 r2 =>
    ⟨F2, x, y, v, w, rfl, s2.fh, Rep.mono s2.ff r1, r2, hp, fun u F3 H3 s3 r3 => k u F3 H3 ((s1.trans s2).trans s3) r3⟩
theorem ev_call3 {pre : α → β → γ → Prop} {f : α → β → γ → δ} (ha : EvX K F G σ ta x) (hb : EvX K F G σ tb y) (hc : EvX K F G σ tc z) (hp : pre x y z) : EvX K F G σ (tCall (Pu3 K pre f) [] E (tCons ta (tCons tb (tCons tc tNil)))) (f x y z) := fun H e g Q k =>
  ha H e g _ fun v F1 H1 s1 r1 => (hb.up s1.ff) H1 s1.fh (g.trans s1.hh) _ fun w F2 H2 s2 r2 => (hc.up (s1.ff.trans s2.ff)) H2 s2.fh ((g.trans s1.hh).trans s2.hh) _ fun t F3 H3 s3 r3 =>
    ⟨F3, x, y, z, v, w, t, rfl, s3.fh, Rep.mono (s2.ff.trans s3.ff) r1, Rep.mono s3.ff r2, r3, hp, fun u F4 H4 s4 r4 => k u F4 H4 (((s1.trans s2).trans s3).trans s4) r4⟩
theorem ev_callL1 {pre : α → Prop} {f : α → List δ} (ha : EvX K F G σ ta x) (hp : pre x) : EvX K F G σ (tCall (PuL1 K pre f) [] E (tCons ta tNil)) (f x) := fun H e g Q k =>
  ha H e g _ fun v F1 H1 s1 r1 => ⟨F1, x, v, rfl, s1.fh, r1, hp, fun p us F2 H2 s2 n0 n1 h2 r2 => k _ _ H2 (s1.trans (s2.frz n0 n1 h2)) ⟨p, us, rfl, SqL.of upd_same, r2.imp fun _ _ => Rep.mono (Ex.new n1)⟩⟩
theorem ev_callL2 {pre : α → β → Prop} {f : α → β → List δ} (ha : EvX K F G σ ta x) (hb : EvX K F G σ tb y) (hp : pre x y) : EvX K F G σ (tCall (PuL2 K pre f) [] E (tCons ta (tCons tb tNil))) (f x y) := fun H e g Q k =>
  ha H e g _ fun v F1 H1 s1 r1 => (hb.up s1.ff) H1 s1.fh (g.trans s1.hh) _ fun w F2 H2 s2 r2 =>
    ⟨F2, x, y, v, w, rfl, s2.fh, Rep.mono s2.ff r1, r2, hp, fun p us F3 H3 s3 n0 n1 h2 r3 => k _ _ H3 ((s1.trans s2).trans (s3.frz n0 n1 h2)) ⟨p, us, rfl, SqL.of upd_same, r3.imp fun _ _ => Rep.mono (Ex.new n1)⟩⟩
/-- a comprehension's new list stays changeable -/
def EvN (K : PySem.W.Frag) (F G : Hp) (σ : L2.St) (te : TE) (xs : List α) : Prop :=
  ∀ H, Ex F H → Ex G H → ∀ Q : VK, (∀ p us F' H', Stp F H F' H' → H p = none → F' p = none → H' p = some (.lst us) → All2 (R K F') us xs → Q (.ref p) H') → te σ H Q
theorem EvN.ev {xs : List α} (h : EvN K F G σ te xs) : EvX K F G σ te xs := fun H e g Q k =>
  h H e g Q fun p us F' H' s n0 n1 h2 r => k _ _ H' (s.frz n0 n1 h2) ⟨p, us, rfl, SqL.of upd_same, r.imp fun _ _ => Rep.mono (Ex.new n1)⟩
theorem EvN.up {xs : List α} (h : EvN K F G σ te xs) (e : Ex F F') : EvN K F' G σ te xs := fun H e1 g Q k =>
  h H (e.trans e1) g Q fun p us F2 H2 s n0 n1 h2 r => by
    obtain ⟨s2, e3⟩ := s.up e e1
    refine k p us _ H2 s2 n0 ?_ h2 (r.imp fun _ _ => Rep.mono e3)
    unfold cup
    cases q : F' p with
    | some o => rw [e1 p o q] at n0; cases n0
    | none => exact n1
theorem EvN.is {xs ys : List α} (h : EvN K F G σ te xs) (e : xs = ys) : EvN K F G σ te ys := e ▸ h
theorem en_callL1 {pre : α → Prop} {f : α → List δ} (ha : EvX K F G σ ta x) (hp : pre x) : EvN K F G σ (tCall (PuL1 K pre f) [] E (tCons ta tNil)) (f x) := fun H e g Q k =>
  ha H e g _ fun v F1 H1 s1 r1 => ⟨F1, x, v, rfl, s1.fh, r1, hp, fun p us F2 H2 s2 n0 n1 h2 r2 => k _ _ _ H2 (s1.trans s2) (Ex.dom s1.hh n0) n1 h2 r2⟩
theorem en_callL2 {pre : α → β → Prop} {f : α → β → List δ} (ha : EvX K F G σ ta x) (hb : EvX K F G σ tb y) (hp : pre x y) : EvN K F G σ (tCall (PuL2 K pre f) [] E (tCons ta (tCons tb tNil))) (f x y) := fun H e g Q k =>
  ha H e g _ fun v F1 H1 s1 r1 => (hb.up s1.ff) H1 s1.fh (g.trans s1.hh) _ fun w F2 H2 s2 r2 =>
    ⟨F2, x, y, v, w, rfl, s2.fh, Rep.mono s2.ff r1, r2, hp, fun p us F3 H3 s3 n0 n1 h2 r3 => k _ _ _ H3 ((s1.trans s2).trans s3) (Ex.dom (s1.hh.trans s2.hh) n0) n1 h2 r3⟩
theorem en_lst {tr : TA} {xs : List α} (h : EvL K F G σ tr xs) (hl : xs.length ≤ 100000) : EvN K F G σ (tLst tr) xs := fun H e g Q k =>
  h H e g _ fun vs F1 H1 s1 r1 => ⟨by rw [r1.len]; exact sz_of hl, fun p hp => k p vs _ _ (s1.own hp) (Ex.dom s1.hh hp) (fresh_back s1.fh hp) upd_same r1⟩
theorem en_list {xs : List α} (ha : EvX K F G σ ta xs) : EvN K F G σ (tCB (rListA K) (tCons ta tNil)) xs := fun H e g Q k =>
  ha H e g _ fun u F1 H1 s1 h1 => by
    obtain ⟨a, vs, rfl, hs, hv⟩ := h1
    exact .inl ⟨a, vs, rfl, .inl (ex_l s1.fh hs), fun l hl => k l vs _ _ (s1.own hl) (Ex.dom s1.hh hl) (fresh_back s1.fh hl) upd_same hv⟩
theorem en_rng {n : Int} (ha : EvX K F G σ ta n) (hn : -100000 ≤ n ∧ n ≤ 100000) : EvN K F G σ (tLstRg (tRg1 ta)) (rng n) := fun H e g Q k =>
  ha H e g _ fun u F1 H1 s1 h1 => by
    cases h1
    refine ⟨n, rfl, ⟨by omega, by omega, by omega, by omega, by omega⟩, fun l hl => k l _ _ _ (s1.own hl) (Ex.dom s1.hh hl) (fresh_back s1.fh hl) upd_same ?_⟩
    refine all2_ints.mpr ?_
    simp [rgV, rng]
theorem ev_rngL {n : Int} (ha : EvX K F G σ ta n) (hn : -100000 ≤ n ∧ n ≤ 100000) : EvX K F G σ (tLstRg (tRg1 ta)) (rng n) := (en_rng ha hn).ev
theorem en_lc {wi : TI} {g : TG} {tt : TT} {vs : List Nat} {xs : List α} {B : Hp → α → L2.St → L2.St → Prop} (f : α → Bool) (ee : α → β) (hi : IT K F G σ wi xs) (hg : Tgt K g B) (hn : xs.length ≤ 100000)
    (hw : ∀ F' x σ', B F' x (wipe σ vs) σ' → wipe σ' vs = wipe σ vs)
    (ht : ∀ F' x σ', x ∈ xs → Ex F F' → B F' x (wipe σ vs) σ' → EvT F' G σ' tt (f x))
    (he : ∀ F' x σ', x ∈ xs → f x = true → Ex F F' → B F' x (wipe σ vs) σ' → EvX K F' G σ' te (ee x)) :
    EvN K F G σ (tLc wi g tt te vs) ((xs.filter f).map ee) := fun H0 e0 g0 Q k =>
  hi H0 e0 g0 _ fun J F1 H1 s1 wx D hD => by
    obtain ⟨Gd, Y, w, hgd, hy⟩ := id wx
    have g1 : Ex G H1 := g0.trans s1.hh
    refine lc_it w (fun i H => ∃ F' acc, Stp F1 H1 F' H ∧ F' D = none ∧ H D = some (.lst acc) ∧ All2 (R K F') acc (((xs.take i).filter f).map ee))
      ⟨F1, [], (Stp.refl s1.fh).own hD, fresh_back s1.fh hD, upd_same, by simp; exact .nil⟩
      (fun i H _ ⟨F', acc, s, _⟩ => hgd H (s.ff.trans s.fh)) ?_ ?_
    · rintro i v H H' hin ⟨F', acc, s, fD, hDa, ha⟩ y
      obtain ⟨x, hx, F2, s2, r2⟩ := hy i H v H' (s.ff.trans s.fh) hin y
      obtain ⟨s3, e3⟩ := s2.up s.ff s.fh
      have r3 := Rep.mono e3 r2
      have hDa' : H' D = some (.lst acc) := s3.hh D _ hDa
      have fD' : cup F' F2 D = none := s3.fno hDa fD
      have s4 := s.trans s3
      have hxm : x ∈ xs := List.mem_of_getElem? hx
      have ht1 : xs.take (i + 1) = xs.take i ++ [x] := by
        rw [List.take_add_one, hx]; rfl
      have hlen : acc.length < sizeLine := by
        have h1 := ha.len
        have h2 : (((xs.take i).filter f).map ee).length ≤ i := by
          rw [List.length_map]
          exact Nat.le_trans (List.length_filter_le _ _) (by rw [List.length_take]; exact Nat.min_le_left _ _)
        exact Nat.lt_of_lt_of_le (show acc.length < 100000 by omega) (by decide)
      refine hg v x _ (cup F' F2) H' r3 s3.fh _ fun σ' hb => ⟨hw _ _ _ hb, ?_⟩
      refine ht _ x σ' hxm (s1.ff.trans s4.ff) hb H' s3.fh (g1.trans s4.hh) _ fun H3 e3 => ?_
      cases hf : f x with
      | false =>
        show ∃ F' acc, _
        refine ⟨cup F' F2, acc, s4.ext e3, fD', e3 D _ hDa', ?_⟩
        rw [ht1, List.filter_append, List.filter_cons_of_neg (by rw [hf]; decide)]
        simp only [List.filter_nil, List.append_nil]
        exact ha.imp fun _ _ => Rep.mono s3.ff
      | true =>
        show te σ' H3 _
        refine he _ x σ' hxm hf (s1.ff.trans s4.ff) hb H3 (s3.fh.trans e3) ((g1.trans s4.hh).trans e3) _ fun u F5 H5 s5 r5 => ?_
        have s6 := (s4.ext e3).trans s5
        have hD5 := s5.hh D _ (e3 D _ hDa')
        have fD5 : F5 D = none := s5.fno (e3 D _ hDa') fD'
        refine ⟨acc, hD5, hlen, F5, acc ++ [u], s6.mut hD fD5, fD5, upd_same, ?_⟩
        rw [ht1, List.filter_append, List.map_append, List.filter_cons_of_pos (by rw [hf])]
        exact (ha.imp fun _ _ => Rep.mono (s3.ff.trans s5.ff)).app (.cons r5 .nil)
    · rintro H ⟨F', acc, s, fD, hDa, ha⟩
      rw [List.take_length] at ha
      exact k D acc F' H (s1.trans s) (Ex.dom s1.hh hD) fD hDa ha
theorem en_lcy {wi : TI} {g : TG} {vs : List Nat} {xs : List α} {B : Hp → α → L2.St → L2.St → Prop} (ee : α → β) (hi : IT K F G σ wi xs) (hg : Tgt K g B) (hn : xs.length ≤ 100000)
    (hw : ∀ F' x σ', B F' x (wipe σ vs) σ' → wipe σ' vs = wipe σ vs)
    (he : ∀ F' x σ', x ∈ xs → Ex F F' → B F' x (wipe σ vs) σ' → EvX K F' G σ' te (ee x)) :
    EvN K F G σ (tLc wi g tYes te vs) (xs.map ee) :=
  (en_lc (fun _ => true) ee hi hg hn hw (fun _ _ _ _ _ _ => et_yes) (fun F' x σ' h1 _ h2 h3 => he F' x σ' h1 h2 h3)).is (by rw [filter_true])

/-! ### statements -/
variable {D : Ends} {tz tu tw : TS} {tt : TT}
/-- te by what it gives, from a heap on which all is known (G := H) -/
theorem EvX.go (h : EvX K F H σ te x) (e : Ex F H) {Q : VK} (k : ∀ v F' H', Stp F H F' H' → R K F' v x → Q v H') : te σ H Q := h H e (Ex.refl H) Q k
theorem EvT.go {b : Bool} (h : EvT F H σ tt b) (e : Ex F H) {Q : Bool → Hp → Prop} (k : ∀ H', Ex H H' → Q b H') : tt σ H Q := h H e (Ex.refl H) Q k
theorem EvN.go {xs : List α} (h : EvN K F H σ te xs) (e : Ex F H) {Q : VK} (k : ∀ p us F' H', Stp F H F' H' → H p = none → F' p = none → H' p = some (.lst us) → All2 (R K F') us xs → Q (.ref p) H') : te σ H Q := h H e (Ex.refl H) Q k
theorem x_asg {i : Nat} (h : EvX K F H σ te x) (e : Ex F H) (k : ∀ v F' H', Stp F H F' H' → R K F' v x → tz D (σ.set i (some v)) H') : tSeq (tAsg te (gName i)) tz D σ H := h.go e k
theorem x_asgN {i : Nat} {xs : List α} (h : EvN K F H σ te xs) (e : Ex F H) (k : ∀ p us F' H', Stp F H F' H' → H p = none → F' p = none → H' p = some (.lst us) → All2 (R K F') us xs → tz D (σ.set i (some (.ref p))) H') : tSeq (tAsg te (gName i)) tz D σ H := h.go e k
theorem x_ret (h : EvX K F H σ te x) (e : Ex F H) (k : ∀ v F' H', Stp F H F' H' → R K F' v x → D.rt v H') : tRet te D σ H := h.go e k
theorem x_if {b : Bool} (h : EvT F H σ tt b) (e : Ex F H) (h1 : b = true → ∀ H', Ex H H' → tu { D with nx := tz D } σ H') (h2 : b = false → ∀ H', Ex H H' → tw { D with nx := tz D } σ H') : tSeq (tIfS tt tu tw) tz D σ H :=
  h.go e fun H' e' => by
    cases b with
    | true => exact h1 rfl H' e'
    | false => exact h2 rfl H' e'
theorem y_if {b : Bool} (h : EvT F H σ tt b) (e : Ex F H) (h1 : b = true → ∀ H', Ex H H' → tu D σ H') (h2 : b = false → ∀ H', Ex H H' → tw D σ H') : tIfS tt tu tw D σ H :=
  h.go e fun H' e' => by
    cases b with
    | true => exact h1 rfl H' e'
    | false => exact h2 rfl H' e'
end
end L3

namespace L3
open PySem L2 Evl
open Rep (R)
open RepD (toD)
section
variable {K : PySem.W.Frag} {F F' G H H' : Hp} {σ : L2.St} {ta tb tc te tl : TE} {tt : TT}
variable {α β γ δ : Type} [Rep α] [Rep β] [Rep γ] [Rep δ] {x : α} {y : β} {z : γ} {E : XK}
variable {D : Ends} {tz tu tw : TS}

/-! ### loops -/
theorem y_for {wi : TI} {g : TG} {xs : List α} {B : Hp → α → L2.St → L2.St → Prop} (hi : IT K F H σ wi xs) (e : Ex F H) (hg : Tgt K g B)
    (k : ∀ F1 H1, Stp F H F1 H1 → ∃ Inv : Nat → Hp → L2.St → Hp → Prop, Inv 0 F1 σ H1 ∧ (∀ i F' σ' H', Inv i F' σ' H' → Ex F1 F' ∧ Ex F' H') ∧
      (∀ i x F' σ' H', xs[i]? = some x → Inv i F' σ' H' → ∀ F2 H2, Stp F' H' F2 H2 → ∀ σ2, B F2 x σ' σ2 →
        tu { D with nx := fun σ H => ∃ F, Inv (i + 1) F σ H, ct := fun σ H => ∃ F, Inv (i + 1) F σ H, bk := D.nx } σ2 H2) ∧
      (∀ F' σ' H', Inv xs.length F' σ' H' → D.nx σ' H')) : tFor wi g tu D σ H :=
  hi H e (Ex.refl H) _ fun J F1 H1 s1 wx => by
    obtain ⟨Inv, h0, hE, ht, hd⟩ := k F1 H1 s1
    obtain ⟨Gd, Y, w, hgd, hy⟩ := id wx
    refine for_it w (fun i σ H => ∃ F, Inv i F σ H) ⟨F1, h0⟩ (fun i σ H _ ⟨F', v⟩ => hgd H ((hE i F' σ H v).1.trans (hE i F' σ H v).2)) ?_ (fun σ H ⟨F', v⟩ => hd F' σ H v)
    rintro i v σ' H2 H3 hin ⟨F', iv⟩ yy
    obtain ⟨e1, e2⟩ := hE i F' σ' H2 iv
    obtain ⟨x, hx, F2, s2, r2⟩ := hy i H2 v H3 (e1.trans e2) hin yy
    obtain ⟨s3, e3⟩ := s2.up e1 e2
    exact hg v x σ' (cup F' F2) H3 (Rep.mono e3 r2) s3.fh _ fun σ2 hb => ht i x F' σ' H2 hx iv _ _ s3 σ2 hb
theorem x_for {wi : TI} {g : TG} {xs : List α} {B : Hp → α → L2.St → L2.St → Prop} (hi : IT K F H σ wi xs) (e : Ex F H) (hg : Tgt K g B)
    (k : ∀ F1 H1, Stp F H F1 H1 → ∃ Inv : Nat → Hp → L2.St → Hp → Prop, Inv 0 F1 σ H1 ∧ (∀ i F' σ' H', Inv i F' σ' H' → Ex F1 F' ∧ Ex F' H') ∧
      (∀ i x F' σ' H', xs[i]? = some x → Inv i F' σ' H' → ∀ F2 H2, Stp F' H' F2 H2 → ∀ σ2, B F2 x σ' σ2 →
        tu { D with nx := fun σ H => ∃ F, Inv (i + 1) F σ H, ct := fun σ H => ∃ F, Inv (i + 1) F σ H, bk := tz D } σ2 H2) ∧
      (∀ F' σ' H', Inv xs.length F' σ' H' → tz D σ' H')) : tSeq (tFor wi g tu) tz D σ H :=
  y_for (D := { D with nx := tz D }) hi e hg k
theorem y_while (Inv : Nat → Hp → L2.St → Hp → Prop) (m0 : Nat) (h0 : Inv m0 F σ H)
    (k : ∀ m F' σ' H', Inv m F' σ' H' → Ex F' H' ∧ ∃ b, EvT F' H' σ' tt b ∧
      (b = true → ∀ H2, Ex H' H2 → tu { D with nx := fun σ H => ∃ m' F, m' < m ∧ Inv m' F σ H, ct := fun σ H => ∃ m' F, m' < m ∧ Inv m' F σ H, bk := D.nx } σ' H2) ∧
      (b = false → ∀ H2, Ex H' H2 → D.nx σ' H2)) : tWhile tt tu D σ H :=
  ⟨fun m σ H => ∃ F, Inv m F σ H, ⟨m0, F, h0⟩, fun m σ' H' ⟨F', iv⟩ => by
    obtain ⟨e, b, hb, h1, h2⟩ := k m F' σ' H' iv
    refine hb.go e fun H2 e2 => ?_
    cases b with
    | true => exact ⟨_, fun σ3 H3 ⟨m', F3, hm, iv3⟩ => ⟨m', hm, F3, iv3⟩, h1 rfl H2 e2⟩
    | false => exact h2 rfl H2 e2⟩
theorem x_while (Inv : Nat → Hp → L2.St → Hp → Prop) (m0 : Nat) (h0 : Inv m0 F σ H)
    (k : ∀ m F' σ' H', Inv m F' σ' H' → Ex F' H' ∧ ∃ b, EvT F' H' σ' tt b ∧
      (b = true → ∀ H2, Ex H' H2 → tu { D with nx := fun σ H => ∃ m' F, m' < m ∧ Inv m' F σ H, ct := fun σ H => ∃ m' F, m' < m ∧ Inv m' F σ H, bk := tz D } σ' H2) ∧
      (b = false → ∀ H2, Ex H' H2 → tz D σ' H2)) : tSeq (tWhile tt tu) tz D σ H :=
  y_while (D := { D with nx := tz D }) Inv m0 h0 k

/-! ### texts -/
theorem ev_strI {i : Int} (ha : EvX K F G σ ta i) (hl : i.natAbs < 2 ^ 200) : EvX K F G σ (tCB (fun xs H Q => ∃ i, xs = [.int i] ∧ i.natAbs.log2 < 1920 ∧ Q (.str (toString i)) H) (tCons ta tNil)) (toString i : Str) :=
  ev_cb1 ha fun F1 u _ h1 H1 e1 _ Q k => by
    cases h1
    refine ⟨i, rfl, ?_, k _ F1 H1 (Stp.refl e1) rfl⟩
    exact Nat.lt_of_lt_of_le (PySem.Flt.log2_lt_of (by decide) hl) (by decide)
end

/-! ### kinds -/
def kindOf : PyData → String
  | .none => "NoneType"
  | .bool _ => "bool"
  | .int _ => "int"
  | .str _ => "str"
  | .list _ => "list"
  | .tuple _ => "tuple"
  | .dict _ => "dict"
theorem tyx_of {K : PySem.W.Frag} {H : Hp} {v : V} {d : PyData} (h : Dp K H v d) : TyX K H v (.type (kindOf d)) := by
  cases h with
  | non => exact .base .non
  | bl b => exact .base (.bl b)
  | int i => exact .base (.int i)
  | str x => exact .base (.str x)
  | lst h _ =>
    rcases h with (h | ⟨o, h⟩) | ⟨o, its, n, h, c, _⟩
    · exact .base (.lst h)
    · exact .base (.frz h)
    · exact .kList h c
  | tup h _ =>
    rcases h with (h | ⟨o, h⟩) | ⟨o, its, n, h, c, _⟩
    · exact .base (.tup h)
    · exact .fTuple h
    · exact .kTuple h c
/-- isinstance by kinds -/
def isK (d : PyData) (T : String) : Bool := (kitB (kindOf d) T).getD false
def KB (T : String) : Prop := kitB "NoneType" T ≠ none ∧ kitB "bool" T ≠ none ∧ kitB "int" T ≠ none ∧ kitB "str" T ≠ none ∧ kitB "list" T ≠ none ∧ kitB "tuple" T ≠ none ∧ kitB "dict" T ≠ none
theorem kitB_some {T : String} (h : KB T) (d : PyData) : kitB (kindOf d) T = some (isK d T) := by
  obtain ⟨h1, h2, h3, h4, h5, h6, h7⟩ := h
  unfold isK
  have g : ∀ o : Option Bool, o ≠ none → o = some (o.getD false) := fun o h => by
    cases o with
    | none => exact absurd rfl h
    | some b => rfl
  cases d <;> exact g _ (by assumption)
theorem kb_bool : KB "bool" := by unfold KB; decide +kernel
theorem kb_int : KB "int" := by unfold KB; decide +kernel
theorem kb_str : KB "str" := by unfold KB; decide +kernel
theorem kb_list : KB "list" := by unfold KB; decide +kernel
theorem kb_tuple : KB "tuple" := by unfold KB; decide +kernel
theorem isK_bool : ∀ d : PyData, isK d "bool" = match d with | .bool _ => true | _ => false := by
  have h : isK .none "bool" = false ∧ isK (.bool true) "bool" = true ∧ isK (.int 0) "bool" = false ∧ isK (.str Str.empty) "bool" = false ∧ isK (.list []) "bool" = false ∧ isK (.tuple []) "bool" = false ∧ isK (.dict []) "bool" = false := by unfold isK kindOf; decide +kernel
  intro d
  cases d <;> first | exact h.1 | exact h.2.1 | exact h.2.2.1 | exact h.2.2.2.1 | exact h.2.2.2.2.1 | exact h.2.2.2.2.2.1 | exact h.2.2.2.2.2.2
theorem isK_int : ∀ d : PyData, isK d "int" = match d with | .bool _ => true | .int _ => true | _ => false := by
  have h : isK .none "int" = false ∧ isK (.bool true) "int" = true ∧ isK (.int 0) "int" = true ∧ isK (.str Str.empty) "int" = false ∧ isK (.list []) "int" = false ∧ isK (.tuple []) "int" = false ∧ isK (.dict []) "int" = false := by unfold isK kindOf; decide +kernel
  intro d
  cases d <;> first | exact h.1 | exact h.2.1 | exact h.2.2.1 | exact h.2.2.2.1 | exact h.2.2.2.2.1 | exact h.2.2.2.2.2.1 | exact h.2.2.2.2.2.2
theorem isK_str : ∀ d : PyData, isK d "str" = match d with | .str _ => true | _ => false := by
  have h : isK .none "str" = false ∧ isK (.bool true) "str" = false ∧ isK (.int 0) "str" = false ∧ isK (.str Str.empty) "str" = true ∧ isK (.list []) "str" = false ∧ isK (.tuple []) "str" = false ∧ isK (.dict []) "str" = false := by unfold isK kindOf; decide +kernel
  intro d
  cases d <;> first | exact h.1 | exact h.2.1 | exact h.2.2.1 | exact h.2.2.2.1 | exact h.2.2.2.2.1 | exact h.2.2.2.2.2.1 | exact h.2.2.2.2.2.2
theorem isK_list : ∀ d : PyData, isK d "list" = match d with | .list _ => true | _ => false := by
  have h : isK .none "list" = false ∧ isK (.bool true) "list" = false ∧ isK (.int 0) "list" = false ∧ isK (.str Str.empty) "list" = false ∧ isK (.list []) "list" = true ∧ isK (.tuple []) "list" = false ∧ isK (.dict []) "list" = false := by unfold isK kindOf; decide +kernel
  intro d
  cases d <;> first | exact h.1 | exact h.2.1 | exact h.2.2.1 | exact h.2.2.2.1 | exact h.2.2.2.2.1 | exact h.2.2.2.2.2.1 | exact h.2.2.2.2.2.2
theorem isK_tuple : ∀ d : PyData, isK d "tuple" = match d with | .tuple _ => true | _ => false := by
  have h : isK .none "tuple" = false ∧ isK (.bool true) "tuple" = false ∧ isK (.int 0) "tuple" = false ∧ isK (.str Str.empty) "tuple" = false ∧ isK (.list []) "tuple" = false ∧ isK (.tuple []) "tuple" = true ∧ isK (.dict []) "tuple" = false := by unfold isK kindOf; decide +kernel
  intro d
  cases d <;> first | exact h.1 | exact h.2.1 | exact h.2.2.1 | exact h.2.2.2.1 | exact h.2.2.2.2.1 | exact h.2.2.2.2.2.1 | exact h.2.2.2.2.2.2
/-- data of any kind -/
instance : Rep PyData := ⟨fun K F v d => Dp K F v d, fun e h => dp_mono e h⟩
section
variable {K : PySem.W.Frag} {F F' G H H' : Hp} {σ : L2.St} {ta tb tc te tl : TE} {tt : TT} {α : Type} [Rep α] [DecidableEq α] [RepD α]
theorem EvX.dat {x : α} (h : EvX K F G σ te x) : EvX K F G σ te (toD x) := fun H e g Q k => h H e g Q fun v F' H' s r => k v F' H' s (RepD.dp r)
theorem ev_isi {d : PyData} {T : String} (kb : KB T) (ha : EvX K F G σ ta d) : EvX K F G σ (tCB (rIsi K) (tCons ta (tCons (tC (.ty T)) tNil))) (isK d T) := fun H e g Q k =>
  ha H e g _ fun u F1 H1 s1 r1 => ⟨u, .ty T, .type (kindOf d), .type T, isK d T, rfl, .ty T, tyx_of (dp_mono s1.fh r1), kit_ty (kitB_some kb d), k _ F1 H1 s1 rfl⟩
theorem ev_eqP {d e : PyData} (hd : SeqAt.shaped d = true) (he : SeqAt.shaped e = true) (ha : EvX K F G σ ta d) (hb : EvX K F G σ tb e) : EvX K F G σ (tOp (rEqA K) ta tb) (PyData.eqv d e) :=
  ev_op ha hb fun F1 u w _ h1 h2 H1 e1 _ Q k => .inr ⟨d, e, dp_mono e1 h1, dp_mono e1 h2, hd, he, k _ F1 H1 (Stp.refl e1) rfl⟩
end
/-- alike, part by part, each of its own kind -/
def datList : PyData → List PyData
  | .list l => l
  | .tuple l => l
  | _ => []
mutual
def alike : PyData → PyData → Bool
  | .none, .none => true
  | .bool a, .bool b => a == b
  | .int a, .int b => a == b
  | .str a, .str b => a == b
  | .list a, .list b => alikeAll a b
  | .tuple a, .tuple b => alikeAll a b
  | _, _ => false
def alikeAll : List PyData → List PyData → Bool
  | [], [] => true
  | a :: l, b :: m => alike a b && alikeAll l m
  | _, _ => false
end
class AlikeD (α : Type) [Rep α] [DecidableEq α] [RepD α] : Prop where
  al : ∀ x y : α, alike (toD x) (toD y) = decide (x = y)
instance : AlikeD Int := ⟨fun x y => by show alike (.int x) (.int y) = _; simp [alike, Bool.beq_eq_decide_eq]⟩
instance : AlikeD Bool := ⟨fun x y => by show alike (.bool x) (.bool y) = _; simp [alike, Bool.beq_eq_decide_eq]⟩
instance : AlikeD Str := ⟨fun x y => by
  show alike (.str x) (.str y) = _
  simp only [alike]
  by_cases h : x = y
  · subst h; simp
  · rw [decide_eq_false h]; exact beq_eq_false_iff_ne.mpr h⟩
section
variable {α β : Type} [Rep α] [DecidableEq α] [RepD α] [AlikeD α] [Rep β] [DecidableEq β] [RepD β] [AlikeD β]
theorem alikeAll_of : ∀ xs ys : List α, alikeAll (xs.map toD) (ys.map toD) = decide (xs = ys)
  | [], [] => by simp [alikeAll]
  | [], y :: ys => by simp [alikeAll]
  | x :: xs, [] => by simp [alikeAll]
  | x :: xs, y :: ys => by simp only [List.map_cons, alikeAll, AlikeD.al, alikeAll_of xs ys, List.cons.injEq, Bool.decide_and]
instance : AlikeD (List α) := ⟨fun x y => by show alike (.list (x.map toD)) (.list (y.map toD)) = _; simp only [alike]; exact alikeAll_of x y⟩
instance : AlikeD (α × β) := ⟨fun x y => by
  obtain ⟨a, b⟩ := x
  obtain ⟨c, d⟩ := y
  show alike (.tuple [toD a, toD b]) (.tuple [toD c, toD d]) = _
  simp only [alike, alikeAll, AlikeD.al, Bool.and_true, Prod.mk.injEq, Bool.decide_and]⟩
end
end L3

namespace L3
open PySem L2 Evl
open Rep (R)
open RepD (toD)
theorem intBits_le {x : Int} {k : Nat} (h : x.natAbs < 2 ^ k) (h0 : 0 < k) : Builtin.Int.intBits x ≤ k := by
  unfold Builtin.Int.intBits
  split
  · omega
  · have := PySem.Flt.log2_lt_of h0 h
    omega
theorem pow_ok {x : Int} {k n : Nat} (h : x.natAbs < 2 ^ k) (h0 : 0 < k) (hn : k * n ≤ 2 ^ 27) : CPowW x (n : Int) := by
  refine ⟨by omega, ?_⟩
  have h1 := intBits_le h h0
  have h2 : Builtin.Int.intBits x * n ≤ k * n := Nat.mul_le_mul_right _ h1
  have h3 : Builtin.Int.intBits x * n ≤ 2 ^ 27 := Nat.le_trans h2 hn
  calc ((Builtin.Int.intBits x : Nat) : Int) * (n : Int) = ((Builtin.Int.intBits x * n : Nat) : Int) := by rw [Int.natCast_mul]
    _ ≤ ((2 ^ 27 : Nat) : Int) := Int.ofNat_le.mpr h3
    _ = 2 ^ 27 := by norm_cast
section
variable {K : PySem.W.Frag} {F F' G H H' : Hp} {σ : L2.St} {ta tb tc te tl : TE} {tt : TT}
variable {α β γ δ : Type} [Rep α] [Rep β] [Rep γ] [Rep δ] {x : α} {y : β} {z : γ} {E : XK}
theorem ev_chain {r r' : R2} {a b : Bool} (ha : EvX K F G σ ta x) (hb : EvX K F G σ tb y) (hc : EvX K F G σ tc z)
    (hr : ∀ F1 u w, Ex F F1 → R K F1 u x → R K F1 w y → ∀ H1, Ex F1 H1 → Ex G H1 → ∀ Q : VK, (∀ H2, Ex H1 H2 → Q (.bl a) H2) → r u w H1 Q)
    (hr' : a = true → ∀ F1 u w, Ex F F1 → R K F1 u y → R K F1 w z → ∀ H1, Ex F1 H1 → Ex G H1 → ∀ Q : VK, (∀ H2, Ex H1 H2 → Q (.bl b) H2) → r' u w H1 Q) :
    EvX K F G σ (tChain r r' ta tb tc) (a && b) := fun H e g Q k =>
  ha H e g _ fun u F1 H1 s1 r1 => (hb.up s1.ff) H1 s1.fh (g.trans s1.hh) _ fun w F2 H2 s2 r2 =>
    hr F2 u w (s1.ff.trans s2.ff) (Rep.mono s2.ff r1) r2 H2 s2.fh ((g.trans s1.hh).trans s2.hh) _ fun H3 e3 => ⟨a, rfl, by
      have s3 := (s1.trans s2).ext e3
      cases a with
      | false => exact k _ F2 H3 s3 rfl
      | true =>
        show tc σ H3 _
        refine (hc.up s3.ff) H3 s3.fh (g.trans s3.hh) _ fun t F4 H4 s4 r4 => ?_
        exact hr' rfl F4 w t (s3.ff.trans s4.ff) (Rep.mono s4.ff r2) r4 H4 s4.fh ((g.trans s3.hh).trans s4.hh) Q fun H5 e5 => k _ F4 H5 ((s3.trans s4).ext e5) rfl⟩
theorem ev_ltle {i j l : Int} (ha : EvX K F G σ ta i) (hb : EvX K F G σ tb j) (hc : EvX K F G σ tc l) :
    EvX K F G σ (tChain (rI0 fun i j => .bl (decide (i < j))) (rI0 fun i j => .bl (decide (i ≤ j))) ta tb tc) (decide (i < j) && decide (j ≤ l)) :=
  ev_chain ha hb hc (fun F1 u w _ h1 h2 H1 e1 _ Q k => ⟨i, j, h1, h2, k H1 (Ex.refl _)⟩) (fun _ F1 u w _ h1 h2 H1 e1 _ Q k => ⟨j, l, h1, h2, k H1 (Ex.refl _)⟩)
theorem ev_lelt {i j l : Int} (ha : EvX K F G σ ta i) (hb : EvX K F G σ tb j) (hc : EvX K F G σ tc l) :
    EvX K F G σ (tChain (rI0 fun i j => .bl (decide (i ≤ j))) (rI0 fun i j => .bl (decide (i < j))) ta tb tc) (decide (i ≤ j) && decide (j < l)) :=
  ev_chain ha hb hc (fun F1 u w _ h1 h2 H1 e1 _ Q k => ⟨i, j, h1, h2, k H1 (Ex.refl _)⟩) (fun _ F1 u w _ h1 h2 H1 e1 _ Q k => ⟨j, l, h1, h2, k H1 (Ex.refl _)⟩)
/-! None -/
theorem ev_isN {o : Option α} (hn : ∀ F' v (x : α), R K F' v x → v ≠ .non) (ha : EvX K F G σ ta o) : EvX K F G σ (tOp (fun x y H Q => y = .non ∧ Q (.bl (decide (x = .non))) H) ta (tC .non)) o.isNone := fun H e g Q k =>
  ha H e g _ fun u F1 H1 s1 r1 => ⟨rfl, k _ F1 H1 s1 (by
    cases o with
    | none => cases (show u = .non from r1); rfl
    | some x => show V.bl _ = V.bl false; rw [decide_eq_false (hn F1 u x r1)])⟩
theorem nn_int {F' : Hp} {v : V} {x : Int} (h : R K F' v x) : v ≠ .non := fun q => by cases h; cases q
theorem nn_list {F' : Hp} {v : V} {x : List α} (h : R K F' v x) : v ≠ .non := fun q => by obtain ⟨a, vs, rfl, _⟩ := h; cases q
theorem nn_pair {F' : Hp} {v : V} {x : α × β} (h : R K F' v x) : v ≠ .non := fun q => by obtain ⟨a, u, w, rfl, _⟩ := h; cases q
/-! texts -/
def signs (s : Str) : List Str := (s.cps.toList).map fun c => (⟨#[c]⟩ : Str)
theorem it_str {s : Str} (h : EvX K F G σ tl s) : IT K F G σ (iStr tl) (signs s) := fun H e g Rr k =>
  h H e g _ fun v F' H' st r => by
    cases r
    have hl : (signs s).length = s.cps.size := by simp [signs]
    refine ⟨s, rfl, k _ F' H' st ⟨fun _ => True, _, by rw [hl]; exact walk_str, fun _ _ => trivial, fun i H2 v H3 e2 hi y => ?_⟩⟩
    obtain ⟨rfl, c, hc, rfl⟩ := y
    refine ⟨⟨#[c]⟩, ?_, F', Stp.refl e2, rfl⟩
    unfold signs
    rw [List.getElem?_map]
    have : (s.cps.toList)[i]? = some c := by rw [← hc]; simp
    rw [this]; rfl
theorem ev_inS {c : Nat} {s : Str} (ha : EvX K F G σ ta (⟨#[c]⟩ : Str)) (hb : EvX K F G σ tb s) : EvX K F G σ (tOp (rInA K) ta tb) (decide (c ∈ s.cps.toList)) :=
  ev_op ha hb fun F1 u w _ h1 h2 H1 e1 _ Q k => .inr (.inr (.inr ⟨c, s, h1, h2, k _ F1 H1 (Stp.refl e1) rfl⟩))
theorem ev_ixS {s : Str} {i : Int} {c : Nat} (ha : EvX K F G σ ta s) (hb : EvX K F G σ tb i) (hl : s.length ≤ sizeLine) (hc : atI (s.cps.toList) i = some c) : EvX K F G σ (tIx K ta tb) (⟨#[c]⟩ : Str) :=
  EvX.or1 (ev_op ha hb fun F1 u w _ h1 h2 H1 e1 _ Q k => .inr (.inr ⟨s, i, c, h1, h2, hl, hc, k _ F1 H1 (Stp.refl e1) rfl⟩))
theorem ev_m1 {r : V → List V → Hp → VK → Prop} {s : Str} (ha : EvX K F G σ ta s) (hb : EvX K F G σ tb y)
    (hr : ∀ F1 w, Ex F F1 → R K F1 w y → ∀ H1, Ex F1 H1 → Ex G H1 → ∀ Q : VK, (∀ v F2 H2, Stp F1 H1 F2 H2 → R K F2 v z → Q v H2) → r (.str s) [w] H1 Q) :
    EvX K F G σ (tM1 r ta tb) z := fun H e g Q k =>
  ha H e g _ fun u F1 H1 s1 r1 => ⟨⟨s, r1⟩, (hb.up s1.ff) H1 s1.fh (g.trans s1.hh) _ fun w F2 H2 s2 r2 => by
    cases r1
    exact hr F2 w (s1.ff.trans s2.ff) r2 H2 s2.fh ((g.trans s1.hh).trans s2.hh) Q fun v F3 H3 s3 r3 => k v F3 H3 ((s1.trans s2).trans s3) r3⟩
theorem ev_join {s : Str} {ys : List Str} (ha : EvX K F G σ ta s) (hb : EvX K F G σ tb ys) (hz : (ys.map (·.length)).sum + ys.length * s.length ≤ 16777216) :
    EvX K F G σ (tM1 (fun x xs H Q => ∃ a p, ∃ ys : List Str, x = .str a ∧ xs = [.ref p] ∧ (SqL K H p (ys.map V.str) ∨ SqT K H p (ys.map V.str)) ∧
      (ys.map (·.length)).sum + ys.length * a.length ≤ 16777216 ∧ Q (.str (Txt.join a ys)) H) ta tb) (Txt.join s ys) :=
  ev_m1 ha hb fun F1 w _ r H1 e1 _ Q k => by
    obtain ⟨p, vs, rfl, hs, hv⟩ := r
    have := all2_strs.mp hv
    subst this
    exact ⟨s, p, ys, rfl, rfl, .inl (ex_l e1 hs), hz, k _ F1 H1 (Stp.refl e1) rfl⟩
theorem ev_split {s t : Str} (ha : EvX K F G σ ta s) (hb : EvX K F G σ tb t) (h0 : (t.length == 0) = false) (hz : s.length + 2 ≤ sizeLine) :
    EvX K F G σ (tM1 (fun x xs H Q => ∃ a b, x = .str a ∧ xs = [.str b] ∧ (b.length == 0) = false ∧ a.length + 2 ≤ sizeLine ∧ rNewStrs (Txt.split a b) H Q) ta tb) (Txt.split s t) :=
  ev_m1 ha hb fun F1 w _ r H1 e1 _ Q k => by
    cases r
    exact ⟨s, t, rfl, rfl, h0, hz, fun p hp => k _ _ _ ((Stp.refl e1).new hp) ⟨p, _, rfl, SqL.of upd_same, all2_strs.mpr rfl⟩⟩
theorem ev_intS {s : Str} {n : Int} (ha : EvX K F G σ ta s) (h1 : PySem.intText? s = some n) (h2 : s.length ≤ 640) :
    EvX K F G σ (tCB (fun xs H Q => ∃ a n, xs = [.str a] ∧ PySem.intText? a = some n ∧ a.length ≤ 640 ∧ Q (.int n) H) (tCons ta tNil)) n :=
  ev_cb1 ha fun F1 u _ r H1 e1 _ Q k => by
    cases r
    exact ⟨s, n, rfl, h1, h2, k _ F1 H1 (Stp.refl e1) rfl⟩
theorem sl_any_ev {xs : List α} {hi : Option Int} {tho : TO} (ha : EvX K F G σ ta xs) (hh : ∀ H, Ex F H → Ex G H → ∀ Q : Option Int → Hp → Prop, (∀ H', Ex H H' → Q hi H') → tho σ H Q) :
    EvN K F G σ (tSl (rSlA K) ta tNoPart tho) (xs.take (HT.sIx xs.length xs.length hi)) := fun H e g Q k =>
  ha H e g _ fun u F1 H1 s1 r1 => hh H1 (e.trans s1.hh) (g.trans s1.hh) _ fun H2 e2 => by
    obtain ⟨a, vs, rfl, hs, hv⟩ := r1
    refine .inl ⟨a, vs, rfl, ex_l (s1.fh.trans e2) hs, fun p hp => k p _ _ _ ((s1.ext e2).own hp) (Ex.dom (s1.hh.trans e2) hp) (fresh_back (s1.fh.trans e2) hp) upd_same ?_⟩
    unfold cutV
    simp only [HT.sIx_none, List.drop_zero, Nat.sub_zero]
    rw [hv.len]
    exact hv.take _
theorem part_int {i : Int} (h : EvX K F G σ te i) : ∀ H, Ex F H → Ex G H → ∀ Q : Option Int → Hp → Prop, (∀ H', Ex H H' → Q (some i) H') → tPart te σ H Q := fun H e g Q k =>
  h H e g _ fun v F1 H1 s1 r1 => ⟨i, r1, k H1 s1.hh⟩
end
theorem seq0 {n : Nat} (h : 0 < n) : seqIndex? 0 n = some 0 := (ixN_seq (by unfold ixN; rw [if_pos (by omega), if_pos (by omega)]; rfl)).1
theorem seqN {n j : Nat} (h : j < n) : seqIndex? (j : Int) n = some j := (ixN_seq (ixN_nat h)).1
theorem all2_unsome {K : PySem.W.Frag} {F : Hp} {α : Type} [Rep α] : ∀ {vs : List V} {xs : List α}, All2 (R K F) vs (xs.map some) → All2 (R K F) vs xs
  | _, [], h => by cases h; exact .nil
  | _, x :: xs, h => by
    cases h with
    | cons p t => exact .cons p (all2_unsome t)
/-! ### draws: a list of a list and three numbers, changed by each draw -/
def Tray (F H : Hp) (t g : Addr) (n : Int) : Prop := F t = none ∧ F g = none ∧ t ≠ g ∧ ∃ (ds : List Int) (c fold cnt : Int),
  H t = some (.lst [.ref g, .int c, .int fold, .int cnt]) ∧ H g = some (.lst (ds.map V.int)) ∧ 0 ≤ fold ∧ fold < 2 ^ 61 ∧ 0 ≤ cnt ∧ cnt ≤ n
def TM (t g : Addr) : Addr → Prop := fun a => a = t ∨ a = g
theorem Tray.stp {F H F' H' : Hp} {t g : Addr} {n : Int} (T : Tray F H t g n) (s : Stp F H F' H') : Tray F' H' t g n := by
  obtain ⟨f1, f2, ne, ds, c, fold, cnt, h1, h2, h3⟩ := T
  exact ⟨(s.nw _ _ h1).trans f1, (s.nw _ _ h2).trans f2, ne, ds, c, fold, cnt, s.hh _ _ h1, s.hh _ _ h2, h3⟩
theorem Tray.le {F H : Hp} {t g : Addr} {n m : Int} (T : Tray F H t g n) (h : n ≤ m) : Tray F H t g m := by
  obtain ⟨f1, f2, ne, ds, c, fold, cnt, h1, h2, h3, h4, h5, h6⟩ := T
  exact ⟨f1, f2, ne, ds, c, fold, cnt, h1, h2, h3, h4, h5, by omega⟩
/-- a draw: some number below many -/
def sp_draw : Sp := fun vs H Q _ => ∃ F t g n many, vs = [.ref t, .int many] ∧ Ex F H ∧ Tray F H t g n ∧ n ≤ 10 ^ 9 ∧ 0 < many ∧ many ≤ 10 ^ 40 ∧
  ∀ r H', 0 ≤ r → r < many → StpM (TM t g) F H F H' → Tray F H' t g (n + 1) → Q (.int r) H'
end L3

namespace L3
open PySem L2 Evl
open Rep (R)
open RepD (toD)
section
variable {K : PySem.W.Frag} {F F' G H H' : Hp} {σ : L2.St} {ta tb tc te tl : TE} {tt : TT} {E : XK}
theorem dpAll_all2 : ∀ {vs : List V} {ds : List PyData}, DpAll K F vs ds → All2 (R K F) vs ds
  | _, _, .nil => .nil
  | _, _, .cons h t => .cons h (dpAll_all2 t)
theorem all2_dpAll : ∀ {vs : List V} {ds : List PyData}, All2 (R K F) vs ds → DpAll K F vs ds
  | _, _, .nil => .nil
  | _, _, .cons h t => .cons h (all2_dpAll t)
def isNone : PyData → Bool
  | .none => true
  | _ => false
theorem ev_isNP {d : PyData} (ha : EvX K F G σ ta d) : EvX K F G σ (tOp (fun x y H Q => y = .non ∧ Q (.bl (decide (x = .non))) H) ta (tC .non)) (isNone d) := fun H e g Q k =>
  ha H e g _ fun u F1 H1 s1 r1 => ⟨rfl, k _ F1 H1 s1 (by cases r1 <;> rfl)⟩
theorem ev_lenP {d : PyData} {l : List PyData} (hd : d = .list l ∨ d = .tuple l) (ha : EvX K F G σ ta d) : EvX K F G σ (tCB (rLenA K) (tCons ta tNil)) (l.length : Int) :=
  ev_cb1 ha fun F1 u _ h1 H1 e1 _ Q k => by
    rcases hd with rfl | rfl
    · cases h1 with
      | lst hs ha =>
        rename_i a xs
        have hl : xs.length = l.length := (dpAll_all2 ha).len
        exact .inl ⟨_, l.length, rfl, .inl ⟨xs, ex_l e1 hs, hl.symm⟩, k _ F1 H1 (Stp.refl e1) rfl⟩
    · cases h1 with
      | tup hs ha =>
        rename_i a xs
        have hl : xs.length = l.length := (dpAll_all2 ha).len
        exact .inl ⟨_, l.length, rfl, .inr ⟨xs, ex_t e1 hs, hl.symm⟩, k _ F1 H1 (Stp.refl e1) rfl⟩
theorem ev_ixP {d x : PyData} {l : List PyData} {i : Int} (hd : d = .list l ∨ d = .tuple l) (ha : EvX K F G σ ta d) (hb : EvX K F G σ tb i) (hx : atI l i = some x) : EvX K F G σ (tIx K ta tb) x := by
  refine EvX.or1 (ev_op ha hb fun F1 u w _ h1 h2 H1 e1 _ Q k => ?_)
  rcases hd with rfl | rfl
  · cases h1 with
    | lst hs ha =>
      rename_i a xs
      obtain ⟨v, hv1, hv2⟩ := ixN_all2 (dpAll_all2 ha) hx
      exact .inl ⟨a, xs, i, v, rfl, h2, ex_l e1 hs, hv1, k _ F1 H1 (Stp.refl e1) hv2⟩
  · cases h1 with
    | tup hs ha =>
      rename_i a xs
      obtain ⟨v, hv1, hv2⟩ := ixN_all2 (dpAll_all2 ha) hx
      exact .inr (.inl ⟨a, xs, i, v, rfl, h2, ex_t e1 hs, hv1, k _ F1 H1 (Stp.refl e1) hv2⟩)
theorem EvL.dp {xs : List PyData} {tr : TA} (h : EvL K F G σ tr xs) (hl : xs.length ≤ 100000) : EvX K F G σ (tLst tr) (PyData.list xs) := fun H e g Q k =>
  (ev_lst h hl) H e g Q fun v F' H' s r => k v F' H' s (by
    obtain ⟨a, vs, rfl, h1, h2⟩ := r
    exact .lst h1 (all2_dpAll h2))
end
theorem alikeAll_len : ∀ {l m : List PyData}, alikeAll l m = true → l.length = m.length
  | [], [], _ => rfl
  | [], _ :: _, h => by simp [alikeAll] at h
  | _ :: _, [], h => by simp [alikeAll] at h
  | a :: l, b :: m, h => by
    simp only [alikeAll, Bool.and_eq_true] at h
    simp [alikeAll_len h.2]
theorem alikeAll_of_all : ∀ {l m : List PyData}, l.length = m.length → (∀ (i : Nat) a b, l[i]? = some a → m[i]? = some b → alike a b = true) → alikeAll l m = true
  | [], [], _, _ => rfl
  | a :: l, b :: m, h, k => by
    simp only [alikeAll, Bool.and_eq_true]
    exact ⟨k 0 a b rfl rfl, alikeAll_of_all (by simpa using h) fun i x y h1 h2 => k (i + 1) x y (by simpa using h1) (by simpa using h2)⟩
theorem alike_of_all : ∀ {l m : List PyData} {i : Nat} {a b : PyData}, alikeAll l m = true → l[i]? = some a → m[i]? = some b → alike a b = true
  | [], _, _, _, _, _, h1, _ => by simp at h1
  | _ :: _, [], _, _, _, _, _, h2 => by simp at h2
  | x :: l, y :: m, 0, a, b, h, h1, h2 => by
    simp only [alikeAll, Bool.and_eq_true] at h
    simp at h1 h2
    subst h1 h2
    exact h.1
  | x :: l, y :: m, i + 1, a, b, h, h1, h2 => by
    simp only [alikeAll, Bool.and_eq_true] at h
    exact alike_of_all (i := i) h.2 (by simpa using h1) (by simpa using h2)
theorem depthAll_get : ∀ {l : List PyData} {i : Nat} {a : PyData}, l[i]? = some a → a.depth ≤ PyData.depthAll l
  | [], _, _, h => by simp at h
  | x :: l, 0, a, h => by simp at h; subst h; simp only [PyData.depthAll]; omega
  | x :: l, i + 1, a, h => by
    have := depthAll_get (l := l) (i := i) (a := a) (by simpa using h)
    simp only [PyData.depthAll]
    omega
mutual
/-- no dict in it -/
def noD : PyData → Bool
  | .list l => noDAll l
  | .tuple l => noDAll l
  | .dict _ => false
  | _ => true
def noDAll : List PyData → Bool
  | [] => true
  | x :: l => noD x && noDAll l
end
mutual
theorem alike_refl : ∀ d : PyData, noD d = true → alike d d = true
  | .none, _ => by simp [alike]
  | .bool b, _ => by simp [alike]
  | .int b, _ => by simp [alike]
  | .str b, _ => by simp [alike]
  | .list l, h => by simp only [alike]; exact alikeAll_refl l (by simpa [noD] using h)
  | .tuple l, h => by simp only [alike]; exact alikeAll_refl l (by simpa [noD] using h)
  | .dict _, h => by simp [noD] at h
theorem alikeAll_refl : ∀ l : List PyData, noDAll l = true → alikeAll l l = true
  | [], _ => by simp [alikeAll]
  | d :: l, h => by
    simp only [noDAll, Bool.and_eq_true] at h
    simp only [alikeAll, Bool.and_eq_true]
    exact ⟨alike_refl d h.1, alikeAll_refl l h.2⟩
end
theorem lay_get : ∀ {l : List PyData} {i : Nat} {a : PyData}, noDAll l = true → l[i]? = some a → noD a = true
  | [], _, _, _, h => by simp at h
  | x :: l, 0, a, hl, h => by simp at h; subst h; simp only [noDAll, Bool.and_eq_true] at hl; exact hl.1
  | x :: l, i + 1, a, hl, h => by
    simp only [noDAll, Bool.and_eq_true] at hl
    exact lay_get (l := l) (i := i) hl.2 (by simpa using h)

mutual
def dsz : PyData → Nat
  | .list l => dszAll l
  | .tuple l => dszAll l
  | _ => 0
def dszAll : List PyData → Nat
  | [] => 0
  | x :: l => dsz x + 1 + dszAll l
end
theorem len_dsz : ∀ l : List PyData, l.length ≤ dszAll l
  | [] => Nat.zero_le _
  | x :: l => by have := len_dsz l; simp only [List.length_cons, dszAll]; omega
theorem dsz_get : ∀ {l : List PyData} {i : Nat} {a : PyData}, l[i]? = some a → dsz a ≤ dszAll l
  | [], _, _, h => by simp at h
  | x :: l, 0, a, h => by simp at h; subst h; simp only [dszAll]; omega
  | x :: l, i + 1, a, h => by
    have := dsz_get (l := l) (i := i) (a := a) (by simpa using h)
    simp only [dszAll]
    omega
theorem dszAll_map {α : Type} (f : α → PyData) (b : Nat) (h : ∀ x, dsz (f x) ≤ b) : ∀ l : List α, dszAll (l.map f) ≤ (b + 1) * l.length
  | [] => by simp [dszAll]
  | x :: l => by
    have h1 := dszAll_map f b h l
    have h2 := h x
    simp only [List.map_cons, dszAll, List.length_cons, Nat.mul_add, Nat.mul_one]
    omega
theorem noDAll_map {α : Type} (f : α → PyData) (h : ∀ x, noD (f x) = true) : ∀ l : List α, noDAll (l.map f) = true
  | [] => rfl
  | x :: l => by simp only [List.map_cons, noDAll, h x, noDAll_map f h l, Bool.and_self]
theorem ints_noD (xs : List Int) : noD (toD xs) = true := noDAll_map toD (fun i => rfl) xs
theorem ints_dsz (xs : List Int) : dsz (toD xs) ≤ xs.length := by
  have := dszAll_map (fun i : Int => toD i) 0 (fun i => by simp [toD, dsz]) xs
  show dszAll (xs.map toD) ≤ _
  simpa using this
end L3

namespace L3
open PySem L2 Evl TL
open Rep (R)
open RepD (toD)
/-! ### numbers as texts -/
def digs (w : Str) : Bool := w.cps.toList.all fun c => decide (48 ≤ c) && decide (c ≤ 57)
def numOk (w : Str) : Bool := (decide (0 < w.length) && decide (w.length ≤ 9)) && digs w && (!decide (atI w.cps.toList 0 = some 48) || decide (w.cps.toList = [48]))
def numIn (w : Str) : Option Int := if numOk w then some ((NumText.digitsVal w.cps.toList : Nat) : Int) else none
theorem fig_mem (c : Nat) : decide (c ∈ ("0123456789" : Str).cps.toList) = (decide (48 ≤ c) && decide (c ≤ 57)) := by
  have e : ("0123456789" : Str).cps.toList = [48, 49, 50, 51, 52, 53, 54, 55, 56, 57] := by decide +kernel
  rw [e, ← Bool.decide_and]
  refine decide_eq_decide.mpr ?_
  simp only [List.mem_cons, List.not_mem_nil, or_false]
  omega
theorem digs_all {w : Str} (h : digs w = true) : NumText.AllDigits w.cps.toList := fun c hc => by
  have := List.all_eq_true.mp h c hc
  simpa [Bool.and_eq_true] using this
def numsIn (ws : List Str) : Option (List Int) := if none ∈ ws.map numIn then none else some (ws.map fun w => (numIn w).getD 0)
theorem tl_str (n : Nat) : (toString (n : Int) : Str).cps.toList = numL n := TL.tl_num n
theorem atI_zero {α : Type} (l : List α) : atI l 0 = l[0]? := by
  cases l with
  | nil => rfl
  | cons a r => exact atI_nat (j := 0) rfl
theorem numOk_str {n : Nat} (h : n < 10 ^ 9) : numOk (toString (n : Int) : Str) = true := by
  have h1 : (toString (n : Int) : Str).length = (numL n).length := by rw [← tl_str n]; simp [Str.length]
  have h2 := numL_len (k := 9) (by decide) h
  have h3 := List.length_pos_iff.mpr (numL_ne n)
  have h4 := numL_digits n
  unfold numOk digs
  rw [h1, tl_str]
  simp only [Bool.and_eq_true, decide_eq_true_eq, List.all_eq_true, Bool.or_eq_true, Bool.not_eq_true', decide_eq_false_iff_not]
  refine ⟨⟨⟨h3, h2⟩, h4⟩, ?_⟩
  by_cases q : n = 0
  · right; subst q; rw [numL_lt (by decide)]
  · left
    intro z
    have hv : ∀ m : Nat, 0 < m → atI (numL m) 0 ≠ some 48 := by
      intro m
      induction m using Nat.strongRecOn with
      | _ m ih =>
        intro hm
        by_cases hl : m < 10
        · rw [numL_lt hl]
          show some (48 + m) ≠ some 48
          intro e
          have := Option.some.inj e
          omega
        · rw [numL_step (by omega)]
          have hp := List.length_pos_iff.mpr (numL_ne (m / 10))
          have q2 := ih (m / 10) (by omega) (by omega)
          intro e
          apply q2
          rw [atI_zero] at e ⊢
          rw [List.getElem?_append_left hp] at e
          exact e
    exact hv n (by omega) z
theorem numIn_str {n : Nat} (h : n < 10 ^ 9) : numIn (toString (n : Int) : Str) = some (n : Int) := by
  unfold numIn
  rw [if_pos (numOk_str h), tl_str, numL_val]
end L3
namespace L3
open PySem L2 Evl TL
open Rep (R)
open RepD (toD)
theorem sum_le : ∀ {l : List Nat} {b : Nat}, (∀ x ∈ l, x ≤ b) → l.sum ≤ l.length * b
  | [], _, _ => by simp
  | x :: l, b, h => by
    have h1 := sum_le (l := l) (b := b) fun y hy => h y (List.mem_cons_of_mem _ hy)
    have h2 := h x List.mem_cons_self
    simp only [List.sum_cons, List.length_cons, Nat.add_mul]
    omega
theorem str_len {x : Int} (h : 0 ≤ x ∧ x < 10 ^ 9) : (toString x : Str).length ≤ 9 := by
  obtain ⟨n, rfl⟩ := Int.eq_ofNat_of_zero_le h.1
  have h1 : (toString (n : Int) : Str).length = (numL n).length := by rw [← tl_str n]; simp [Str.length]
  rw [h1]
  exact numL_len (by decide) (by omega)
theorem join_size {xs : List Int} (hl : xs.length ≤ 10000) (hx : ∀ x ∈ xs, 0 ≤ x ∧ x < 10 ^ 9) :
    ((xs.map fun x => (toString x : Str)).map (·.length)).sum + (xs.map fun x => (toString x : Str)).length * (" " : Str).length ≤ 16777216 := by
  have h1 : ((xs.map fun x => (toString x : Str)).map (·.length)).sum ≤ xs.length * 9 := by
    refine Nat.le_trans (sum_le (b := 9) fun y hy => ?_) (by simp)
    obtain ⟨z, hz, rfl⟩ := List.mem_map.mp hy
    obtain ⟨x, hm, rfl⟩ := List.mem_map.mp hz
    exact str_len (hx x hm)
  have h2 : (" " : Str).length = 1 := by decide +kernel
  rw [h2, List.length_map]
  omega
theorem join_len {xs : List Int} (hl : xs.length ≤ 9000) (hx : ∀ x ∈ xs, 0 ≤ x ∧ x < 10 ^ 9) : (Txt.join " " (xs.map fun x => (toString x : Str))).length ≤ 90000 := by
  have gen : ∀ l : List (List Nat), (joinL [32] l).length ≤ (l.map (·.length)).sum + l.length := by
    intro l
    induction l with
    | nil => simp [joinL]
    | cons a r ih =>
      cases r with
      | nil => simp [joinL]
      | cons b r => simp only [joinL, List.length_append, List.map_cons, List.sum_cons, List.length_cons, List.length_nil] at ih ⊢; omega
  have h0 : (" " : Str).cps.toList = [32] := by decide +kernel
  have h1 : (Txt.join " " (xs.map fun x => (toString x : Str))).length = (joinL [32] ((xs.map fun x => (toString x : Str)).map tl)).length := by
    rw [join_eq, ← h0, ← tl_join]; simp [Str.length]
  rw [h1]
  refine Nat.le_trans (gen _) ?_
  have h2 : (((xs.map fun x => (toString x : Str)).map tl).map (·.length)).sum ≤ xs.length * 9 := by
    refine Nat.le_trans (sum_le (b := 9) fun y hy => ?_) (by simp)
    obtain ⟨z, hz, rfl⟩ := List.mem_map.mp hy
    obtain ⟨w, hw, rfl⟩ := List.mem_map.mp hz
    obtain ⟨x, hm, rfl⟩ := List.mem_map.mp hw
    have := str_len (hx x hm)
    simpa [Str.length, tl] using this
  simp only [List.length_map]
  omega
theorem spl_len (S : List Nat) : ∀ (l : List Nat) (k : Nat) (acc : List Nat), (spl S k acc l).length ≤ l.length + 1 ∧ ∀ p ∈ spl S k acc l, p.length ≤ acc.length + l.length
  | [], k, acc => by
    rw [spl_nil]
    exact ⟨by simp, fun p hp => by simp at hp; subst hp; simp⟩
  | c :: r, 0, acc => by
    cases h : pre S (c :: r) with
    | true =>
      rw [spl_hit h]
      obtain ⟨h1, h2⟩ := spl_len S r (S.length - 1) []
      refine ⟨by simp only [List.length_cons]; omega, fun p hp => ?_⟩
      rcases List.mem_cons.mp hp with rfl | hp
      · omega
      · have := h2 p hp
        simp only [List.length_nil, List.length_cons] at this ⊢
        omega
    | false =>
      rw [spl_miss h]
      obtain ⟨h1, h2⟩ := spl_len S r 0 (acc ++ [c])
      refine ⟨by simp only [List.length_cons]; omega, fun p hp => ?_⟩
      have := h2 p hp
      simp only [List.length_append, List.length_cons, List.length_nil] at this ⊢
      omega
  | c :: r, k + 1, acc => by
    have e : spl S (k + 1) acc (c :: r) = spl S k acc r := rfl
    rw [e]
    obtain ⟨h1, h2⟩ := spl_len S r k acc
    exact ⟨by simp only [List.length_cons]; omega, fun p hp => by have := h2 p hp; simp only [List.length_cons]; omega⟩
theorem blank_tl : tl (" " : Str) = [32] := by decide +kernel
theorem blank_kind : (" " : Str).cps.all (· < 256) = true := by decide +kernel
theorem split_map (s : Str) : (Txt.split s " ").map tl = spl [32] 0 [] (tl s) := by
  rw [← blank_tl]
  exact split_spl s " " (by rw [blank_tl]; decide) (kind_ok blank_kind)
theorem split_count {s : Str} (h : s.length ≤ 90000) : (Txt.split s " ").length ≤ 100000 := by
  have h1 := congrArg List.length (split_map s)
  rw [List.length_map] at h1
  have h2 := (spl_len [32] (tl s) 0 []).1
  have h3 : (tl s).length = s.length := by simp [Str.length, tl]
  omega
theorem split_part {s z : Str} (h : s.length ≤ 90000) (hz : z ∈ Txt.split s " ") : z.length ≤ 100000 := by
  have h1 : tl z ∈ spl [32] 0 [] (tl s) := by rw [← split_map]; exact List.mem_map_of_mem hz
  have h2 := (spl_len [32] (tl s) 0 []).2 _ h1
  have h3 : (tl s).length = s.length := by simp [Str.length, tl]
  have h4 : (tl z).length = z.length := by simp [Str.length, tl]
  simp only [List.length_nil] at h2
  omega
/-- a written tale is read back -/
theorem read_back {xs : List Int} (h0 : xs ≠ []) (hx : ∀ x ∈ xs, 0 ≤ x ∧ x < 10 ^ 9) : numsIn (Txt.split (Txt.join " " (xs.map fun x => (toString x : Str))) " ") = some xs := by
  have e : ∀ x ∈ xs, numIn (toString x : Str) = some x := fun x hm => by
    obtain ⟨n, rfl⟩ := Int.eq_ofNat_of_zero_le (hx x hm).1
    exact numIn_str (by have := (hx _ hm).2; omega)
  rw [split_join (y := " ") (s := 32) (S := []) blank_tl blank_kind (by simpa using h0) fun p hp => ?_]
  · have e2 : (xs.map fun x => (toString x : Str)).map numIn = xs.map some := by
      rw [List.map_map]
      exact List.map_congr_left fun x hm => e x hm
    have e3 : ((xs.map fun x => (toString x : Str)).map fun w => (numIn w).getD 0) = xs := by
      rw [List.map_map]
      refine Eq.trans (List.map_congr_left (g := id) fun x hm => ?_) (List.map_id _)
      show (numIn (toString x : Str)).getD 0 = x
      rw [e x hm]; rfl
    unfold numsIn
    rw [e2, e3, if_neg (by simp)]
  · obtain ⟨x, hm, rfl⟩ := List.mem_map.mp hp
    obtain ⟨n, rfl⟩ := Int.eq_ofNat_of_zero_le (hx x hm).1
    rw [show tl (toString (n : Int) : Str) = numL n from tl_str n]
    exact numL_free (.inl (by decide))
end L3

namespace L3
open PySem L2
open Rep (R)
open RepD (toD)
open Evl (Ex ex_l ex_t fresh_back sz_of sz_lt ixN_nat)
/-! ### expressions that draw -/
/-- a source of draws: what it may change, how it stands behind so many draws -/
structure Src where
  M : Addr → Prop
  I : Int → Hp → Hp → Prop
  stp : ∀ {n : Int} {F H F' H' : Hp}, I n F H → Stp F H F' H' → I n F' H'
  le : ∀ {n m : Int} {F H : Hp}, I n F H → n ≤ m → I m F H
  no : ∀ {n : Int} {F H : Hp} {a : Addr}, I n F H → M a → H a ≠ none ∧ F a = none
  upd_ok : ∀ {n : Int} {F H : Hp} {a : Addr} {o u : HO}, I n F H → ¬ M a → F a = none → H a = some u → I n F (upd H a o)
  dn : ∀ {n : Int} {F F' H : Hp}, I n F' H → Ex F F' → I n F H
  frz : ∀ {n : Int} {F H : Hp} {a : Addr} {o : HO}, I n F H → ¬ M a → I n (upd F a o) H
section
variable {K : PySem.W.Frag} {S : Src} {n m l : Int} {F F' G H H' : Hp} {σ : L2.St} {ta tb tc te tl : TE} {tt : TT} {E : XK}
variable {α β γ δ : Type} [Rep α] [Rep β] [Rep γ] [Rep δ] {x : α} {y : β} {z : γ} {P P' : α → Prop}
theorem StpM.up {M : Addr → Prop} (a : StpM M F H F' H') {F2 : Hp} (e : Ex F F2) (h2 : Ex F2 H) (hM : ∀ b, M b → F2 b = none) : StpM M F2 H (cup F2 F') H' ∧ Ex F' (cup F2 F') := by
  have h3 : Ex F2 H' := fun b o h => a.hh b o (fun z => by rw [hM b z] at h; cases h) (h2 b o h)
  refine ⟨⟨cup_l, cup_in h3 a.fh, a.hh, a.dm, fun x o h => ?_⟩, cup_r h3 a.fh⟩
  unfold cup
  cases q : F2 x with
  | some u => rfl
  | none =>
    show F' x = none
    rw [a.nw x o h]
    cases r : F x with
    | none => rfl
    | some u => rw [e x u r] at q; cases q
def EvM (K : PySem.W.Frag) (S : Src) (n m : Int) (F : Hp) (σ : L2.St) (te : TE) (P : α → Prop) : Prop :=
  ∀ F1 H, Ex F F1 → Ex F1 H → S.I n F1 H → ∀ Q : VK, (∀ v x F' H', StpM S.M F1 H F' H' → S.I m F' H' → P x → R K F' v x → Q v H') → te σ H Q
theorem EvM.go (h : EvM K S n m F σ te P) (e : Ex F H) (i : S.I n F H) {Q : VK} (k : ∀ v x F' H', StpM S.M F H F' H' → S.I m F' H' → P x → R K F' v x → Q v H') : te σ H Q := h F H (Ex.refl F) e i Q k
theorem EvM.up (h : EvM K S n m F σ te P) (e : Ex F F') : EvM K S n m F' σ te P := fun F1 H e1 e2 i Q k => h F1 H (e.trans e1) e2 i Q k
theorem EvM.imp (h : EvM K S n m F σ te P) (hp : ∀ x, P x → P' x) : EvM K S n m F σ te P' := fun F1 H e1 e2 i Q k => h F1 H e1 e2 i Q fun v x F' H' s i' p r => k v x F' H' s i' (hp x p) r
theorem em_pure (h : EvX K F F σ te x) : EvM K S n n F σ te (fun y => y = x) := fun F1 H e1 e2 i Q k =>
  (h.up e1) H e2 (e1.trans e2) Q fun v F' H' s r => k v x F' H' s.m (S.stp i s) rfl r
theorem em_int {i : Int} : EvM K S n n F σ (tC (.int i)) (fun y => y = i) := em_pure ev_int
/-- a def that draws, of a number -/
def SpD (S : Src) (a : V) (lim : Int) : Sp := fun vs H Q _ => ∃ F n many, vs = [a, .int many] ∧ Ex F H ∧ S.I n F H ∧ n ≤ lim ∧ 0 < many ∧ many ≤ 10 ^ 40 ∧
  ∀ r H', 0 ≤ r → r < many → StpM S.M F H F H' → S.I (n + 1) F H' → Q (.int r) H'
theorem em_draw {sp : Sp} {a : V} {j : Nat} {lim : Int} {P : Int → Prop} (hs : σ[j]? = some (some a)) (hsp : ∀ vs H Q E, SpD S a lim vs H Q E → sp vs H Q E) (hm : EvM K S n m F σ tb P) (hl : m ≤ lim) (hp : ∀ i, P i → 0 < i ∧ i ≤ 10 ^ 40) :
    EvM K S n (m + 1) F σ (tCall sp [] E (tCons (tVar j) (tCons tb tNil))) (fun r => ∃ i, P i ∧ 0 ≤ r ∧ r < i) := fun F1 H e1 e2 i Q k =>
  ⟨a, hs, hm F1 H e1 e2 i _ fun v x F' H' s i' p r => hsp _ _ _ _ ⟨F', m, x, by rw [show v = V.int x from r]; rfl, s.fh, i', hl, (hp x p).1, (hp x p).2, fun r H2 h0 h1 s2 i2 => k _ r F' H2 (s.trans s2) i2 ⟨x, p, h0, h1⟩ rfl⟩⟩
theorem em_op {r : R2} {P : α → Prop} {P2 : α → β → Prop} {P3 : γ → Prop} (ha : EvM K S n m F σ ta P) (hb : ∀ x, P x → EvM K S m l F σ tb (P2 x))
    (hr : ∀ F1 u w x y, Ex F F1 → P x → P2 x y → R K F1 u x → R K F1 w y → ∀ H1, Ex F1 H1 → ∀ Q : VK, (∀ v z F2 H2, Stp F1 H1 F2 H2 → P3 z → R K F2 v z → Q v H2) → r u w H1 Q) :
    EvM K S n l F σ (tOp r ta tb) P3 := fun F1 H e1 e2 i Q k =>
  ha F1 H e1 e2 i _ fun u x F2 H2 s2 i2 p2 r2 => hb x p2 F2 H2 (e1.trans s2.ff) s2.fh i2 _ fun w y F3 H3 s3 i3 p3 r3 =>
    hr F3 u w x y (e1.trans (s2.ff.trans s3.ff)) p2 p3 (Rep.mono s3.ff r2) r3 H3 s3.fh Q fun v z F4 H4 s4 p4 r4 => k v z F4 H4 ((s2.trans s3).trans s4.m) (S.stp i3 s4) p4 r4
theorem em_I {r : R2} {f : Int → Int → Int} {P : Int → Prop} {P2 : Int → Int → Prop} (ha : EvM K S n m F σ ta P) (hb : ∀ x, P x → EvM K S m l F σ tb (P2 x))
    (hr : ∀ x y H (Q : VK), P x → P2 x y → Q (.int (f x y)) H → r (.int x) (.int y) H Q) : EvM K S n l F σ (tOp r ta tb) (fun z => ∃ x y, P x ∧ P2 x y ∧ z = f x y) :=
  em_op ha hb fun F1 u w x y _ p p2 ru rw' H1 e1 Q k => by
    cases ru; cases rw'
    exact hr x y H1 Q p p2 (k _ _ F1 H1 (Stp.refl e1) ⟨x, y, p, p2, rfl⟩ rfl)
theorem em_add {P : Int → Prop} {P2 : Int → Int → Prop} (ha : EvM K S n m F σ ta P) (hb : ∀ x, P x → EvM K S m l F σ tb (P2 x)) : EvM K S n l F σ (tOp rAddA ta tb) (fun z => ∃ x y, P x ∧ P2 x y ∧ z = x + y) :=
  em_I ha hb fun x y H Q _ _ q => .inl ⟨x, y, rfl, rfl, q⟩
theorem em_sub {P : Int → Prop} {P2 : Int → Int → Prop} (ha : EvM K S n m F σ ta P) (hb : ∀ x, P x → EvM K S m l F σ tb (P2 x)) : EvM K S n l F σ (tOp (rI0 fun i j => .int (i - j)) ta tb) (fun z => ∃ x y, P x ∧ P2 x y ∧ z = x - y) :=
  em_I ha hb fun x y H Q _ _ q => ⟨x, y, rfl, rfl, q⟩
theorem em_mul {P : Int → Prop} {P2 : Int → Int → Prop} (ha : EvM K S n m F σ ta P) (hb : ∀ x, P x → EvM K S m l F σ tb (P2 x)) (hc : ∀ x y, P x → P2 x y → CMul x y) : EvM K S n l F σ (tOp (rI CMul fun i j => .int (i * j)) ta tb) (fun z => ∃ x y, P x ∧ P2 x y ∧ z = x * y) :=
  em_I ha hb fun x y H Q p p2 q => ⟨x, y, rfl, rfl, hc x y p p2, q⟩
theorem em_div {P : Int → Prop} {P2 : Int → Int → Prop} (ha : EvM K S n m F σ ta P) (hb : ∀ x, P x → EvM K S m l F σ tb (P2 x)) (hc : ∀ x y, P x → P2 x y → CDivW x y) : EvM K S n l F σ (tOp (rI CDivW fun i j => .int (i / j)) ta tb) (fun z => ∃ x y, P x ∧ P2 x y ∧ z = x / y) :=
  em_I ha hb fun x y H Q p p2 q => ⟨x, y, rfl, rfl, hc x y p p2, q⟩
theorem em_cmp {f : Int → Int → Bool} {P : Int → Prop} {P2 : Int → Int → Prop} (ha : EvM K S n m F σ ta P) (hb : ∀ x, P x → EvM K S m l F σ tb (P2 x)) : EvM K S n l F σ (tOp (rI0 fun i j => .bl (f i j)) ta tb) (fun b => ∃ x y, P x ∧ P2 x y ∧ b = f x y) :=
  em_op ha hb fun F1 u w x y _ p p2 ru rw' H1 e1 Q k => by
    cases ru; cases rw'
    exact ⟨x, y, rfl, rfl, k _ _ F1 H1 (Stp.refl e1) ⟨x, y, p, p2, rfl⟩ rfl⟩
theorem em_eqI {P : Int → Prop} {P2 : Int → Int → Prop} (ha : EvM K S n m F σ ta P) (hb : ∀ x, P x → EvM K S m l F σ tb (P2 x)) : EvM K S n l F σ (tOp (rEqA K) ta tb) (fun b => ∃ x y, P x ∧ P2 x y ∧ b = decide (x = y)) :=
  em_op ha hb fun F1 u w x y _ p p2 ru rw' H1 e1 Q k => by
    cases ru; cases rw'
    exact .inl ⟨rfl, k _ _ F1 H1 (Stp.refl e1) ⟨x, y, p, p2, rfl⟩ (by rw [dec_vint]; rfl)⟩
/-- an item of a list, by a draw -/
theorem em_ix {P : List α → Prop} {P2 : List α → Int → Prop} (ha : EvM K S n m F σ ta P) (hb : ∀ x, P x → EvM K S m l F σ tb (P2 x)) (hx : ∀ xs i, P xs → P2 xs i → 0 ≤ i ∧ i < xs.length) :
    EvM K S n l F σ (tIx K ta tb) (fun z => ∃ xs i, P xs ∧ P2 xs i ∧ xs[i.toNat]? = some z) := fun F1 H e1 e2 i Q k => .inl (
  em_op (P3 := fun z => ∃ xs i, P xs ∧ P2 xs i ∧ xs[i.toNat]? = some z) ha hb (fun F1 u w x y _ p p2 ru rw' H1 e1 Q k => by
    obtain ⟨h0, h1⟩ := hx x y p p2
    cases rw'
    obtain ⟨a, vs, rfl, hs, hv⟩ := ru
    have hg : x[y.toNat]? = some x[y.toNat] := List.getElem?_eq_getElem (by omega)
    have hat : atI x y = some x[y.toNat] := by
      have := atI_nat hg
      rwa [Int.toNat_of_nonneg h0] at this
    obtain ⟨v, hv1, hv2⟩ := ixN_all2 hv hat
    exact .inl ⟨a, vs, y, v, rfl, rfl, ex_l e1 hs, hv1, k v _ F1 H1 (Stp.refl e1) ⟨x, y, p, p2, hg⟩ hv2⟩) F1 H e1 e2 i Q k)
/-- a comprehension whose items draw, over a range -/
theorem em_lcr {j : Nat} {vs : List Nat} {c : Int} {P : Int → Prop} {P2 : Int → β → Prop} (hi : EvM K S n m F σ ta P) (hp : ∀ i, P i → 0 ≤ i ∧ i ≤ 100000) (hw : ∀ x, wipe ((wipe σ vs).set j (some x)) vs = wipe σ vs)
    (hc : 0 ≤ c) (he : ∀ (i : Int) (k : Int) F1, Ex F F1 → 0 ≤ i → m ≤ k → k ≤ m + c * 100000 → EvM K S k (k + c) F1 ((wipe σ vs).set j (some (.int i))) te (P2 i)) :
    ∀ F1 H, Ex F F1 → Ex F1 H → S.I n F1 H → ∀ Q : VK, (∀ p us xs len F' H', P len → StpM S.M F1 H F' H' → H p = none → F' p = none → ¬ S.M p → H' p = some (.lst us) → All2 (R K F') us xs → xs.length = len.toNat → (∀ (i : Nat) x, xs[i]? = some x → P2 (i : Int) x) →
      S.I (m + c * len) F' H' → Q (.ref p) H') → tLc (iRng1 (tCons ta tNil)) (gName j) tYes te vs σ H Q := fun F1 H e1 e2 i Q k =>
  hi F1 H e1 e2 i _ fun v len F2 H2 s2 i2 p2 r2 => by
    obtain ⟨l0, l1⟩ := hp len p2
    cases r2
    refine ⟨len, rfl, by omega, by omega, fun D hD => ?_⟩
    have nM : ¬ S.M D := fun z => (S.no i2 z).1 hD
    have f2D : F2 D = none := fresh_back s2.fh hD
    refine lc_range (lo := 0) (n := len.toNat) (fun i H' => ∃ F' acc, ∃ xs : List β, StpM S.M F2 H2 F' H' ∧ F' D = none ∧ H' D = some (.lst acc) ∧ All2 (R K F') acc xs ∧ xs.length = i ∧ (∀ (i : Nat) x, xs[i]? = some x → P2 (i : Int) x) ∧ S.I (m + c * (i : Int)) F' H')
      ⟨F2, [], [], (StpM.refl s2.fh).own hD, f2D, upd_same, .nil, rfl, fun i x h => by simp at h, ?_⟩ ?_ ?_
    · have := S.stp i2 ((Stp.refl s2.fh).own (o := .lst []) hD)
      exact S.le this (by omega)
    · rintro i H3 hin ⟨F3, acc, xs, s3, f3, h3, a3, l3, q3, i3⟩
      rw [Int.zero_add]
      refine ⟨hw _, ?_⟩
      show te _ H3 _
      have hci : c * (i : Int) ≤ c * 100000 := Int.mul_le_mul_of_nonneg_left (by omega) hc
      have hci0 : 0 ≤ c * (i : Int) := Int.mul_nonneg hc (by omega)
      refine he (i : Int) (m + c * (i : Int)) F3 (e1.trans (s2.ff.trans s3.ff)) (by omega) (by omega) (by omega) F3 H3 (Ex.refl _) s3.fh i3 _ fun u x F4 H4 s4 i4 p4 r4 => ?_
      have h4 := s4.hh D _ nM h3
      have f4 : F4 D = none := s4.fno h3 f3
      have s5 := (s3.trans s4).mut (o := .lst (acc ++ [u])) (.inr hD) f4 (fun z => by rw [h4] at z; cases z)
      refine ⟨acc, h4, ?_, F4, acc ++ [u], xs ++ [x], s5, f4, upd_same, (a3.imp fun _ _ => Rep.mono s4.ff).app (.cons r4 .nil), by simp [l3], fun j x' h => ?_, ?_⟩
      · have := a3.len
        exact Nat.lt_of_lt_of_le (show acc.length < 200000 by omega) (by decide)
      · by_cases hj : j < xs.length
        · rw [List.getElem?_append_left hj] at h
          exact q3 j x' h
        · have hj2 : j < (xs ++ [x]).length := (List.getElem?_eq_some_iff.mp h).1
          have : j = xs.length := by simp at hj2; omega
          subst this
          rw [List.getElem?_append_right (Nat.le_refl _)] at h
          simp at h
          subst h
          rw [l3]; exact p4
      · have hI := S.upd_ok i4 nM f4 (o := .lst (acc ++ [u])) h4
        refine S.le hI ?_
        have : c * ((i + 1 : Nat) : Int) = c * (i : Int) + c := by rw [Int.natCast_add, Int.mul_add]; simp
        omega
    · rintro H3 ⟨F3, acc, xs, s3, f3, h3, a3, l3, q3, i3⟩
      refine k D acc xs len F3 H3 p2 (s2.trans s3) (s2.dm _ hD) f3 nM h3 a3 l3 q3 (S.le i3 ?_)
      rw [Int.toNat_of_nonneg l0]
      exact Int.le_refl _
end
/-- the tray as a source -/
def trayS (t g : Addr) : Src where
  M := TM t g
  I := fun n F H => Tray F H t g n
  stp := fun T s => T.stp s
  le := fun T h => T.le h
  no := fun {n F H a} T h => by
    obtain ⟨f1, f2, ne, ds, c, fold, cnt, h1, h2, _⟩ := T
    rcases h with rfl | rfl
    · exact ⟨(by rw [h1]; exact fun z => by cases z), f1⟩
    · exact ⟨(by rw [h2]; exact fun z => by cases z), f2⟩
  upd_ok := fun {n F H a o u} T h _ _ => by
    obtain ⟨f1, f2, ne, ds, c, fold, cnt, h1, h2, h3⟩ := T
    have n1 : t ≠ a := fun z => h (.inl z.symm)
    have n2 : g ≠ a := fun z => h (.inr z.symm)
    exact ⟨f1, f2, ne, ds, c, fold, cnt, by rw [upd_ne n1]; exact h1, by rw [upd_ne n2]; exact h2, h3⟩
  dn := fun ⟨f1, f2, r⟩ e => ⟨fresh_back e f1, fresh_back e f2, r⟩
  frz := fun {n F H a o} ⟨f1, f2, r⟩ h => ⟨by rw [upd_ne (fun z => h (.inl z.symm))]; exact f1, by rw [upd_ne (fun z => h (.inr z.symm))]; exact f2, r⟩
/-! ### readings, a part at a time -/
section
variable {K : PySem.W.Frag} {F F' G H H' : Hp} {σ : L2.St} {ta tb tc te : TE} {E : XK} {D : Ends} {tz : TS} {g : TG} {tr : TA} {Q : VK}
variable {α β δ : Type} [Rep α] [Rep β] [Rep δ] {x : α} {y : β}
theorem u_asg (h : te σ H fun x H1 => g x σ H1 (tz D)) : tSeq (tAsg te g) tz D σ H := h
theorem u_lstA {ta : TA} (h : ta σ H fun xs H1 => xs.length ≤ sizeLine ∧ ∀ p, H1 p = none → Q (.ref p) (upd H1 p (.lst xs))) : tLst ta σ H Q := h
theorem u_tupA {ta : TA} (h : ta σ H fun xs H1 => xs.length ≤ sizeLine ∧ ∀ p, H1 p = none → Q (.ref p) (upd H1 p (.tup xs))) : tTup ta σ H Q := h
theorem u_cons {QQ : List V → Hp → Prop} (h : te σ H fun x H1 => tr σ H1 fun xs H2 => QQ (x :: xs) H2) : tCons te tr σ H QQ := h
theorem u_nil {QQ : List V → Hp → Prop} (h : QQ [] H) : tNil σ H QQ := h
/-- an item of a list of objects, each standing for something of its own -/
theorem ev_ixV {us : List V} {i : Int} {v : V} (ha : EvX K F G σ ta us) (hb : EvX K F G σ tb i) (hx : atI us i = some v) (r : R K F v x) : EvX K F G σ (tIx K ta tb) x := by
  refine EvX.or1 (ev_op ha hb fun F1 u w e h1 h2 H1 e1 _ Q k => ?_)
  obtain ⟨a, vs, rfl, hs, hv⟩ := h1
  obtain ⟨v', hv1, hv2⟩ := ixN_all2 hv hx
  cases hv2
  exact .inl ⟨a, vs, i, v, rfl, h2, ex_l e1 hs, hv1, k _ F1 H1 (Stp.refl e1) (Rep.mono e r)⟩
theorem ev_callK1 {pre : α → Prop} {f : α → δ} (ha : EvX K F G σ ta x) (hp : pre x) : EvX K F G σ (tCallKw (Pu1 K pre f) 1 id E (tCons ta tNil)) (f x) := fun H e g Q k =>
  ha H e g _ fun v F1 H1 s1 r1 => ⟨rfl, F1, x, v, rfl, s1.fh, r1, hp, fun u F2 H2 s2 r2 => k u F2 H2 (s1.trans s2) r2⟩
theorem en_callKL1 {pre : α → Prop} {f : α → List δ} (ha : EvX K F G σ ta x) (hp : pre x) : EvN K F G σ (tCallKw (PuL1 K pre f) 1 id E (tCons ta tNil)) (f x) := fun H e g Q k =>
  ha H e g _ fun v F1 H1 s1 r1 => ⟨rfl, F1, x, v, rfl, s1.fh, r1, hp, fun p us F2 H2 s2 n0 n1 h2 r2 => k _ _ _ H2 (s1.trans s2) (Ex.dom s1.hh n0) n1 h2 r2⟩
end
theorem StpM.forget {M : Addr → Prop} {F H F' H' : Hp} (s : StpM M F H F' H') : StpM M F H F H' := ⟨Ex.refl _, s.ff.trans s.fh, s.hh, s.dm, fun _ _ _ => rfl⟩
theorem draw_tray {t g : Addr} : ∀ vs H Q E, SpD (trayS t g) (.ref t) (10 ^ 9) vs H Q E → sp_draw vs H Q E := fun vs H Q E ⟨F, n, many, e, hF, T, hn, h0, h1, k⟩ =>
  ⟨F, t, g, n, many, e, hF, T, hn, h0, h1, fun r H' a b c d => k r H' a b c d⟩
theorem list3 {α : Type} {a b c z : α} {i : Int} (h0 : 0 ≤ i) (h1 : i < 3) (h : [a, b, c][i.toNat]? = some z) : z = a ∨ z = b ∨ z = c := by
  have : i = 0 ∨ i = 1 ∨ i = 2 := by omega
  rcases this with rfl | rfl | rfl
  · exact .inl (Option.some.inj h).symm
  · exact .inr (.inl (Option.some.inj h).symm)
  · exact .inr (.inr (Option.some.inj h).symm)
end L3

namespace Lw
open PySem L2 L3
open Rep (R)
open RepD (toD)
open Evl (Ex ex_l ex_t fresh_back sz_of sz_lt ixN_nat)
def topS (i : Nat) : Stmt := PySem.Challenge.pw_movedays_k52_tales_written.main.body.getD i (.Pass ⟨0, 0, 0, 0⟩)
abbrev s_law_draw : Stmt := topS 14
theorem sc_law_draw : FnScope ["tray", "many", "found", "mixed"] ["tray", "many"] (defScope s_law_draw) := ⟨rfl, rfl, rfl, by decide +kernel, rfl, by decide +kernel, by decide +kernel⟩

abbrev s_law_tray : Stmt := topS 13
theorem sc_law_tray : FnScope ["script", "fold", "great", "cell", "much"] ["script"] (defScope s_law_tray) := ⟨rfl, rfl, rfl, by decide +kernel, rfl, by decide +kernel, by decide +kernel⟩

abbrev s_law_alike : Stmt := topS 15
theorem sc_law_alike : FnScope ["found", "due", "k"] ["found", "due"] (defScope s_law_alike) := ⟨rfl, rfl, rfl, by decide +kernel, rfl, by decide +kernel, by decide +kernel⟩

abbrev s_show_tale : Stmt := topS 2
theorem sc_show_tale : FnScope ["tale", "house"] ["tale"] (defScope s_show_tale) := ⟨rfl, rfl, rfl, by decide +kernel, rfl, by decide +kernel, by decide +kernel⟩

abbrev s_number_in : Stmt := topS 9
theorem sc_number_in : FnScope ["word", "sign"] ["word"] (defScope s_number_in) := ⟨rfl, rfl, rfl, by decide +kernel, rfl, by decide +kernel, by decide +kernel⟩

abbrev s_numbers_in : Stmt := topS 10
theorem sc_numbers_in : FnScope ["words", "found", "word"] ["words"] (defScope s_numbers_in) := ⟨rfl, rfl, rfl, by decide +kernel, rfl, by decide +kernel, by decide +kernel⟩

abbrev s_read_tale : Stmt := topS 11
theorem sc_read_tale : FnScope ["text", "found"] ["text"] (defScope s_read_tale) := ⟨rfl, rfl, rfl, by decide +kernel, rfl, by decide +kernel, by decide +kernel⟩

abbrev s_law_numbers : Stmt := topS 16
theorem sc_law_numbers : FnScope ["tray", "most", "k"] ["tray"] (defScope s_law_numbers) := ⟨rfl, rfl, rfl, by decide +kernel, rfl, by decide +kernel, by decide +kernel⟩

abbrev s_law : Stmt := topS 17
theorem sc_law : FnScope ["script", "tray", "k", "line", "kept", "due", "told", "house"] ["script"] (defScope s_law) := ⟨rfl, rfl, rfl, by decide +kernel, rfl, by decide +kernel, by decide +kernel⟩

structure Txt (K : PySem.W.Frag) (mg : Str → Option Value) : Type where
  nVillageError : Addr
  nNoText : Addr
  f_law_draw : Ft K mg "_law_draw" s_law_draw ["tray", "many"]
  f_law_tray : Ft K mg "_law_tray" s_law_tray ["script"]
  f_law_alike : Ft K mg "_law_alike" s_law_alike ["found", "due"]
  f_show_tale : Ft K mg "show_tale" s_show_tale ["tale"]
  f_number_in : Ft K mg "number_in" s_number_in ["word"]
  f_numbers_in : Ft K mg "numbers_in" s_numbers_in ["words"]
  f_read_tale : Ft K mg "read_tale" s_read_tale ["text"]
  f_law_numbers : Ft K mg "_law_numbers" s_law_numbers ["tray"]
  f_law : Ft K mg "law" s_law ["script"]
  b_all : mg "all" = none
  b_bool : mg "bool" = none
  b_int : mg "int" = none
  b_isinstance : mg "isinstance" = none
  b_len : mg "len" = none
  b_list : mg "list" = none
  b_max : mg "max" = none
  b_range : mg "range" = none
  b_str : mg "str" = none
  b_tuple : mg "tuple" = none
  c_BLANK : ∃ t, mg "BLANK" = some (.str " " t)
  c_FIGURES : ∃ t, mg "FIGURES" = some (.str "0123456789" t)
  c_MOST_FIGURES : ∃ t, mg "MOST_FIGURES" = some (.int 9 t)
section
variable {P : Program} {w : World} {K : PySem.W.Frag} {mg : Str → Option Value} {base : Heap}
theorem ok_law_draw (T : Txt K mg) : Cal P w K mg base CX0 1 "_law_draw" s_law_draw ["tray", "many"] sp_draw := by
  refine T.f_law_draw.ok sc_law_draw (fun vs H Q E h => ?_) (fun f cdv A outer s H vs Q E hr h => ?_)
  · obtain ⟨F, t, g, n, many, rfl, _⟩ := h
    rfl
  obtain ⟨F, t, g, n, many, rfl, hF, hT, hn, hm0, hm1, k⟩ := h
  refine ⟨_, (pss_cons (ps_while PassesOwn.never (PW.pt (pw_and (pt_cmpR op_lt (k_ixA (K := K) rfl hr (pv 0) pe_int (fun _ _ => rfl)) pe_int (nomark _)) (pw_and1 (pt_cmpR (k_neA (K := K) rfl hr.units) (k_ixA (K := K) rfl hr (pv 0) pe_int (fun _ _ => rfl)) (pe_lst pa_nil) (nomark _)))))
    (pss_one (ps_asg (k_bm (K := K) rfl PySem.F.plainAttrs_list PySem.F.slot_list_pop PySem.F.type_list_pop mt_popAt (k_ixA (K := K) rfl hr (pv 0) pe_int (fun _ _ => rfl)) (pa_cons pe_int pa_nil)) (pg_sub (pv 0) pe_int set_list))))
    (pss_cons (ps_if (pt_cmpR op_ge (k_ixA (K := K) rfl hr (pv 0) pe_int (fun _ _ => rfl)) pe_int (nomark _))
    (pss_cons (ps_set (i := 2) sc_law_draw.nd rfl (by first | exact Or.inl rfl | exact Or.inr rfl) (pe_op op_mod (k_ixA (K := K) rfl hr (pv 0) pe_int (fun _ _ => rfl)) (pv 1)))
    (pss_cons (ps_asg (pe_op op_fdivW (k_ixA (K := K) rfl hr (pv 0) pe_int (fun _ _ => rfl)) (pv 1)) (pg_sub (pv 0) pe_int set_list))
    (pss_one (ps_ret (pv 2)))))
    pss_nil)
    (pss_cons (ps_asg (pe_op op_addA (k_ixA (K := K) rfl hr (pv 0) pe_int (fun _ _ => rfl)) pe_int) (pg_sub (pv 0) pe_int set_list))
    (pss_cons (ps_set (i := 3) sc_law_draw.nd rfl (by first | exact Or.inl rfl | exact Or.inr rfl) (pe_op op_mod (pe_op op_addA (pe_op op_mul (pe_op op_addA (k_ixA (K := K) rfl hr (pv 0) pe_int (fun _ _ => rfl)) pe_int) (pe_op op_powW (pe_op op_addA (k_ixA (K := K) rfl hr (pv 0) pe_int (fun _ _ => rfl)) pe_int) pe_int)) (pe_op op_mul pe_int (k_ixA (K := K) rfl hr (pv 0) pe_int (fun _ _ => rfl)))) (pe_op op_sub (pe_op op_powW pe_int pe_int) pe_int)))
    (pss_one (ps_ret (pe_op op_mod (pe_op op_fdivW (pe_op op_mod (pe_op op_powW (pv 3) pe_int) (pe_op op_addA (pe_op op_powW pe_int pe_int) pe_int)) pe_int) (pv 1)))))))), ?_⟩
  obtain ⟨f1, f2, ne, ds, c, fold, cnt, h1, h2, h3, h4, h5, h6⟩ := hT
  have ht : H t ≠ none := fun z => by rw [h1] at z; cases z
  have hg : H g ≠ none := fun z => by rw [h2] at z; cases z
  -- while tray[1] < 2 and tray[0] != []
  refine x_while (fun m F' σ' H' => F' = F ∧ ∃ (ds : List Int) (c : Int), m = ds.length ∧ σ' = [some (.ref t), some (.int many), none, none] ∧ StpM (TM t g) F H F H' ∧
    H' t = some (.lst [.ref g, .int c, .int fold, .int cnt]) ∧ H' g = some (.lst (ds.map V.int))) ds.length (F := F) ⟨rfl, ds, c, rfl, rfl, StpM.refl hF, h1, h2⟩ ?_
  rintro m F' σ' H' ⟨rfl, ds, c, rfl, rfl, s0, q1, q2⟩
  have neEmpty : EvX K F' H' [some (.ref t), some (.int many), none, none] (tOp (rNeA K) (tIx K (tVar 0) (tC (.int 0))) (tLst tNil)) (!decide (ds = [])) := by
    refine ev_op (K := K) (x := V.ref g) (y := ([] : List Int)) (ev_cell rfl q1 rfl rfl) ev_nillst fun F1 u w _ r1 r2 H1 e1 g1 Q k => ?_
    cases r1
    refine .inr ⟨toD ds, toD ([] : List Int), RepD.dp (α := List Int) ⟨g, _, rfl, SqL.of (g1 _ _ q2), all2_ints.mpr rfl⟩, dp_mono e1 (RepD.dp r2), shaped_of _ (Lay.lay _) (by decide), shaped_of _ (Lay.lay _) (by decide), k _ F1 H1 (Stp.refl e1) ?_⟩
    rw [RepD.eqv]; rfl
  refine ⟨s0.fh, _, et_and (et_test (ev_lt (ev_cell rfl q1 rfl rfl) ev_int)) fun _ => et_test neEmpty, fun hb H2 e2 => ?_, fun hb H2 e2 => ?_⟩
  · -- tray[1] = tray[0].pop(0)
    have hds : ds ≠ [] := by
      intro z
      subst z
      simp at hb
    obtain ⟨d0, ds', rfl⟩ : ∃ d0 ds', ds = d0 :: ds' := by
      cases ds with
      | nil => exact absurd rfl hds
      | cons a l => exact ⟨a, l, rfl⟩
    have p1 := e2 _ _ q1
    have p2 := e2 _ _ q2
    refine .inl ⟨_, rfl, .inl ⟨t, _, 0, _, rfl, rfl, SqL.of p1, rfl, .inl ⟨rfl, _, SqL.of p2⟩, g, _, 0, 0, _, rfl, rfl, p2, by decide, by decide, seq0 (by simp), rfl, ?_⟩⟩
    refine ⟨_, rfl, t, _, 1, 1, rfl, rfl, by rw [upd_ne ne]; exact p1, rfl, ?_⟩
    refine ⟨ds'.length, F', by simp, rfl, ds', d0, rfl, rfl, ((s0.ext e2).mut (.inl (.inr rfl)) f2 (fun z => by rw [p2] at z; cases z)).mut (.inl (.inl rfl)) f1 (fun z => by rw [upd_ne ne, p1] at z; cases z), upd_same, ?_⟩
    rw [upd_ne (Ne.symm ne), upd_same]
    rfl
  have p1 := e2 _ _ q1
  have p2 := e2 _ _ q2
  have s1 := s0.ext e2
  -- if tray[1] >= 2
  refine x_if (et_test (ev_ge (ev_cell rfl p1 rfl rfl) ev_int)) s1.fh (fun _ H3 e3 => ?_) fun _ H3 e3 => ?_
  · have p3 := e3 _ _ p1
    have p4 := e3 _ _ p2
    have s2 := s1.ext e3
    refine x_asg (ev_modI (ev_cell (x := c) rfl p3 rfl rfl) (ev_var (x := many) rfl rfl) hm0) s2.fh fun v F4 H4 s4 r4 => ?_
    cases r4
    have p5 := s4.hh _ _ p3
    have p6 := s4.hh _ _ p4
    refine (ev_divI (ev_cell (x := c) rfl p5 rfl rfl) (ev_var (x := many) rfl rfl) (wide_div (b := 140) hm0 (by have q40 : (10 : Int) ^ 40 < 2 ^ 140 := (by decide); omega) (by decide) (by decide))).go s4.fh fun v F5 H5 s5 r5 => ?_
    cases r5
    have p7 := s5.hh _ _ p5
    have p8 := s5.hh _ _ p6
    refine ⟨_, rfl, t, _, 1, 1, rfl, rfl, p7, rfl, ?_⟩
    have s6 := (s2.trans (Stp.of_ex s2.fh ((s4.hh).trans s5.hh)).m).mut (.inl (.inl rfl)) (p := t) (o := .lst [.ref g, .int (c / many), .int fold, .int cnt]) f1 (fun z => by rw [p7] at z; cases z)
    refine ⟨_, rfl, k _ _ (Int.emod_nonneg _ (by omega)) (Int.emod_lt_of_pos _ hm0) s6 ⟨f1, f2, ne, ds, c / many, fold, cnt, upd_same, by rw [upd_ne (Ne.symm ne)]; exact p8, h3, h4, h5, by omega⟩⟩
  · -- tray[3] = tray[3] + 1
    have p3 := e3 _ _ p1
    have p4 := e3 _ _ p2
    have s2 := s1.ext e3
    refine (ev_addI (ev_cell (x := cnt) rfl p3 rfl rfl) ev_int).go s2.fh fun v F5 H5 s5 r5 => ?_
    cases r5
    have p7 := s5.hh _ _ p3
    have p8 := s5.hh _ _ p4
    refine ⟨_, rfl, t, _, 3, 3, rfl, rfl, p7, rfl, ?_⟩
    have s6 := (s2.ext s5.hh).mut (.inl (.inl rfl)) (p := t) (o := .lst [.ref g, .int c, .int fold, .int (cnt + 1)]) f1 (fun z => by rw [p7] at z; cases z)
    have p9 : upd H5 t (.lst [.ref g, .int c, .int fold, .int (cnt + 1)]) t = some (.lst [.ref g, .int c, .int fold, .int (cnt + 1)]) := upd_same
    refine x_asg (ev_modI (ev_addI (ev_mulI (ev_addI (ev_cell (x := fold) rfl p9 rfl rfl) ev_int) (ev_powI (ev_addI (ev_cell (x := cnt + 1) rfl p9 rfl rfl) ev_int) ev_int (pow_ok (k := 40) (n := 3) (by omega) (by decide) (by decide))) (.inl (by omega)))
      (ev_mulI ev_int (ev_cell (x := cnt + 1) rfl p9 rfl rfl) (.inl (by decide)))) (ev_sub (ev_powI ev_int ev_int (pow_ok (k := 2) (n := 61) (by decide) (by decide) (by decide))) ev_int) (by decide)) s6.fh fun v F6 H6 s7 r7 => ?_
    cases r7
    have hmx := Int.emod_lt_of_pos ((fold + 5) * (cnt + 1 + 2) ^ (3 : Int).toNat + 1000003 * (cnt + 1)) (show (0 : Int) < 2 ^ (61 : Int).toNat - 1 by decide)
    have hmn := Int.emod_nonneg ((fold + 5) * (cnt + 1 + 2) ^ (3 : Int).toNat + 1000003 * (cnt + 1)) (show (2 : Int) ^ (61 : Int).toNat - 1 ≠ 0 by decide)
    generalize ((fold + 5) * (cnt + 1 + 2) ^ (3 : Int).toNat + 1000003 * (cnt + 1)) % (2 ^ (61 : Int).toNat - 1) = mx at *
    have hmx2 : mx.natAbs < 2 ^ 61 := by
      have : (2 : Int) ^ (61 : Int).toNat - 1 < 2 ^ 61 := by decide
      omega
    refine (ev_modI (K := K) (ev_divI (ev_modI (ev_powI (ev_var (x := mx) rfl rfl) ev_int (pow_ok (k := 61) (n := 5) hmx2 (by decide) (by decide))) (ev_addI (ev_powI ev_int ev_int (pow_ok (k := 4) (n := 18) (by decide) (by decide) (by decide))) ev_int) (by decide)) ev_int (wide_div (b := 7) (by decide) (by decide) (by decide) (by decide))) (ev_var (x := many) rfl rfl) hm0).go s7.fh fun v F7 H7 s8 r8 => ?_
    cases r8
    have s9 := s6.ext (s7.hh.trans s8.hh)
    refine k _ _ (Int.emod_nonneg _ (by omega)) (Int.emod_lt_of_pos _ hm0) s9 ⟨f1, f2, ne, ds, c, fold, cnt + 1, s8.hh _ _ (s7.hh _ _ p9), s8.hh _ _ (s7.hh _ _ (by rw [upd_ne (Ne.symm ne)]; exact p8)), h3, h4, by omega, by omega⟩
/-- the tray of a script -/
def sp_tray (K : PySem.W.Frag) : Sp := fun vs H Q _ => ∃ (F : Hp) (a : Addr) (ns : List Int), vs = [.ref a] ∧ Ex F H ∧ SqL K F a (ns.map V.int) ∧ ns.length ≤ 1000 ∧
  ∀ (t g : Addr) (H' : Hp), Stp F H F H' → H t = none → H g = none → Tray F H' t g 0 → Q (.ref t) H'
theorem ok_law_tray (T : Txt K mg) : Cal P w K mg base CX0 1 "_law_tray" s_law_tray ["script"] (sp_tray K) := by
  refine T.f_law_tray.ok sc_law_tray (fun vs H Q E h => ?_) (fun f cdv A outer s H vs Q E hr h => ?_)
  · obtain ⟨F, a, ns, rfl, _⟩ := h
    rfl
  obtain ⟨F, a, ns, rfl, hF, hS, hn, k⟩ := h
  refine ⟨_, (pss_cons (ps_set (i := 1) sc_law_tray.nd rfl (by first | exact Or.inl rfl | exact Or.inr rfl) pe_int)
    (pss_cons (ps_set (i := 2) sc_law_tray.nd rfl (by first | exact Or.inl rfl | exact Or.inr rfl) (pe_lst pa_nil))
    (pss_cons (ps_for PassesOwn.never rfl (k_pilist (K := K) rfl (pv 0)) (pg_name (i := 3) sc_law_tray.nd rfl (by first | exact Or.inl rfl | exact Or.inr rfl))
    (pss_cons (ps_set (i := 1) sc_law_tray.nd rfl (by first | exact Or.inl rfl | exact Or.inr rfl) (pe_op op_mod (pe_op op_addA (pe_op op_mul (pv 1) pe_int) (pv 3)) (pe_op op_sub (pe_op op_powW pe_int pe_int) pe_int)))
    (pss_cons (ps_set (i := 4) sc_law_tray.nd rfl (by first | exact Or.inl rfl | exact Or.inr rfl) (pe_callB (call_max2' rfl) (by rfl) T.b_max (by decide +kernel) (pa_cons (pv 3) (pa_cons (pe_op op_sub pe_int (pv 3)) pa_nil))))
    (pss_one (ps_if (pt_cmpR op_ge (pv 4) (pe_op op_powW pe_int pe_int) (nomark _))
    (pss_one (ps_expr (k_bm (K := K) rfl PySem.F.plainAttrs_list PySem.F.slot_list_append PySem.F.type_list_append mt_append (pv 2) (pa_cons (pe_op op_sub (pv 4) (pe_op op_powW pe_int pe_int)) pa_nil))))
    pss_nil)))))
    (pss_one (ps_ret (pe_lst (pa_cons (pv 2) (pa_cons pe_int (pa_cons (pv 1) (pa_cons pe_int pa_nil)))))))))), ?_⟩
  refine x_asg (ev_int (K := K)) hF fun v F1 H1 s1 r1 => ?_
  cases r1
  refine x_asgN (en_lst (K := K) (α := Int) el_nil (Nat.zero_le _)) s1.fh fun g us F2 H2 s2 n0 n1 h2 r2 => ?_
  cases r2
  have hG : H g = none := Ex.dom s1.hh n0
  have hFg : F g = none := fresh_back hF hG
  have e2 : Ex F H2 := hF.trans (s1.hh.trans s2.hh)
  refine x_for (K := K) (α := Int) (xs := ns) (F := F) (it_list (ev_var (v := .ref a) rfl ⟨a, _, rfl, hS, all2_ints.mpr rfl⟩)) e2 tgt_n fun F3 H3 s3 => ?_
  have e03 : Ex F H3 := e2.trans s3.hh
  refine ⟨fun i F' σ' H' => F' = F3 ∧ Ex F3 H' ∧ ∃ (fold : Int) (ds : List Int) (o3 o4 : Option V), σ' = [some (.ref a), some (.int fold), some (.ref g), o3, o4] ∧ Ex H H' ∧ H' g = some (.lst (ds.map V.int)) ∧ ds.length ≤ i ∧ 0 ≤ fold ∧ fold < 2 ^ 61,
    ⟨rfl, s3.fh, _, [], _, _, rfl, (s1.hh.trans s2.hh).trans s3.hh, s3.hh _ _ h2, Nat.le_refl _, by decide, by decide⟩, ?_, ?_, ?_⟩
  · rintro i F' σ' H' ⟨rfl, h, _⟩
    exact ⟨Ex.refl _, h⟩
  · rintro i x F' σ' H' hx ⟨rfl, q0, fold, ds, o3, o4, rfl, q1, q2, q3, q4, q5⟩ F4 H4 s4 σ2 ⟨v, rv, rfl⟩
    cases rv
    have hi : i < ns.length := (List.getElem?_eq_some_iff.mp hx).1
    have p2 := s4.hh _ _ q2
    have e4 : Ex F4 H4 := s4.fh
    refine x_asg (ev_modI (K := K) (ev_addI (ev_mulI (ev_var (x := fold) rfl rfl) ev_int (.inl (by omega))) (ev_var (x := x) rfl rfl)) (ev_sub (ev_powI ev_int ev_int (pow_ok (k := 2) (n := 61) (by decide) (by decide) (by decide))) ev_int) (by decide)) e4 fun v F5 H5 s5 r5 => ?_
    cases r5
    have hm1 := Int.emod_lt_of_pos (fold * 1000003 + x) (show (0 : Int) < 2 ^ (61 : Int).toNat - 1 by decide)
    have hm2 := Int.emod_nonneg (fold * 1000003 + x) (show (2 : Int) ^ (61 : Int).toNat - 1 ≠ 0 by decide)
    have hm3 : (2 : Int) ^ (61 : Int).toNat - 1 < 2 ^ 61 := by decide
    generalize (fold * 1000003 + x) % (2 ^ (61 : Int).toNat - 1) = mx at *
    refine x_asg (ev_max2 (K := K) (ev_var (x := x) rfl rfl) (ev_sub ev_int (ev_var (x := x) rfl rfl))) s5.fh fun v F6 H6 s6 r6 => ?_
    cases r6
    have p3 := s6.hh _ _ (s5.hh _ _ p2)
    have e6 : Ex H H6 := ((q1.trans s4.hh).trans s5.hh).trans s6.hh
    have e36 : Ex F' H6 := ((q0.trans s4.hh).trans s5.hh).trans s6.hh
    refine y_if (et_test (ev_ge (K := K) (ev_var (x := max x (0 - x)) rfl rfl) (ev_powI ev_int ev_int (pow_ok (k := 4) (n := 18) (by decide) (by decide) (by decide))))) s6.fh (fun _ H7 e7 => ?_) fun _ H7 e7 => ?_
    · refine ⟨_, rfl, .inl ⟨rfl, _, SqL.of (e7 _ _ p3)⟩, ?_⟩
      refine (ev_sub (K := K) (F := F6) (ev_var (x := max x (0 - x)) rfl rfl) (ev_powI ev_int ev_int (pow_ok (k := 4) (n := 18) (by decide) (by decide) (by decide)))).go (s6.fh.trans e7) fun v F8 H8 s8 r8 => ?_
      cases r8
      have p8 := s8.hh _ _ (e7 _ _ p3)
      refine ⟨g, _, _, rfl, rfl, p8, by rw [List.length_map]; exact Nat.lt_of_lt_of_le (show ds.length < 2000 by omega) (by decide), ?_⟩
      have hF3g : F' g = none := (s3.nw _ _ h2).trans hFg
      refine ⟨F', rfl, Ex.mut ((e36.trans e7).trans s8.hh) hF3g, mx, ds ++ [max x (0 - x) - 10 ^ (18 : Int).toNat], _, _, rfl, Ex.mut ((e6.trans e7).trans s8.hh) hG, by rw [upd_same]; simp, by simp; omega, hm2, by omega⟩
    · exact ⟨F', rfl, e36.trans e7, mx, ds, _, _, rfl, e6.trans e7, e7 _ _ p3, by omega, hm2, by omega⟩
  · rintro F' σ' H' ⟨rfl, q0, fold, ds, o3, o4, rfl, q1, q2, q3, q4, q5⟩
    refine ⟨_, rfl, _, rfl, by show 4 ≤ sizeLine; decide, fun t ht => ?_⟩
    have ntg : t ≠ g := fun z => by subst z; rw [q2] at ht; cases ht
    have tH : H t = none := Ex.dom q1 ht
    exact k t g _ (Stp.of_ex hF (q1.trans (Ex.new ht))) tH hG ⟨fresh_back hF tH, hFg, ntg, ds, 0, fold, 0, upd_same, by rw [upd_ne (Ne.symm ntg)]; exact q2, q4, q5, by omega, by omega⟩
/-- alike, for data whose due part is not deeper than n -/
def sp_alike (K : PySem.W.Frag) (n : Nat) : Sp := Pu2 K (fun (_ : PyData) (e : PyData) => e.depth < n ∧ noD e = true ∧ dsz e ≤ 100000000) alike
theorem okn_law_alike (T : Txt K mg) : ∀ n : Nat, Cal P w K mg base CX0 n "_law_alike" s_law_alike ["found", "due"] (sp_alike K n)
  | 0 => by
    obtain ⟨f, fd, hm, F, b⟩ := T.f_law_alike.ex
    refine ⟨f, fd, hm, F, b, fun vs H Q E h => ?_, fun A outer s H args us vs Q E hr he hb hv h => ?_⟩
    · obtain ⟨F, x, y, v, w, _, _, _, _, hp, _⟩ := h
      exact absurd hp.1 (Nat.not_lt_zero _)
    · obtain ⟨F, x, y, v, w, _, _, _, _, hp, _⟩ := h
      exact absurd hp.1 (Nat.not_lt_zero _)
  | n + 1 => by
    have ih : Cal P w K mg base CX0 n "_law_alike" s_law_alike ["found", "due"] (sp_alike K n) := okn_law_alike T n
    refine T.f_law_alike.ok sc_law_alike (fun vs H Q E h => ?_) (fun f cdv A outer s H vs Q E hr h => ?_)
    · obtain ⟨F, x, y, v, w, rfl, _⟩ := h
      rfl
    obtain ⟨F, d, e, v, w, rfl, hF, rd, re, ⟨hn, hl, hz⟩, k⟩ := h
    refine ⟨_, (pss_cons (ps_if (pt_cmpR op_isN (pv 1) pe_non (nomark _))
    (pss_one (ps_ret (pe_cmpR op_isN (pv 0) pe_non (nomark _))))
    pss_nil)
    (pss_cons (ps_if (pt_val (pe_callB (k_isi (K := K) rfl) (by rfl) T.b_isinstance (by decide +kernel) (pa_cons (pv 1) (pa_cons (pe_bltn (v := .ty "bool") (by rfl) T.b_bool (by decide +kernel) rfl) pa_nil))))
    (pss_one (ps_ret (pe_and (pe_callB (k_isi (K := K) rfl) (by rfl) T.b_isinstance (by decide +kernel) (pa_cons (pv 0) (pa_cons (pe_bltn (v := .ty "bool") (by rfl) T.b_bool (by decide +kernel) rfl) pa_nil))) (pe_one (pe_cmpR (k_eqA (K := K) rfl hr.units) (pv 0) (pv 1) (nomark _))))))
    pss_nil)
    (pss_cons (ps_if (pt_val (pe_callB (k_isi (K := K) rfl) (by rfl) T.b_isinstance (by decide +kernel) (pa_cons (pv 1) (pa_cons (pe_bltn (v := .ty "int") (by rfl) T.b_int (by decide +kernel) rfl) pa_nil))))
    (pss_one (ps_ret (pe_and (pe_callB (k_isi (K := K) rfl) (by rfl) T.b_isinstance (by decide +kernel) (pa_cons (pv 0) (pa_cons (pe_bltn (v := .ty "int") (by rfl) T.b_int (by decide +kernel) rfl) pa_nil))) (pe_and (pe_not (pe_callB (k_isi (K := K) rfl) (by rfl) T.b_isinstance (by decide +kernel) (pa_cons (pv 0) (pa_cons (pe_bltn (v := .ty "bool") (by rfl) T.b_bool (by decide +kernel) rfl) pa_nil)))) (pe_one (pe_cmpR (k_eqA (K := K) rfl hr.units) (pv 0) (pv 1) (nomark _)))))))
    pss_nil)
    (pss_cons (ps_if (pt_val (pe_callB (k_isi (K := K) rfl) (by rfl) T.b_isinstance (by decide +kernel) (pa_cons (pv 1) (pa_cons (pe_bltn (v := .ty "str") (by rfl) T.b_str (by decide +kernel) rfl) pa_nil))))
    (pss_one (ps_ret (pe_and (pe_callB (k_isi (K := K) rfl) (by rfl) T.b_isinstance (by decide +kernel) (pa_cons (pv 0) (pa_cons (pe_bltn (v := .ty "str") (by rfl) T.b_str (by decide +kernel) rfl) pa_nil))) (pe_one (pe_cmpR (k_eqA (K := K) rfl hr.units) (pv 0) (pv 1) (nomark _))))))
    pss_nil)
    (pss_cons (ps_if (PW.pt (pw_or (pt_cmpR (k_neA (K := K) rfl hr.units) (pe_callB (k_isi (K := K) rfl) (by rfl) T.b_isinstance (by decide +kernel) (pa_cons (pv 0) (pa_cons (pe_bltn (v := .ty "list") (by rfl) T.b_list (by decide +kernel) rfl) pa_nil))) (pe_callB (k_isi (K := K) rfl) (by rfl) T.b_isinstance (by decide +kernel) (pa_cons (pv 1) (pa_cons (pe_bltn (v := .ty "list") (by rfl) T.b_list (by decide +kernel) rfl) pa_nil))) (nomark _)) (pw_or1 (pt_cmpR (k_neA (K := K) rfl hr.units) (pe_callB (k_isi (K := K) rfl) (by rfl) T.b_isinstance (by decide +kernel) (pa_cons (pv 0) (pa_cons (pe_bltn (v := .ty "tuple") (by rfl) T.b_tuple (by decide +kernel) rfl) pa_nil))) (pe_callB (k_isi (K := K) rfl) (by rfl) T.b_isinstance (by decide +kernel) (pa_cons (pv 1) (pa_cons (pe_bltn (v := .ty "tuple") (by rfl) T.b_tuple (by decide +kernel) rfl) pa_nil))) (nomark _)))))
    (pss_one (ps_ret pe_bl))
    pss_nil)
    (pss_cons (ps_if (pt_cmpR (k_neA (K := K) rfl hr.units) (pe_callB (k_len (K := K) rfl) (by rfl) T.b_len (by decide +kernel) (pa_cons (pv 0) pa_nil)) (pe_callB (k_len (K := K) rfl) (by rfl) T.b_len (by decide +kernel) (pa_cons (pv 1) pa_nil)) (nomark _))
    (pss_one (ps_ret pe_bl))
    pss_nil)
    (pss_cons (ps_for PassesOwn.never rfl (pi_range1 (by rfl) T.b_range (pa_cons (pe_callB (k_len (K := K) rfl) (by rfl) T.b_len (by decide +kernel) (pa_cons (pv 1) pa_nil)) pa_nil)) (pg_name (i := 2) sc_law_alike.nd rfl (by first | exact Or.inl rfl | exact Or.inr rfl))
    (pss_one (ps_if (pt_not (pt_val (pe_cal ih hr (Nat.le_refl _) (by rfl) pass0 (pa_cons (pe_ixA hr (pv 0) (pv 2) (fun _ _ => rfl)) (pa_cons (pe_ixA hr (pv 1) (pv 2) (fun _ _ => rfl)) pa_nil)))))
    (pss_one (ps_ret pe_bl))
    pss_nil)))
    (pss_one (ps_ret pe_bl))))))))), ?_⟩
    have vd : ∀ {G : Hp} {o : Option V}, EvX K F G [some v, some w, o] (tVar 0) d := ev_var rfl rd
    have ve : ∀ {G : Hp} {o : Option V}, EvX K F G [some v, some w, o] (tVar 1) e := ev_var rfl re
    refine x_if (et_test (ev_isNP ve)) hF (fun hb H1 e1 => ?_) fun hb H1 e1 => ?_
    · have he : e = .none := by cases e <;> first | rfl | cases hb
      subst he
      refine x_ret (ev_isNP vd) (hF.trans e1) fun u F2 H2 s2 r2 => k u F2 H2 ((Stp.of_ex hF e1).trans s2) ?_
      have : alike d .none = isNone d := by cases d <;> simp [alike, isNone]
      rw [this]; exact r2
    have s1 := Stp.of_ex hF e1
    refine x_if (et_B (ev_isi kb_bool ve)) s1.fh (fun hb H2 e2 => ?_) fun hb2 H2 e2 => ?_
    · obtain ⟨b, rfl⟩ : ∃ b, e = .bool b := by
        rw [isK_bool] at hb
        cases e <;> first | exact ⟨_, rfl⟩ | (exfalso; simp at hb; done)
      refine x_ret (x := alike d (.bool b)) (EvX.is (ev_andV (b := alike d (.bool b)) (ev_isi kb_bool vd) fun hd => ?_) ?_) (s1.fh.trans e2) fun u F2 H3 s3 r3 => k u F2 H3 ((s1.ext e2).trans s3) r3
      · obtain ⟨c, rfl⟩ : ∃ c, d = .bool c := by
          rw [isK_bool] at hd
          cases d <;> first | exact ⟨_, rfl⟩ | (exfalso; simp at hd; done)
        cases rd; cases re
        exact (ev_eqAB (i := c) (j := b) (ev_var rfl rfl) (ev_var rfl rfl)).is (by simp [alike, Bool.beq_eq_decide_eq])
      · rw [isK_bool]; cases d <;> simp [alike]
    have s2 := s1.ext e2
    refine x_if (et_B (ev_isi kb_int ve)) s2.fh (fun hb H3 e3 => ?_) fun hb3 H3 e3 => ?_
    · obtain ⟨b, rfl⟩ : ∃ b, e = .int b := by
        rw [isK_int] at hb
        rw [isK_bool] at hb2
        cases e <;> first | exact ⟨_, rfl⟩ | (exfalso; simp at hb; done) | (exfalso; simp at hb2; done)
      refine x_ret (x := alike d (.int b)) (EvX.is (ev_andV (b := alike d (.int b)) (ev_isi kb_int vd) fun hd => EvX.is (ev_andV (b := alike d (.int b)) (ev_notV (ev_isi kb_bool vd)) fun hd2 => ?_) ?_) ?_) (s2.fh.trans e3) fun u F2 H4 s4 r4 => k u F2 H4 ((s2.ext e3).trans s4) r4
      · obtain ⟨c, rfl⟩ : ∃ c, d = .int c := by
          rw [isK_int] at hd
          rw [isK_bool] at hd2
          cases d <;> first | exact ⟨_, rfl⟩ | (exfalso; simp at hd; done) | (exfalso; simp at hd2; done)
        cases rd; cases re
        exact (ev_eqAI (i := c) (j := b) (ev_var rfl rfl) (ev_var rfl rfl)).is (by simp [alike, Bool.beq_eq_decide_eq])
      · rw [isK_bool]; rw [isK_int] at hd; cases d <;> first | (exfalso; simp at hd; done) | simp [alike]
      · rw [isK_int]; cases d <;> simp [alike]
    have s3 := s2.ext e3
    refine x_if (et_B (ev_isi kb_str ve)) s3.fh (fun hb H4 e4 => ?_) fun hb4 H4 e4 => ?_
    · obtain ⟨b, rfl⟩ : ∃ b, e = .str b := by
        rw [isK_str] at hb
        cases e <;> first | exact ⟨_, rfl⟩ | (exfalso; simp at hb; done)
      refine x_ret (x := alike d (.str b)) (EvX.is (ev_andV (b := alike d (.str b)) (ev_isi kb_str vd) fun hd => ?_) ?_) (s3.fh.trans e4) fun u F2 H5 s5 r5 => k u F2 H5 ((s3.ext e4).trans s5) r5
      · obtain ⟨c, rfl⟩ : ∃ c, d = .str c := by
          rw [isK_str] at hd
          cases d <;> first | exact ⟨_, rfl⟩ | (exfalso; simp at hd; done)
        cases rd; cases re
        refine (ev_eqAS (i := c) (j := b) (ev_var rfl rfl) (ev_var rfl rfl)).is ?_
        simp only [alike]
        by_cases h : c = b
        · subst h; simp
        · rw [decide_eq_false h]; exact (beq_eq_false_iff_ne.mpr h).symm
      · rw [isK_str]; cases d <;> simp [alike]
    have s4 := s3.ext e4
    have hE : ∃ m, e = .list m ∨ e = .tuple m := by
      rw [isK_bool] at hb2
      rw [isK_int] at hb3
      rw [isK_str] at hb4
      cases e with
      | none => cases hb
      | bool _ => cases hb2
      | int _ => cases hb3
      | str _ => cases hb4
      | list m => exact ⟨m, .inl rfl⟩
      | tuple m => exact ⟨m, .inr rfl⟩
      | dict _ => simp [noD] at hl
    obtain ⟨m, hm⟩ := hE
    -- the kinds differ
    refine x_if (b := ((!decide (isK d "list" = isK e "list")) || !decide (isK d "tuple" = isK e "tuple"))) (et_or (et_test (ev_neAB (ev_isi kb_list vd) (ev_isi kb_list ve))) fun _ => et_test (ev_neAB (ev_isi kb_tuple vd) (ev_isi kb_tuple ve))) s4.fh (fun hk H5 e5 => ?_) fun hk H5 e5 => ?_
    · refine x_ret (ev_bl (K := K)) (s4.fh.trans e5) fun u F2 H6 s6 r6 => k u F2 H6 ((s4.ext e5).trans s6) ?_
      have : alike d e = false := by
        rw [isK_list, isK_list, isK_tuple, isK_tuple] at hk
        rcases hm with rfl | rfl <;> cases d <;> first | (simp at hk; done) | simp [alike]
      rw [this]; exact r6
    have s5 := s4.ext e5
    have hD : ∃ l, (d = .list l ∧ e = .list m) ∨ (d = .tuple l ∧ e = .tuple m) := by
      rw [isK_list, isK_list, isK_tuple, isK_tuple] at hk
      rcases hm with rfl | rfl <;> cases d <;> first | (simp at hk; done) | exact ⟨_, .inl ⟨rfl, rfl⟩⟩ | exact ⟨_, .inr ⟨rfl, rfl⟩⟩
    obtain ⟨l, hD⟩ := hD
    have hdl : d = .list l ∨ d = .tuple l := hD.imp And.left And.left
    have hal : alike d e = alikeAll l m := by
      rcases hD with ⟨rfl, rfl⟩ | ⟨rfl, rfl⟩ <;> simp [alike]
    have hdm : PyData.depthAll m < n := by
      rcases hm with rfl | rfl <;> (simp only [PyData.depth] at hn; omega)
    have hlm : noDAll m = true := by
      rcases hm with rfl | rfl <;> simpa [noD] using hl
    rw [hal] at k
    refine x_if (et_test (ev_neAI (ev_lenP hdl vd) (ev_lenP hm ve))) s5.fh (fun hk H6 e6 => ?_) fun hk H6 e6 => ?_
    · refine x_ret (ev_bl (K := K)) (s5.fh.trans e6) fun u F2 H7 s7 r7 => k u F2 H7 ((s5.ext e6).trans s7) ?_
      have : alikeAll l m = false := by
        cases q : alikeAll l m with
        | false => rfl
        | true => rw [alikeAll_len q] at hk; simp at hk
      rw [this]; exact r7
    have s6 := s5.ext e6
    have hlen : l.length = m.length := by simp at hk; omega
    have hzm : dszAll m ≤ 100000000 := by
      rcases hm with rfl | rfl <;> simpa [dsz] using hz
    have hsz := len_dsz m
    refine x_for (B := BN K Int 2) (it_rng1 (ev_lenP hm ve) (by omega)) s6.fh tgt_n fun F7 H7 s7 => ?_
    refine ⟨fun i F' σ' H' => Stp F H F' H' ∧ F' = F7 ∧ (∃ o, σ' = [some v, some w, o]) ∧ ∀ (j : Nat) a b, j < i → l[j]? = some a → m[j]? = some b → alike a b = true,
      ⟨s6.trans s7, rfl, ⟨_, rfl⟩, fun j a b h _ _ => absurd h (Nat.not_lt_zero _)⟩, ?_, ?_, ?_⟩
    · rintro i F' σ' H' ⟨s, rfl, _⟩
      exact ⟨Ex.refl _, s.fh⟩
    · rintro i x F' σ' H' hx ⟨s, rfl, ⟨o, rfl⟩, ha⟩ F8 H8 s8 σ2 ⟨u, ru, rfl⟩
      cases ru
      have hi : i < m.length := by
        have h1 := (List.getElem?_eq_some_iff.mp hx).1
        rw [rng_len] at h1
        omega
      have hxi : x = (i : Int) := by
        rw [rng_get (by omega)] at hx
        exact (Option.some.inj hx).symm
      subst hxi
      have s9 := s.trans s8
      have hi1 : l[i]? = some l[i] := List.getElem?_eq_getElem (by omega)
      have hi2 : m[i]? = some m[i] := List.getElem?_eq_getElem hi
      have vd' : EvX K F8 H8 [some v, some w, some (V.int (i : Int))] (tVar 0) d := ev_var rfl (Rep.mono s9.ff rd)
      have ve' : EvX K F8 H8 [some v, some w, some (V.int (i : Int))] (tVar 1) e := ev_var rfl (Rep.mono s9.ff re)
      have vi : EvX K F8 H8 [some v, some w, some (V.int (i : Int))] (tVar 2) (i : Int) := ev_var rfl rfl
      refine y_if (et_not (et_B (ev_call2 (f := alike) (ev_ixP hdl vd' vi (atI_nat hi1)) (ev_ixP hm ve' vi (atI_nat hi2)) ⟨?_, ?_, ?_⟩))) s9.fh (fun hq H9 e9 => ?_) fun hq H9 e9 => ?_
      · have := depthAll_get hi2
        omega
      · exact lay_get hlm hi2
      · have := dsz_get hi2
        omega
      · refine x_ret (ev_bl (K := K)) (s9.fh.trans e9) fun u F2 H10 s10 r10 => k u F2 H10 ((s9.ext e9).trans s10) ?_
        have : alikeAll l m = false := by
          cases q : alikeAll l m with
          | false => rfl
          | true => rw [alike_of_all q hi1 hi2] at hq; simp at hq
        rw [this]; exact r10
      · refine ⟨F', ⟨(s.ext s8.hh).ext e9, rfl, ⟨_, rfl⟩, fun j a b hj h1 h2 => ?_⟩⟩
        by_cases q : j = i
        · subst q
          rw [hi1] at h1; rw [hi2] at h2
          cases h1; cases h2
          simpa using hq
        · exact ha j a b (by omega) h1 h2
    · rintro F' σ' H' ⟨s, rfl, ⟨o, rfl⟩, ha⟩
      refine x_ret (ev_bl (K := K)) s.fh fun u F2 H10 s10 r10 => k u F2 H10 (s.trans s10) ?_
      have : alikeAll l m = true := alikeAll_of_all hlen fun i a b h1 h2 => ha i a b (by
        rw [rng_len]
        have := (List.getElem?_eq_some_iff.mp h2).1
        omega) h1 h2
      rw [this]; exact r10
theorem ok_law_alike (T : Txt K mg) : Cal P w K mg base CX0 4 "_law_alike" s_law_alike ["found", "due"] (sp_alike K 4) := okn_law_alike T 4
theorem ok_show_tale (T : Txt K mg) : Cal P w K mg base CX0 1 "show_tale" s_show_tale ["tale"] (Pu1 K (fun (xs : List Int) => xs.length ≤ 10000 ∧ ∀ x ∈ xs, 0 ≤ x ∧ x < 10 ^ 9) fun xs => Txt.join " " (xs.map fun x => (toString x : Str))) := by
  refine T.f_show_tale.ok sc_show_tale (fun vs H Q E h => ?_) (fun f cdv A outer s H vs Q E hr h => ?_)
  · obtain ⟨F, x, v, rfl, _⟩ := h
    rfl
  obtain ⟨F, xs, v, rfl, hF, rv, ⟨hl, hx⟩, k⟩ := h
  refine ⟨_, (pss_one (ps_ret (k_join (K := K) rfl (pe_conS (by rfl) T.c_BLANK ) (pe_lc (own := [("house", 1)]) rfl sc_show_tale.nd (k_pilist (K := K) rfl (pv 0)) (k_blk (N := ["tale", "house"]) (sc := defScope s_show_tale) rfl rfl (by decide +kernel)) (fun _ _ _ _ _ => (pg_name (i := 1) sc_show_tale.nd rfl (by first | exact Or.inl rfl | exact Or.inr rfl))) (fun _ _ _ _ _ => pts_nil) (fun _ _ _ _ _ => (pe_callTy call_str_int (by rfl) T.b_str (by decide +kernel) (pa_cons (pv 1) pa_nil))))))), ?_⟩
  refine x_ret (ev_join ev_str (ev_lcy (fun x => (toString x : Str)) (it_list (ev_var rfl rv)) tgt_n (by omega) (fun F' x σ' ⟨u, _, e⟩ => by subst e; rfl) fun F' x σ' hm e ⟨u, ru, es⟩ => ?_) ?_) hF fun u F2 H2 s2 r2 => k u F2 H2 s2 r2
  · subst es
    have := hx x hm
    refine ev_strI (ev_var rfl ru) (Nat.lt_of_lt_of_le (show x.natAbs < 10 ^ 9 by omega) (by decide))
  · exact join_size hl hx
theorem ok_number_in (T : Txt K mg) : Cal P w K mg base CX0 1 "number_in" s_number_in ["word"] (Pu1 K (fun (w : Str) => w.length ≤ 100000) numIn) := by
  refine T.f_number_in.ok sc_number_in (fun vs H Q E h => ?_) (fun f cdv A outer s H vs Q E hr h => ?_)
  · obtain ⟨F, x, v, rfl, _⟩ := h
    rfl
  obtain ⟨F, wd, v, rfl, hF, rv, hl, k⟩ := h
  refine ⟨_, (pss_cons (ps_if (PW.pt (pw_or (pt_not (pt_chain op_lt op_le pe_int (pe_callB (k_len (K := K) rfl) (by rfl) T.b_len (by decide +kernel) (pa_cons (pv 0) pa_nil)) (pe_conI (by rfl) T.c_MOST_FIGURES ))) (pw_or1 (pt_not (pt_val (pe_callB (k_all (K := K) rfl rfl) (by rfl) T.b_all (by decide +kernel) (pa_cons (pe_lc (own := [("sign", 1)]) rfl sc_number_in.nd (pi_str (pv 0)) (k_blk (N := ["word", "sign"]) (sc := defScope s_number_in) rfl rfl (by decide +kernel)) (fun _ _ _ _ _ => (pg_name (i := 1) sc_number_in.nd rfl (by first | exact Or.inl rfl | exact Or.inr rfl))) (fun _ _ _ _ _ => pts_nil) (fun _ _ _ _ _ => (pe_cmpR (k_inA (K := K) rfl hr) (pv 1) (pe_conS (by rfl) T.c_FIGURES ) (by rfl)))) pa_nil)))))))
    (pss_one (ps_ret pe_non))
    pss_nil)
    (pss_one (ps_ret (pe_ifExp (PW.pt (pw_or (pt_cmpR (k_neA (K := K) rfl hr.units) (k_ixA (K := K) rfl hr (pv 0) pe_int (fun _ _ => rfl)) pe_str (nomark _)) (pw_or1 (pt_cmpR (k_eqA (K := K) rfl hr.units) (pv 0) pe_str (nomark _))))) (pe_callTy call_int_str (by rfl) T.b_int (by decide +kernel) (pa_cons (pv 0) pa_nil)) pe_non)))), ?_⟩
  have vw : ∀ {G : Hp} {o : Option V}, EvX K F G [some v, o] (tVar 0) wd := ev_var rfl rv
  have hsl : wd.length ≤ sizeLine := Nat.le_trans hl (by decide)
  have heq : ((signs wd).map fun z => (decide (z.cps.toList.getD 0 0 ∈ ("0123456789" : Str).cps.toList))).all id = digs wd := by
    unfold signs digs
    rw [List.all_map, List.all_map]
    congr 1
    funext c
    exact fig_mem c
  refine x_if (b := (!(decide ((0 : Int) < (wd.length : Int)) && decide ((wd.length : Int) ≤ 9))) || !digs wd) (et_or (et_not (et_test (ev_ltle ev_int (ev_lenS vw hsl) ev_int))) fun _ => et_not (et_B (EvX.is (ev_all (ev_lcy (fun z => (decide (z.cps.toList.getD 0 0 ∈ ("0123456789" : Str).cps.toList))) (it_str vw) tgt_n (by simp [signs]; exact hl) (fun F' x σ' ⟨u, _, e⟩ => by subst e; rfl) fun F' x σ' hm e ⟨u, ru, es⟩ => by
      subst es
      obtain ⟨c, hc, rfl⟩ := List.mem_map.mp hm
      exact ev_inS (ev_var rfl ru) ev_str)) heq))) hF (fun hb H1 e1 => ?_) fun hb H1 e1 => ?_
  · refine x_ret (ev_none (K := K) (α := Int)) (hF.trans e1) fun u F2 H2 s2 r2 => k u F2 H2 ((Stp.of_ex hF e1).trans s2) ?_
    have : numIn wd = none := by
      unfold numIn numOk
      rw [if_neg]
      intro q
      simp only [Bool.and_eq_true, Bool.or_eq_true, Bool.not_eq_true', decide_eq_true_eq, decide_eq_false_iff_not, Bool.and_eq_false_iff] at q hb
      obtain ⟨⟨⟨q1, q2⟩, q3⟩, q4⟩ := q
      rcases hb with (hb | hb) | hb
      · omega
      · omega
      · rw [q3] at hb; cases hb
    rw [this]; exact r2
  · simp only [Bool.or_eq_false_iff, Bool.not_eq_false', Bool.and_eq_true, decide_eq_true_eq] at hb
    obtain ⟨⟨hb1, hb2⟩, hb3⟩ := hb
    have hpos : 0 < wd.cps.toList.length := by
      have : wd.length = wd.cps.toList.length := by simp [Str.length]
      omega
    have hat : atI wd.cps.toList 0 = some wd.cps.toList[0] := atI_nat (j := 0) (List.getElem?_eq_getElem hpos)
    refine x_ret (x := numIn wd) (EvX.is (ev_if (b := (!decide ((⟨#[wd.cps.toList[0]]⟩ : Str) = "0")) || decide (wd = "0")) (et_or (et_test (ev_neAS (ev_ixS vw ev_int hsl hat) ev_str)) fun _ => et_test (ev_eqAS vw ev_str))
      (fun _ => (ev_intS vw (PySem.intText_digits (digs_all hb3) (List.ne_nil_of_length_pos hpos) (by omega)) (by omega)).opt) fun _ => ev_none) ?_) (hF.trans e1) fun u F2 H2 s2 r2 => k u F2 H2 ((Stp.of_ex hF e1).trans s2) r2
    have c1 : ((⟨#[wd.cps.toList[0]]⟩ : Str) = "0") ↔ atI wd.cps.toList 0 = some 48 := by
      rw [hat]
      constructor
      · intro z
        have z2 := congrArg (fun s : Str => s.cps.toList) z
        have z3 : [wd.cps.toList[0]] = [48] := z2
        simpa using z3
      · intro z
        have q := Option.some.inj z
        exact TL.ext_tl (by show [wd.cps.toList[0]] = [48]; rw [q])
    have c2 : (wd = "0") ↔ wd.cps.toList = [48] := ⟨fun z => by rw [z]; rfl, fun z => TL.ext_tl z⟩
    unfold numIn numOk
    rw [decide_eq_decide.mpr c1, decide_eq_decide.mpr c2, hb3, decide_eq_true (show 0 < wd.length by omega), decide_eq_true (show wd.length ≤ 9 by omega)]
    rfl
/-- None, or a new list -/
def sp_numbers_in (K : PySem.W.Frag) : Sp := fun vs H Q _ => ∃ (F : Hp) (ws : List Str) (v : V), vs = [v] ∧ Ex F H ∧ R K F v ws ∧ ws.length ≤ 100000 ∧ (∀ z ∈ ws, z.length ≤ 100000) ∧
  (numsIn ws = none → ∀ H', Ex H H' → Q .non H') ∧ (∀ xs, numsIn ws = some xs → ∀ p F' H', Stp F H F' H' → H p = none → F' p = none → H' p = some (.lst (xs.map V.int)) → Q (.ref p) H')
theorem ok_numbers_in (T : Txt K mg) : Cal P w K mg base CX0 2 "numbers_in" s_numbers_in ["words"] (sp_numbers_in K) := by
  refine T.f_numbers_in.ok sc_numbers_in (fun vs H Q E h => ?_) (fun f cdv A outer s H vs Q E hr h => ?_)
  · obtain ⟨F, x, v, rfl, _⟩ := h
    rfl
  obtain ⟨F, ws, v, rfl, hF, rv, hl, hz, k1, k2⟩ := h
  refine ⟨_, (pss_cons (ps_setLc (i := 1) (own := [("word", 2)]) rfl sc_numbers_in.nd rfl rfl (sw_true rfl rfl rfl (by decide +kernel)) (k_pilist (K := K) rfl (pv 0)) (k_blk (N := ["words", "found", "word"]) (sc := defScope s_numbers_in) rfl rfl (by decide +kernel)) (fun _ _ _ _ _ => (pg_name (i := 2) sc_numbers_in.nd rfl (by first | exact Or.inl rfl | exact Or.inr rfl))) (fun _ _ _ _ _ => pts_nil) (fun _ _ _ _ _ => (pe_cal (ok_number_in T) hr (by decide) (by rfl) pass0 (pa_cons (pv 2) pa_nil))))
    (pss_one (ps_ret (pe_ifExp (pt_cmpR (k_inA (K := K) rfl hr) pe_non (pv 1) (by rfl)) pe_non (pv 1))))), ?_⟩
  refine x_asgN (en_lcy numIn (it_list (ev_var rfl rv)) tgt_n hl (fun F' x σ' ⟨u, _, e⟩ => by subst e; rfl) fun F' x σ' hm e ⟨u, ru, es⟩ => by subst es; exact ev_call1 (f := numIn) (ev_var rfl ru) (hz x hm)) hF fun p us F1 H1 s1 n0 n1 h1 r1 => ?_
  -- None if None in found else found
  have ein : EvX K F1 H1 [some v, some (.ref p), none] (tOp (rInA K) (tC .non) (tVar 1)) (decide ((none : Option Int) ∈ ws.map numIn)) := by
    refine ev_op (x := (none : Option Int)) (y := V.ref p) ev_none (ev_obj rfl) fun F2 u w0 e2 ru rw2 H2 f2 g2 Q k => ?_
    cases rw2
    refine .inr (.inr (.inl ⟨toD (none : Option Int), (ws.map numIn).map toD, dp_mono f2 (RepD.dp (α := Option Int) ru), ?_, shaped_of _ (Lay.lay _) (by decide), shaped_of (ws.map numIn) (Lay.lay _) (by decide), k _ F2 H2 (Stp.refl f2) (by rw [any_eqv]; exact congrArg V.bl (decide_eq_decide.mpr Iff.rfl))⟩))
    exact .lst (SqL.of (g2 _ _ h1)) (dpAll_of (r1.imp fun _ _ => Rep.mono (e2.trans f2)))
  refine (et_test ein).go s1.fh fun H2 e2 => ?_
  by_cases hn : (none : Option Int) ∈ ws.map numIn
  · rw [decide_eq_true hn]
    refine k1 (by unfold numsIn; rw [if_pos hn]) _ (s1.hh.trans e2)
  · rw [decide_eq_false hn]
    have hs : (ws.map numIn) = (ws.map fun w => (numIn w).getD 0).map some := by
      rw [List.map_map]
      refine List.map_congr_left fun z hzm => ?_
      show numIn z = some ((numIn z).getD 0)
      cases q : numIn z with
      | none => exact absurd (List.mem_map.mpr ⟨z, hzm, q⟩) hn
      | some i => rfl
    rw [hs] at r1
    have := all2_ints.mp (all2_unsome r1)
    subst this
    exact ⟨_, rfl, k2 _ (by unfold numsIn; rw [if_neg hn]) p F1 H2 (s1.ext e2) n0 n1 (e2 _ _ h1)⟩
theorem ok_read_tale (T : Txt K mg) : Cal P w K mg base CX0 3 "read_tale" s_read_tale ["text"] (PuL1 K (fun (s : Str) => s.length ≤ 90000 ∧ (numsIn (Txt.split s " ")).isSome = true) fun s => (numsIn (Txt.split s " ")).getD []) := by
  refine T.f_read_tale.ok sc_read_tale (fun vs H Q E h => ?_) (fun f cdv A outer s H vs Q E hr h => ?_)
  · obtain ⟨F, x, v, rfl, _⟩ := h
    rfl
  obtain ⟨F, tx, v, rfl, hF, rv, ⟨hl, hs⟩, k⟩ := h
  refine ⟨_, (pss_cons (ps_set (i := 1) sc_read_tale.nd rfl (by first | exact Or.inl rfl | exact Or.inr rfl) (pe_cal (ok_numbers_in T) hr (by decide) (by rfl) pass0 (pa_cons (pe_split (pv 0) (pe_conS (by rfl) T.c_BLANK )) pa_nil)))
    (pss_cons (ps_if (pt_cmpR op_isN (pv 1) pe_non (nomark _))
    (pss_one ps_never)
    pss_nil)
    (pss_one (ps_ret (pv 1))))), ?_⟩
  obtain ⟨xs, hxs⟩ := Option.isSome_iff_exists.mp hs
  dsimp only at k
  rw [hxs] at k
  refine (ev_split (K := K) (F := F) (ev_var rfl rv) ev_str (by decide +kernel) (by rw [sizeLine_eq]; omega)).go hF fun u F1 H1 s1 r1 => ?_
  refine ⟨F1, _, u, rfl, s1.fh, r1, split_count hl, fun z hz => split_part hl hz, fun hn => ?_, fun xs' hx p F2 H2 s2 n0 n1 h2 => ?_⟩
  · rw [hxs] at hn; cases hn
  rw [hxs] at hx
  cases hx
  have s3 := s1.trans s2
  refine ⟨_, rfl, rfl, _, rfl, ?_⟩
  refine ⟨_, rfl, k p _ F2 H2 s3 (Ex.dom s1.hh n0) n1 h2 (all2_ints.mpr rfl)⟩
def sp_numbers (_K : PySem.W.Frag) : Sp := fun vs H Q _ => ∃ (F : Hp) (t g : Addr) (n : Int), vs = [.ref t] ∧ Ex F H ∧ Tray F H t g n ∧ n ≤ 10 ^ 8 ∧
  ∀ (p : Addr) (xs : List Int) (H' : Hp), xs ≠ [] → xs.length ≤ 400 → (∀ x ∈ xs, 0 ≤ x ∧ x < 10 ^ 9) → StpM (TM t g) F H F H' → H p = none → H' p = some (.lst (xs.map V.int)) → Tray F H' t g (n + 500) → Q (.ref p) H'
theorem ok_law_numbers (T : Txt K mg) : Cal P w K mg base CX0 2 "_law_numbers" s_law_numbers ["tray"] (sp_numbers K) := by
  refine T.f_law_numbers.ok sc_law_numbers (fun vs H Q E h => ?_) (fun f cdv A outer s H vs Q E hr h => ?_)
  · obtain ⟨F, t, g, n, rfl, _⟩ := h
    rfl
  obtain ⟨F, t, g, n, rfl, hF, hT, hn, k⟩ := h
  refine ⟨_, (pss_cons (ps_set (i := 1) sc_law_numbers.nd rfl (by first | exact Or.inl rfl | exact Or.inr rfl) (k_ixA (K := K) rfl hr (pe_lst (pa_cons pe_int (pa_cons pe_int (pa_cons (pe_op op_powW pe_int pe_int) pa_nil)))) (pe_cal (ok_law_draw T) hr (by decide) (by rfl) pass0 (pa_cons (pv 0) (pa_cons pe_int pa_nil))) (fun _ _ => rfl)))
    (pss_one (ps_ret (pe_lc (own := [("k", 2)]) rfl sc_law_numbers.nd (pi_range1 (by rfl) T.b_range (pa_cons (pe_op op_addA pe_int (pe_cal (ok_law_draw T) hr (by decide) (by rfl) pass0 (pa_cons (pv 0) (pa_cons (k_ixA (K := K) rfl hr (pe_lst (pa_cons pe_int (pa_cons pe_int (pa_cons pe_int pa_nil)))) (pe_op op_fdivW (pe_cal (ok_law_draw T) hr (by decide) (by rfl) pass0 (pa_cons (pv 0) (pa_cons pe_int pa_nil))) pe_int) (fun _ _ => rfl)) pa_nil)))) pa_nil)) (k_blk (N := ["tray", "most", "k"]) (sc := defScope s_law_numbers) rfl rfl (by decide +kernel)) (fun _ _ _ _ _ => (pg_name (i := 2) sc_law_numbers.nd rfl (by first | exact Or.inl rfl | exact Or.inr rfl))) (fun _ _ _ _ _ => pts_nil) (fun _ _ _ _ _ => (pe_cal (ok_law_draw T) hr (by decide) (by rfl) pass0 (pa_cons (pv 0) (pa_cons (pv 1) pa_nil)))))))), ?_⟩
  have e3 : ∀ {F : Hp} {σ : L2.St}, EvX K F F σ _ [(3 : Int), 40, 390] := ev_lst (el_cons ev_int (el_cons ev_int (el_cons ev_int el_nil))) (by decide)
  -- most
  refine EvM.go (K := K) (S := trayS t g) (em_ix (em_pure (ev_lst (xs := [(3 : Int), 40, 10 ^ 9]) (el_cons ev_int (el_cons ev_int (el_cons (ev_powI ev_int ev_int (pow_ok (k := 4) (n := 9) (by decide) (by decide) (by decide))) el_nil))) (by decide)))
    (fun _ _ => em_draw rfl draw_tray em_int (by omega) (fun i h => by subst h; decide)) (fun xs i h ⟨j, hj, h0, h1⟩ => by subst h hj; exact ⟨h0, h1⟩)) hF hT fun v most F1 H1 s1 i1 p1 r1 => ?_
  cases r1
  obtain ⟨xs, i, rfl, ⟨j, rfl, h0, h1⟩, hg⟩ := p1
  have hmost : 0 < most ∧ most ≤ 10 ^ 9 := by
    rcases list3 h0 h1 hg with rfl | rfl | rfl <;> decide
  refine em_lcr (K := K) (S := trayS t g) (β := Int) (P := fun l => 0 < l ∧ l ≤ 390) (P2 := fun _ x => 0 ≤ x ∧ x < 10 ^ 9) (c := 1)
    (EvM.imp (em_add em_int fun _ _ => em_draw rfl draw_tray (em_ix (em_pure e3) (fun _ _ => em_div (em_draw rfl draw_tray em_int (by omega) (fun i h => by subst h; decide)) (fun _ _ => em_int) (fun x y _ h => by subst h; exact wide_div (b := 3) (by decide) (by decide) (by decide) (by decide)))
      (fun xs i h ⟨x, y, ⟨j, hj, h0, h1⟩, h2, h3⟩ => by subst h hj h2 h3; simp only [List.length_cons, List.length_nil]; omega)) (by omega) ?_) ?_) ?_ (fun _ => rfl) (by decide) ?_ F1 H1 (Ex.refl _) s1.fh i1 _ ?_
  · rintro i ⟨xs, z, rfl, ⟨x, y, ⟨j, rfl, h0, h1⟩, rfl, rfl⟩, hg⟩
    rcases list3 (by omega) (by omega) hg with rfl | rfl | rfl <;> decide
  · rintro i ⟨x, y, rfl, ⟨z, ⟨xs, z', rfl, ⟨x, y', ⟨j, rfl, h0, h1⟩, rfl, rfl⟩, hg⟩, q0, q1⟩, rfl⟩
    rcases list3 (by omega) (by omega) hg with rfl | rfl | rfl <;> omega
  · rintro i ⟨q0, q1⟩
    omega
  · intro i k F2 e2 _ _ hk
    refine EvM.imp (em_draw (P := fun z => z = most) rfl draw_tray (em_pure (ev_var rfl rfl)) (by omega) (fun i h => by subst h; omega)) ?_
    rintro x ⟨z, rfl, q0, q1⟩
    omega
  · intro p us xs len F' H' pl s2 n0 f0 nM h2 a2 l2 q2 i2
    have := all2_ints.mp a2
    subst this
    have s3 := s1.trans s2
    refine k p xs H' (fun z => by subst z; simp at l2; omega) (by omega) (fun x hx => ?_) s3.forget ?_ h2 ((trayS t g).dn ((trayS t g).le i2 (by omega)) s3.ff)
    · obtain ⟨i, hi, rfl⟩ := List.mem_iff_getElem.mp hx
      exact q2 i _ (List.getElem?_eq_getElem hi)
    · exact s1.dm _ n0

def sp_law (K : PySem.W.Frag) : Sp := fun vs H Q _ => ∃ (a : Addr) (ns : List Int), vs = [.ref a] ∧ SqL K H a (ns.map V.int) ∧ ns.length ≤ 63 ∧ ∀ H', Q (.bl true) H'
theorem ok_law {f : Addr} {fd : FuncData} (Fl : Fun K "law" "law" s_law f fd) (T : Txt K mg) : FnOk P w K mg base CX0 6 f fd ["script"] (sp_law K) := by
  refine Fl.ok sc_law (fun vs H Q E h => ?_) (fun cdv A outer s H vs Q E hr h => ?_)
  · obtain ⟨a, ns, rfl, _⟩ := h
    rfl
  obtain ⟨a, ns, rfl, hS, hn, k⟩ := h
  refine ⟨_, (pss_cons (ps_set (i := 1) sc_law.nd rfl (by first | exact Or.inl rfl | exact Or.inr rfl) (pe_cal (ok_law_tray T) hr (by decide) (by rfl) pass0 (pa_cons (pv 0) pa_nil)))
    (pss_cons (ps_for PassesOwn.never rfl (pi_range1 (by rfl) T.b_range (pa_cons (pe_op op_addA pe_int (pe_op op_mul pe_int (pe_callB (k_len (K := K) rfl) (by rfl) T.b_len (by decide +kernel) (pa_cons (k_slice (K := K) rfl (pv 0) po_none (po_some pe_int)) pa_nil)))) pa_nil)) (pg_name (i := 2) sc_law.nd rfl (by first | exact Or.inl rfl | exact Or.inr rfl))
    (pss_cons (ps_set (i := 3) sc_law.nd rfl (by first | exact Or.inl rfl | exact Or.inr rfl) (pe_cal (ok_law_numbers T) hr (by decide) (by rfl) pass0 (pa_cons (pv 1) pa_nil)))
    (pss_cons (ps_set (i := 4) sc_law.nd rfl (by first | exact Or.inl rfl | exact Or.inr rfl) (pe_callTy (k_list (K := K) rfl rfl) (by rfl) T.b_list (by decide +kernel) (pa_cons (pv 3) pa_nil)))
    (pss_cons (ps_set (i := 5) sc_law.nd rfl (by first | exact Or.inl rfl | exact Or.inr rfl) (k_join (K := K) rfl pe_str (pe_lc (own := [("house", 7)]) rfl sc_law.nd (k_pilist (K := K) rfl (pv 4)) (k_blk (N := ["script", "tray", "k", "line", "kept", "due", "told", "house"]) (sc := defScope s_law) rfl rfl (by decide +kernel)) (fun _ _ _ _ _ => (pg_name (i := 7) sc_law.nd rfl (by first | exact Or.inl rfl | exact Or.inr rfl))) (fun _ _ _ _ _ => pts_nil) (fun _ _ _ _ _ => (pe_callTy call_str_int (by rfl) T.b_str (by decide +kernel) (pa_cons (pv 7) pa_nil))))))
    (pss_cons (ps_set (i := 6) sc_law.nd rfl (by first | exact Or.inl rfl | exact Or.inr rfl) (pe_lst (pa_cons (pe_cal (ok_show_tale T) hr (by decide) (by rfl) pass0 (pa_cons (pv 3) pa_nil)) (pa_cons (pe_kcal (ks := ["tale"]) (ok_show_tale T) (fun _ _ _ _ _ _ us hl => match us, hl with | [_], _ => rfl) rho1 hr (by decide) (by rfl) pass0 (pk_cons (pv 3) pk_nil)) (pa_cons (pe_cal (ok_read_tale T) hr (by decide) (by rfl) pass0 (pa_cons (pv 5) pa_nil)) (pa_cons (pe_kcal (ks := ["text"]) (ok_read_tale T) (fun _ _ _ _ _ _ us hl => match us, hl with | [_], _ => rfl) rho1 hr (by decide) (by rfl) pass0 (pk_cons (pv 5) pk_nil)) pa_nil))))))
    (pss_cons (ps_if (PW.pt (pw_or (pt_not (pt_val (pe_cal (ok_law_alike T) hr (by decide) (by rfl) pass0 (pa_cons (pv 6) (pa_cons (pe_lst (pa_cons (pv 5) (pa_cons (pv 5) (pa_cons (pv 4) (pa_cons (pv 4) pa_nil))))) pa_nil))))) (pw_or1 (pt_cmpR (k_neA (K := K) rfl hr.units) (pv 3) (pv 4) (nomark _)))))
    (pss_one (ps_ret pe_bl))
    pss_nil)
    (pss_cons (ps_expr (k_bm (K := K) rfl PySem.F.plainAttrs_list PySem.F.slot_list_append PySem.F.type_list_append mt_append (k_ixA (K := K) rfl hr (pv 6) pe_int (fun _ _ => rfl)) (pa_cons pe_int pa_nil)))
    (pss_one (ps_if (pt_not (pt_val (pe_cal (ok_law_alike T) hr (by decide) (by rfl) pass0 (pa_cons (pe_lst (pa_cons (k_ixA (K := K) rfl hr (pv 6) pe_int (fun _ _ => rfl)) (pa_cons (pe_cal (ok_read_tale T) hr (by decide) (by rfl) pass0 (pa_cons (pv 5) pa_nil)) pa_nil))) (pa_cons (pe_lst (pa_cons (pv 4) (pa_cons (pv 4) pa_nil))) pa_nil)))))
    (pss_one (ps_ret pe_bl))
    pss_nil)))))))))
    (pss_one (ps_ret pe_bl)))), ?_⟩
  refine ⟨_, rfl, H, a, ns, rfl, Ex.refl _, hS, by omega, fun t g H1 s1 nt ng hT => ?_⟩
  have hF : Ex H H1 := s1.fh
  have rs : R K H (.ref a) ns := ⟨a, _, rfl, hS, all2_ints.mpr rfl⟩
  refine x_for (K := K) (B := BN K Int 2) (it_rng1 (ev_addI ev_int (ev_mulI ev_int (ev_len ((sl_any_ev (ev_var rfl rs) (part_int (K := K) ev_int)).ev)) (.inl (by decide)))) (by rw [List.length_take]; omega)) hF tgt_n fun F2 H2 s2 => ?_
  have hT2 := hT.stp s2
  refine ⟨fun i F' σ' H' => F' = F2 ∧ Ex F2 H' ∧ Tray F2 H' t g (i * 500) ∧ ∃ o2 o3 o4 o5 o6 o7, σ' = [some (.ref a), some (.ref t), o2, o3, o4, o5, o6, o7],
    ⟨rfl, s2.fh, by simpa using hT2, _, _, _, _, _, _, rfl⟩, fun i F' σ' H' ⟨e, h, _⟩ => ⟨by rw [e]; exact Ex.refl _, by rw [e]; exact h⟩, ?_, ?_⟩
  · rintro i x F' σ' H' hx ⟨rfl, hE, hT3, o2, o3, o4, o5, o6, o7, rfl⟩ F4 H4 s4 σ2 ⟨u, ru, rfl⟩
    have hi : i < 200 := by
      have h1 := (List.getElem?_eq_some_iff.mp hx).1
      rw [rng_len, List.length_take] at h1
      omega
    -- line = _law_numbers(tray)
    refine ⟨_, rfl, F4, t, g, _, rfl, s4.fh, hT3.stp s4, by omega, fun pl xs H5 x0 xl xr s5 n5 h5 hT5 => ?_⟩
    -- kept = list(line), due
    have f4 : F4 pl = none := fresh_back s4.fh n5
    have nM : ¬ (trayS t g).M pl := fun z => ((trayS t g).no (hT3.stp s4) z).1 n5
    have s6 := s5.frz n5 f4 h5
    have hT6 : Tray (upd F4 pl (.lst (xs.map V.int))) H5 t g _ := (trayS t g).frz hT5 nM
    have e46 : Ex F4 (upd F4 pl (.lst (xs.map V.int))) := Ex.new f4
    have r3 : R K (upd F4 pl (.lst (xs.map V.int))) (.ref pl) xs := ⟨pl, _, rfl, SqL.of upd_same, all2_ints.mpr rfl⟩
    generalize upd F4 pl (.lst (xs.map V.int)) = F6 at s6 hT6 r3 e46
    refine x_asg (ev_list (K := K) (ev_var rfl r3)) s6.fh fun kp F7 H7 s7 r7 => ?_
    have hT7 := hT6.stp s7
    have r37 := Rep.mono s7.ff r3
    refine x_asg (ev_join (K := K) (ys := xs.map fun x => (toString x : Str)) ev_str (ev_lcy (fun x => (toString x : Str)) (it_list (ev_var rfl r7)) tgt_n (by omega) (fun F' x σ' ⟨u, _, e⟩ => by subst e; rfl) fun F' x σ' hm e ⟨u, ru, es⟩ => by
      subst es
      have := xr x hm
      exact ev_strI (ev_var rfl ru) (Nat.lt_of_lt_of_le (show x.natAbs < 10 ^ 9 by omega) (by decide))) (join_size (by omega) xr)) s7.fh fun du F8 H8 s8 r8 => ?_
    cases r8
    have hT8 := hT7.stp s8
    have r38 := Rep.mono s8.ff r37
    have r78 := Rep.mono s8.ff r7
    have hrb := read_back x0 xr
    have hjl := join_len (show xs.length ≤ 9000 by omega) xr
    generalize hd : Txt.join " " (xs.map fun x => (toString x : Str)) = due at *
    -- told
    refine u_asg (u_lstA (u_cons (EvX.go (K := K) (ev_call1 (ev_var rfl r38) ⟨by omega, xr⟩) s8.fh fun v1 F9 H9 s9 r9 => u_cons (EvX.go (K := K) (ev_callK1 (ev_var rfl (Rep.mono s9.ff r38)) ⟨by omega, xr⟩) s9.fh fun v2 F10 H10 s10 r10 => u_cons ?_))))
    rw [hd] at r9 r10
    cases r9
    cases r10
    have hT10 := (hT8.stp s9).stp s10
    refine EvN.go (K := K) (en_callL1 (ev_var (x := due) rfl rfl) ⟨hjl, by rw [hrb]; rfl⟩) s10.fh fun p3 us3 F11 H11 s11 n3 m3 h3 r11 => u_cons ?_
    have hT11 := hT10.stp s11
    refine EvN.go (K := K) (en_callKL1 (ev_var (x := due) rfl rfl) ⟨hjl, by rw [hrb]; rfl⟩) s11.fh fun p4 us4 F12 H12 s12 n4 m4 h4 r12 => u_nil ⟨by show 4 ≤ sizeLine; decide, fun p6 n6 => ?_⟩
    simp only [hrb, Option.getD_some] at r11 r12
    have := all2_ints.mp r11
    subst this
    have := all2_ints.mp r12
    subst this
    have hT12 := hT11.stp s12
    have h3' := s12.hh _ _ h3
    have m3' : F12 p3 = none := s12.fno h3 m3
    have r712 : R K F12 kp xs := Rep.mono ((((s9.ff.trans s10.ff).trans s11.ff).trans s12.ff)) r78
    have r312 : R K F12 (.ref pl) xs := Rep.mono ((((s9.ff.trans s10.ff).trans s11.ff).trans s12.ff)) r38
    have n36 : p3 ≠ p6 := fun z => by subst z; rw [h3'] at n6; cases n6
    have n46 : p4 ≠ p6 := fun z => by subst z; rw [h4] at n6; cases n6
    have n34 : p4 ≠ p3 := fun z => by subst z; rw [h3] at n4; cases n4
    -- the test
    have hT13 : Tray F12 _ t g _ := hT12.stp ((Stp.refl s12.fh).own (o := .lst [.str due, .str due, .ref p3, .ref p4]) n6)
    have e13 : Ex H12 (upd H12 p6 (.lst [.str due, .str due, .ref p3, .ref p4])) := Ex.new n6
    have h6 : upd H12 p6 (.lst [.str due, .str due, .ref p3, .ref p4]) p6 = some (.lst [.str due, .str due, .ref p3, .ref p4]) := upd_same
    generalize upd H12 p6 (.lst [.str due, .str due, .ref p3, .ref p4]) = H13 at hT13 e13 h6
    have e12 : Ex F12 H13 := s12.fh.trans e13
    have rk : R K H13 kp xs := Rep.mono e12 r712
    have rl : R K H13 (.ref pl) xs := Rep.mono e12 r312
    have r3n : R K H13 (.ref p3) xs := ⟨p3, _, rfl, SqL.of (e13 _ _ h3'), all2_ints.mpr rfl⟩
    have r4n : R K H13 (.ref p4) xs := ⟨p4, _, rfl, SqL.of (e13 _ _ h4), all2_ints.mpr rfl⟩
    have rt : R K H13 (.ref p6) (PyData.list [.str due, .str due, toD xs, toD xs]) := Dp.lst (SqL.of h6) (.cons (.str _) (.cons (.str _) (.cons (RepD.dp (α := List Int) r3n) (.cons (RepD.dp (α := List Int) r4n) .nil))))
    have hdx : dsz (toD xs) ≤ 400 := Nat.le_trans (ints_dsz xs) xl
    have hpx : (toD xs).depth ≤ 1 := RepD.dep_le xs
    have hnx : noD (toD xs) = true := ints_noD xs
    refine x_if (b := !(alike (PyData.list [.str due, .str due, toD xs, toD xs]) (PyData.list [.str due, .str due, toD xs, toD xs])) || !decide (xs = xs)) (F := H13)
      (et_or (et_not (et_B (ev_call2 (f := alike) (ev_var rfl rt) (EvL.dp (el_cons (EvX.dat (ev_var (x := due) rfl rfl)) (el_cons (EvX.dat (ev_var (x := due) rfl rfl)) (el_cons (EvX.dat (ev_var rfl rk)) (el_cons (EvX.dat (ev_var rfl rk)) el_nil)))) (show 4 ≤ 100000 by decide)) ⟨?_, ?_, ?_⟩)))
        fun _ => et_test (ev_ne (ev_var rfl rl) (ev_var rfl rk))) (Ex.refl _) (fun hb H14 e14 => ?_) fun hb H14 e14 => ?_
    · simp only [PyData.depth, PyData.depthAll]
      omega
    · simp [noD, noDAll, hnx]
    · simp only [dsz, dszAll]
      omega
    · rw [alike_refl _ (by simp [noD, noDAll, hnx])] at hb
      simp at hb
    -- told[2].append(0)
    have h3a := e14 _ _ (e13 _ _ h3')
    have h4a := e14 _ _ (e13 _ _ h4)
    have h6a := e14 _ _ h6
    have e15 : Ex F12 H14 := e12.trans e14
    have hT14 := hT13.stp (Stp.of_ex e12 e14)
    refine .inl ⟨_, rfl, .inl ⟨p6, _, 2, _, rfl, rfl, SqL.of h6a, rfl, .inl ⟨rfl, _, SqL.of h3a⟩, p3, _, _, rfl, rfl, h3a, by rw [List.length_map]; exact Nat.lt_of_lt_of_le (show xs.length < 500 by omega) (by decide), ?_⟩⟩
    have h4b : upd H14 p3 (.lst (xs.map V.int ++ [V.int 0])) p4 = some (.lst (xs.map V.int)) := by rw [upd_ne n34]; exact h4a
    have h6b : upd H14 p3 (.lst (xs.map V.int ++ [V.int 0])) p6 = some (.lst [.str due, .str due, .ref p3, .ref p4]) := by rw [upd_ne (Ne.symm n36)]; exact h6a
    have e16 : Ex F12 (upd H14 p3 (.lst (xs.map V.int ++ [V.int 0]))) := Ex.mut e15 m3'
    have nM3 : ¬ (trayS t g).M p3 := fun z => ((trayS t g).no (hT10.stp (Stp.of_ex s10.fh (Ex.refl _))) z).1 n3
    have hT16 : Tray F12 (upd H14 p3 (.lst (xs.map V.int ++ [V.int 0]))) t g _ := (trayS t g).upd_ok hT14 nM3 m3' h3a
    generalize upd H14 p3 (.lst (xs.map V.int ++ [V.int 0])) = H16 at h4b h6b e16 hT16
    have rk2 : R K H16 kp xs := Rep.mono e16 r712
    have r4m : R K H16 (.ref p4) xs := ⟨p4, _, rfl, SqL.of h4b, all2_ints.mpr rfl⟩
    have rt2 : R K H16 (.ref p6) ([V.str due, V.str due, V.ref p3, V.ref p4] : List V) := ⟨p6, _, rfl, SqL.of h6b, .cons rfl (.cons rfl (.cons rfl (.cons rfl .nil)))⟩
    have hp2 : (PyData.list [toD xs, toD xs]).depth < 4 ∧ noD (PyData.list [toD xs, toD xs]) = true ∧ dsz (PyData.list [toD xs, toD xs]) ≤ 100000000 :=
      ⟨by simp only [PyData.depth, PyData.depthAll]; omega, by simp [noD, noDAll, hnx], by simp only [dsz, dszAll]; omega⟩
    refine y_if (b := !(alike (PyData.list [toD xs, toD xs]) (PyData.list [toD xs, toD xs]))) (F := H16)
      (et_not (et_B (ev_call2 (f := alike) (EvL.dp (xs := [toD xs, toD xs]) (el_cons (EvX.dat (x := xs) (ev_ixV (ev_var rfl rt2) ev_int rfl r4m)) (el_cons (EvX.dat (x := xs) (EvX.is (x' := xs) (en_callL1 (ev_var (x := due) rfl rfl) ⟨hjl, by rw [hrb]; rfl⟩).ev (by simp only [hrb]; rfl))) el_nil)) (show 2 ≤ 100000 by decide)) (EvL.dp (xs := [toD xs, toD xs]) (el_cons (EvX.dat (x := xs) (ev_var rfl rk2)) (el_cons (EvX.dat (x := xs) (ev_var rfl rk2)) el_nil)) (show 2 ≤ 100000 by decide)) hp2))) (Ex.refl _) (fun hb H17 e17 => ?_) fun hb H17 e17 => ?_
    · rw [alike_refl _ (by simp [noD, noDAll, hnx])] at hb
      simp at hb
    · refine ⟨F', rfl, ?_, ?_, _, _, _, _, _, _, rfl⟩
      · exact (((((((((s4.ff.trans e46).trans s7.ff).trans s8.ff).trans s9.ff).trans s10.ff).trans s11.ff).trans s12.ff).trans e16).trans e17)
      · have hq : Tray F12 H17 t g _ := hT16.stp (Stp.of_ex e16 e17)
        refine (trayS t g).dn ((trayS t g).le hq ?_) (((((((s4.ff.trans e46).trans s7.ff).trans s8.ff).trans s9.ff).trans s10.ff).trans s11.ff).trans s12.ff)
        omega
  · rintro F' σ' H' ⟨rfl, hE, hT3, o2, o3, o4, o5, o6, o7, rfl⟩
    exact k H'
end
/-! what the top has written, the head -/
theorem all_mk {l : PySem.W.OpenLaw} {w : World} {K : PySem.W.Frag} {h : Heap} {mg : Str → Option Value} {fa f1 f2 f3 f4 f5 f6 f7 f8 f9 : Addr} (X : K.In h) (G : h.Ns mainGlobals mg) (hfa : mg "law" = some (.ref fa))
    {od1 an1 : Option Addr} {sl1 : Array (Option Value)} {oc1 kV1 dc1 pm1 cd1 ct1 : Value}
    {od2 an2 : Option Addr} {sl2 : Array (Option Value)} {oc2 kV2 dc2 pm2 cd2 ct2 : Value}
    {od3 an3 : Option Addr} {sl3 : Array (Option Value)} {oc3 kV3 dc3 pm3 cd3 ct3 : Value}
    {od4 an4 : Option Addr} {sl4 : Array (Option Value)} {oc4 kV4 dc4 pm4 cd4 ct4 : Value}
    {od5 an5 : Option Addr} {sl5 : Array (Option Value)} {oc5 kV5 dc5 pm5 cd5 ct5 : Value}
    {od6 an6 : Option Addr} {sl6 : Array (Option Value)} {oc6 kV6 dc6 pm6 cd6 ct6 : Value}
    {od7 an7 : Option Addr} {sl7 : Array (Option Value)} {oc7 kV7 dc7 pm7 cd7 ct7 : Value}
    {od8 an8 : Option Addr} {sl8 : Array (Option Value)} {oc8 kV8 dc8 pm8 cd8 ct8 : Value}
    {od9 an9 : Option Addr} {sl9 : Array (Option Value)} {oc9 kV9 dc9 pm9 cd9 ct9 : Value}
    {tk_BLANK tk_FIGURES tk_MOST_FIGURES : Tok}
    (a1 : PySem.W.nsIn K mainGlobals "_law_draw" = some (some (.ref f1)))
    (l1 : K.lookup f1 = some ⟨oc1, od1, .func (PySem.W.fnOf "_law_draw" "_law_draw" (defArgs s_law_draw) (defBody s_law_draw) (defScope s_law_draw) .none kV1 dc1 pm1 an1 cd1 ct1), sl1⟩)
    (c1 : PySem.W.codeIn K cd1 "_law_draw" = true)
    (k1 : PySem.W.keepIn K (.ref f1) = true)
    (a2 : PySem.W.nsIn K mainGlobals "_law_tray" = some (some (.ref f2)))
    (l2 : K.lookup f2 = some ⟨oc2, od2, .func (PySem.W.fnOf "_law_tray" "_law_tray" (defArgs s_law_tray) (defBody s_law_tray) (defScope s_law_tray) .none kV2 dc2 pm2 an2 cd2 ct2), sl2⟩)
    (c2 : PySem.W.codeIn K cd2 "_law_tray" = true)
    (k2 : PySem.W.keepIn K (.ref f2) = true)
    (a3 : PySem.W.nsIn K mainGlobals "_law_alike" = some (some (.ref f3)))
    (l3 : K.lookup f3 = some ⟨oc3, od3, .func (PySem.W.fnOf "_law_alike" "_law_alike" (defArgs s_law_alike) (defBody s_law_alike) (defScope s_law_alike) .none kV3 dc3 pm3 an3 cd3 ct3), sl3⟩)
    (c3 : PySem.W.codeIn K cd3 "_law_alike" = true)
    (k3 : PySem.W.keepIn K (.ref f3) = true)
    (a4 : PySem.W.nsIn K mainGlobals "show_tale" = some (some (.ref f4)))
    (l4 : K.lookup f4 = some ⟨oc4, od4, .func (PySem.W.fnOf "show_tale" "show_tale" (defArgs s_show_tale) (defBody s_show_tale) (defScope s_show_tale) .none kV4 dc4 pm4 an4 cd4 ct4), sl4⟩)
    (c4 : PySem.W.codeIn K cd4 "show_tale" = true)
    (k4 : PySem.W.keepIn K (.ref f4) = true)
    (a5 : PySem.W.nsIn K mainGlobals "number_in" = some (some (.ref f5)))
    (l5 : K.lookup f5 = some ⟨oc5, od5, .func (PySem.W.fnOf "number_in" "number_in" (defArgs s_number_in) (defBody s_number_in) (defScope s_number_in) .none kV5 dc5 pm5 an5 cd5 ct5), sl5⟩)
    (c5 : PySem.W.codeIn K cd5 "number_in" = true)
    (k5 : PySem.W.keepIn K (.ref f5) = true)
    (a6 : PySem.W.nsIn K mainGlobals "numbers_in" = some (some (.ref f6)))
    (l6 : K.lookup f6 = some ⟨oc6, od6, .func (PySem.W.fnOf "numbers_in" "numbers_in" (defArgs s_numbers_in) (defBody s_numbers_in) (defScope s_numbers_in) .none kV6 dc6 pm6 an6 cd6 ct6), sl6⟩)
    (c6 : PySem.W.codeIn K cd6 "numbers_in" = true)
    (k6 : PySem.W.keepIn K (.ref f6) = true)
    (a7 : PySem.W.nsIn K mainGlobals "read_tale" = some (some (.ref f7)))
    (l7 : K.lookup f7 = some ⟨oc7, od7, .func (PySem.W.fnOf "read_tale" "read_tale" (defArgs s_read_tale) (defBody s_read_tale) (defScope s_read_tale) .none kV7 dc7 pm7 an7 cd7 ct7), sl7⟩)
    (c7 : PySem.W.codeIn K cd7 "read_tale" = true)
    (k7 : PySem.W.keepIn K (.ref f7) = true)
    (a8 : PySem.W.nsIn K mainGlobals "_law_numbers" = some (some (.ref f8)))
    (l8 : K.lookup f8 = some ⟨oc8, od8, .func (PySem.W.fnOf "_law_numbers" "_law_numbers" (defArgs s_law_numbers) (defBody s_law_numbers) (defScope s_law_numbers) .none kV8 dc8 pm8 an8 cd8 ct8), sl8⟩)
    (c8 : PySem.W.codeIn K cd8 "_law_numbers" = true)
    (k8 : PySem.W.keepIn K (.ref f8) = true)
    (a9 : PySem.W.nsIn K mainGlobals "law" = some (some (.ref f9)))
    (l9 : K.lookup f9 = some ⟨oc9, od9, .func (PySem.W.fnOf "law" "law" (defArgs s_law) (defBody s_law) (defScope s_law) .none kV9 dc9 pm9 an9 cd9 ct9), sl9⟩)
    (c9 : PySem.W.codeIn K cd9 "law" = true)
    (k9 : PySem.W.keepIn K (.ref f9) = true)
    (b_all : PySem.W.nsIn K mainGlobals "all" = some none)
    (b_bool : PySem.W.nsIn K mainGlobals "bool" = some none)
    (b_int : PySem.W.nsIn K mainGlobals "int" = some none)
    (b_isinstance : PySem.W.nsIn K mainGlobals "isinstance" = some none)
    (b_len : PySem.W.nsIn K mainGlobals "len" = some none)
    (b_list : PySem.W.nsIn K mainGlobals "list" = some none)
    (b_max : PySem.W.nsIn K mainGlobals "max" = some none)
    (b_range : PySem.W.nsIn K mainGlobals "range" = some none)
    (b_str : PySem.W.nsIn K mainGlobals "str" = some none)
    (b_tuple : PySem.W.nsIn K mainGlobals "tuple" = some none)
    (c_BLANK : PySem.W.nsIn K mainGlobals "BLANK" = some (some (.str " " tk_BLANK)))
    (c_FIGURES : PySem.W.nsIn K mainGlobals "FIGURES" = some (some (.str "0123456789" tk_FIGURES)))
    (c_MOST_FIGURES : PySem.W.nsIn K mainGlobals "MOST_FIGURES" = some (some (.int 9 tk_MOST_FIGURES)))
    : ∃ fd : FuncData, (∀ (s : Shared) (v : Value), BindsTo s fd ⟨[v], []⟩ [("script", v)]) ∧ ∀ base : Heap, K.In base → base.Ns mainGlobals mg → FnOk l.prog w K mg base CX0 6 fa fd ["script"] (sp_law K) := by
  have e := hfa.symm.trans (PySem.W.mg_of X G a9)
  cases e
  have F1 := fun_mk (st := s_law_draw) l1 c1 k1
  have B1 := F1.binds (ps := ["tray", "many"]) fun _ _ _ _ _ _ us hl => match us, hl with | [_, _], _ => rfl
  have F2 := fun_mk (st := s_law_tray) l2 c2 k2
  have B2 := F2.binds (ps := ["script"]) fun _ _ _ _ _ _ us hl => match us, hl with | [_], _ => rfl
  have F3 := fun_mk (st := s_law_alike) l3 c3 k3
  have B3 := F3.binds (ps := ["found", "due"]) fun _ _ _ _ _ _ us hl => match us, hl with | [_, _], _ => rfl
  have F4 := fun_mk (st := s_show_tale) l4 c4 k4
  have B4 := F4.binds (ps := ["tale"]) fun _ _ _ _ _ _ us hl => match us, hl with | [_], _ => rfl
  have F5 := fun_mk (st := s_number_in) l5 c5 k5
  have B5 := F5.binds (ps := ["word"]) fun _ _ _ _ _ _ us hl => match us, hl with | [_], _ => rfl
  have F6 := fun_mk (st := s_numbers_in) l6 c6 k6
  have B6 := F6.binds (ps := ["words"]) fun _ _ _ _ _ _ us hl => match us, hl with | [_], _ => rfl
  have F7 := fun_mk (st := s_read_tale) l7 c7 k7
  have B7 := F7.binds (ps := ["text"]) fun _ _ _ _ _ _ us hl => match us, hl with | [_], _ => rfl
  have F8 := fun_mk (st := s_law_numbers) l8 c8 k8
  have B8 := F8.binds (ps := ["tray"]) fun _ _ _ _ _ _ us hl => match us, hl with | [_], _ => rfl
  have F9 := fun_mk (st := s_law) l9 c9 k9
  have B9 := F9.binds (ps := ["script"]) fun _ _ _ _ _ _ us hl => match us, hl with | [_], _ => rfl
  have T : Txt K mg := ⟨0, 0, ⟨_, _, PySem.W.mg_of X G a1, F1, B1⟩, ⟨_, _, PySem.W.mg_of X G a2, F2, B2⟩, ⟨_, _, PySem.W.mg_of X G a3, F3, B3⟩, ⟨_, _, PySem.W.mg_of X G a4, F4, B4⟩, ⟨_, _, PySem.W.mg_of X G a5, F5, B5⟩, ⟨_, _, PySem.W.mg_of X G a6, F6, B6⟩, ⟨_, _, PySem.W.mg_of X G a7, F7, B7⟩, ⟨_, _, PySem.W.mg_of X G a8, F8, B8⟩, ⟨_, _, PySem.W.mg_of X G a9, F9, B9⟩, PySem.W.mg_none_of X G b_all, PySem.W.mg_none_of X G b_bool, PySem.W.mg_none_of X G b_int, PySem.W.mg_none_of X G b_isinstance, PySem.W.mg_none_of X G b_len, PySem.W.mg_none_of X G b_list, PySem.W.mg_none_of X G b_max, PySem.W.mg_none_of X G b_range, PySem.W.mg_none_of X G b_str, PySem.W.mg_none_of X G b_tuple, ⟨_, PySem.W.mg_of X G c_BLANK⟩, ⟨_, PySem.W.mg_of X G c_FIGURES⟩, ⟨_, PySem.W.mg_of X G c_MOST_FIGURES⟩⟩
  exact ⟨_, fun s v => .of_eq rfl, fun base _ _ => ok_law F9 T⟩
theorem walk {l : PySem.W.OpenLaw} {q : Program} {loose : List Str} {XP : (Str → Option Value) → Heap → Prop} {YP : World → Heap → Prop} {d : DefRec} {K : Params → PySem.W.Frag} (hn : l.most = some 63) (hdf : d.params.defaults = [])
    (hY : ∀ (w : World) (h : Heap), YP w h → (K w.params).In h)
    (F : ∀ (w : World) (mg : Str → Option Value) (fa : Addr) (h : Heap), (K w.params).In h → h.Ns mainGlobals mg → mg d.name = some (.ref fa) →
      ∃ fd : FuncData, (∀ (s : Shared) (u : Value), BindsTo s fd ⟨[u], []⟩ [("script", u)]) ∧ ∀ base : Heap, (K w.params).In base → base.Ns mainGlobals mg → FnOk l.prog w (K w.params) mg base CX0 6 fa fd ["script"] (sp_law (K w.params))) :
    PySem.W.WalkO q loose XP YP l.row.toRowW d [] (fun f vs => PySem.call f vs) :=
  L2.walk_of (n := 63) (k := 6) (x := "script") (CX := fun _ => CX0) (sp := fun w => sp_law (K w.params)) hn (by decide) hdf ⟨rfl, by decide, by decide⟩ hY F (fun _ _ a ns hl _ hS => ⟨a, ns, rfl, hS, hl, fun _ => rfl⟩) fun _ _ _ _ _ z => z
end Lw

open PySem PySem.W PyProof.Rows in
set_option maxRecDepth 100000 in
set_option maxHeartbeats 0 in
theorem PySem.Challenge.cw_movedays_k52_tales_written_holds : PySem.Challenge.rw_movedays_k52_tales_written.Holds := by
  w_on; o_law; k_head; (case hw => w_witness2)
  k_fill
  refine Lw.walk (l := PySem.Challenge.rw_movedays_k52_tales_written) rfl rfl (fun w h Y => PySem.W.kIn_of Y) ?F
  case F =>
    intro w mg fa h KX G hmg
    refine' Lw.all_mk KX G hmg ?a1 ?l1 ?c1 ?k1 ?a2 ?l2 ?c2 ?k2 ?a3 ?l3 ?c3 ?k3 ?a4 ?l4 ?c4 ?k4 ?a5 ?l5 ?c5 ?k5 ?a6 ?l6 ?c6 ?k6 ?a7 ?l7 ?c7 ?k7 ?a8 ?l8 ?c8 ?k8 ?a9 ?l9 ?c9 ?k9 ?b_all ?b_bool ?b_int ?b_isinstance ?b_len ?b_list ?b_max ?b_range ?b_str ?b_tuple ?c_BLANK ?c_FIGURES ?c_MOST_FIGURES
    (case a1 => k_is)
    (case l1 => k_is)
    (case c1 => k_is)
    (case k1 => k_is)
    (case a2 => k_is)
    (case l2 => k_is)
    (case c2 => k_is)
    (case k2 => k_is)
    (case a3 => k_is)
    (case l3 => k_is)
    (case c3 => k_is)
    (case k3 => k_is)
    (case a4 => k_is)
    (case l4 => k_is)
    (case c4 => k_is)
    (case k4 => k_is)
    (case a5 => k_is)
    (case l5 => k_is)
    (case c5 => k_is)
    (case k5 => k_is)
    (case a6 => k_is)
    (case l6 => k_is)
    (case c6 => k_is)
    (case k6 => k_is)
    (case a7 => k_is)
    (case l7 => k_is)
    (case c7 => k_is)
    (case k7 => k_is)
    (case a8 => k_is)
    (case l8 => k_is)
    (case c8 => k_is)
    (case k8 => k_is)
    (case a9 => k_is)
    (case l9 => k_is)
    (case c9 => k_is)
    (case k9 => k_is)
    (case b_all => k_is)
    (case b_bool => k_is)
    (case b_int => k_is)
    (case b_isinstance => k_is)
    (case b_len => k_is)
    (case b_list => k_is)
    (case b_max => k_is)
    (case b_range => k_is)
    (case b_str => k_is)
    (case b_tuple => k_is)
    (case c_BLANK => k_is)
    (case c_FIGURES => k_is)
    (case c_MOST_FIGURES => k_is)

