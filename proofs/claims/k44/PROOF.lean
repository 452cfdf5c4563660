import PyProof.Rows.All
import Wide.All
import OpenK.AllK
import Wide.FinOn
import HandS.ForMost
import HandS.ForExc
import HandS.Evl
import HandS.Deep
import HandS.Conv
import HandS.Sort
import HandS.SortRule
import HandS.SortInts
import HandS.Wide
import HandS.Walk
import HandS.More
import HandS.Style
import HandS.SetFor
import HandS.IsInst
import KE.IntTextLaws
import KE.KDictLaws
import HandS.DictComp
import HandS.Zip
import KE.DataMinMax
import HandS.WideBits
import KE.SortData
import HandS.ExcInit
import HandS.ExcField
import KE.KExcIs
import HandS.TryOnly
import HandS.ListItems
import HandS.Strs
import HandS.SlotsOwn
import PyProof.InstNe
import HandS.TupSets
import PySem.Challenge.RW_movedays_k44_whole_two_reports_of_one_vi
set_option Elab.async false
set_option linter.all false
set_option maxRecDepth 100000
set_option maxHeartbeats 4000000
namespace L3
open PySem L2 Evl

/-! ### growth of the known heap F within the heap H -/
structure Stp (F H F' H' : Hp) : Prop where
  ff : Ex F F'
  fh : Ex F' H'
  hh : Ex H H'
  nw : ∀ a o, H a = some o → F' a = F a
section
variable {F H F' H' F2 H2 : Hp} {p : Addr} {o u : HO}
theorem Stp.refl (h : Ex F H) : Stp F H F H := ⟨Ex.refl _, h, Ex.refl _, fun _ _ _ => rfl⟩
theorem Stp.trans (a : Stp F H F' H') (b : Stp F' H' F2 H2) : Stp F H F2 H2 :=
  ⟨a.ff.trans b.ff, b.fh, a.hh.trans b.hh, fun x o h => (b.nw x o (a.hh x o h)).trans (a.nw x o h)⟩
theorem Stp.ext (a : Stp F H F' H') (e : Ex H' H2) : Stp F H F' H2 := ⟨a.ff, a.fh.trans e, a.hh.trans e, a.nw⟩
theorem Stp.of_ex (h : Ex F H) (e : Ex H H') : Stp F H F H' := (Stp.refl h).ext e
/-- a new object, known from now on -/
theorem Stp.new (a : Stp F H F' H') (hp : H' p = none) : Stp F H (upd F' p o) (upd H' p o) := by
  refine ⟨a.ff.trans (Ex.new ?_), fun b q e => ?_, a.hh.trans (Ex.new hp), fun b q e => ?_⟩
  · exact fresh_back a.fh hp
  · by_cases hb : b = p
    · subst hb; rw [upd_same] at e ⊢; exact e
    · rw [upd_ne hb] at e ⊢; exact a.fh b q e
  · have hb : b ≠ p := fun z => by subst z; rw [a.hh _ _ e] at hp; cases hp
    rw [upd_ne hb]; exact a.nw b q e
/-- a new object that stays changeable -/
theorem Stp.own (a : Stp F H F' H') (hp : H' p = none) : Stp F H F' (upd H' p o) := a.ext (Ex.new hp)
/-- a changeable object of ours is written -/
theorem Stp.mut (a : Stp F H F' H') (hp : H p = none) (hf : F' p = none) : Stp F H F' (upd H' p o) :=
  ⟨a.ff, Ex.mut a.fh hf, Ex.mut a.hh hp, a.nw⟩
/-- a changeable object of ours is known from now on -/
theorem Stp.frz (a : Stp F H F' H') (hp : H p = none) (hf : F' p = none) (h : H' p = some o) : Stp F H (upd F' p o) H' := by
  refine ⟨a.ff.trans (Ex.new hf), fun b q e => ?_, a.hh, fun b q e => ?_⟩
  · by_cases hb : b = p
    · subst hb; rw [upd_same] at e; rw [← e]; exact h
    · rw [upd_ne hb] at e; exact a.fh b q e
  · have hb : b ≠ p := fun z => by subst z; rw [hp] at e; cases e
    rw [upd_ne hb]; exact a.nw b q e
theorem Stp.fno (a : Stp F H F' H') (h : H p = some o) (hf : F p = none) : F' p = none := (a.nw p o h).trans hf
/-- one known heap and another, both within H -/
def cup (F G : Hp) : Hp := fun a => match F a with
  | some o => some o
  | none => G a
theorem cup_l : Ex F (cup F F') := fun a o h => by unfold cup; rw [h]
theorem cup_r (hF : Ex F H) (hG : Ex F' H) : Ex F' (cup F F') := fun a o h => by
  unfold cup
  cases e : F a with
  | none => exact h
  | some q =>
    have z := hF a q e
    rw [hG a o h] at z
    exact z.symm
theorem cup_in (hF : Ex F H) (hG : Ex F' H) : Ex (cup F F') H := fun a o h => by
  unfold cup at h
  cases e : F a with
  | none => rw [e] at h; exact hG a o h
  | some q => rw [e] at h; rw [← h]; exact hF a q e
theorem Stp.up (a : Stp F H F' H') (e : Ex F F2) (h2 : Ex F2 H) : Stp F2 H (cup F2 F') H' ∧ Ex F' (cup F2 F') := by
  have h3 : Ex F2 H' := h2.trans a.hh
  refine ⟨⟨cup_l, cup_in h3 a.fh, a.hh, fun x o h => ?_⟩, cup_r h3 a.fh⟩
  unfold cup
  cases q : F2 x with
  | some u => rfl
  | none =>
    show F' x = none
    rw [a.nw x o h]
    cases r : F x with
    | none => rfl
    | some u => rw [e x u r] at q; cases q
end

/-! ### what a value stands for -/
class Rep (α : Type) where
  R : PySem.W.Frag → Hp → V → α → Prop
  mono : ∀ {K : PySem.W.Frag} {F F' : Hp} {v : V} {x : α}, Ex F F' → R K F v x → R K F' v x
open Rep (R)
instance : Rep Int := ⟨fun _ _ v i => v = .int i, fun _ h => h⟩
instance : Rep Bool := ⟨fun _ _ v i => v = .bl i, fun _ h => h⟩
instance : Rep Str := ⟨fun _ _ v i => v = .str i, fun _ h => h⟩
instance : Rep Unit := ⟨fun _ _ v _ => v = .non, fun _ h => h⟩
/-- an object as such -/
instance : Rep V := ⟨fun _ _ v x => v = x, fun _ h => h⟩
inductive All2 {α β : Type} (P : α → β → Prop) : List α → List β → Prop
  | nil : All2 P [] []
  | cons {a b l m} : P a b → All2 P l m → All2 P (a :: l) (b :: m)
theorem All2.imp {α β : Type} {P Q : α → β → Prop} (h : ∀ a b, P a b → Q a b) : ∀ {l : List α} {m : List β}, All2 P l m → All2 Q l m
  | _, _, .nil => .nil
  | _, _, .cons p t => .cons (h _ _ p) (t.imp h)
theorem All2.len {α β : Type} {P : α → β → Prop} : ∀ {l : List α} {m : List β}, All2 P l m → l.length = m.length
  | _, _, .nil => rfl
  | _, _, .cons _ t => by simp [t.len]
theorem All2.get {α β : Type} {P : α → β → Prop} : ∀ {l : List α} {m : List β} {i : Nat} {b : β}, All2 P l m → m[i]? = some b → ∃ a, l[i]? = some a ∧ P a b
  | _, _, _, _, .nil, e => by simp at e
  | _, _, 0, _, .cons p _, e => by simp at e; subst e; exact ⟨_, rfl, p⟩
  | _, _, i + 1, _, .cons _ t, e => by
    obtain ⟨a, h1, h2⟩ := All2.get (i := i) t (by simpa using e)
    exact ⟨a, by simpa using h1, h2⟩
theorem All2.getl {α β : Type} {P : α → β → Prop} : ∀ {l : List α} {m : List β} {i : Nat} {a : α}, All2 P l m → l[i]? = some a → ∃ b, m[i]? = some b ∧ P a b
  | _, _, _, _, .nil, e => by simp at e
  | _, _, 0, _, .cons p _, e => by simp at e; subst e; exact ⟨_, rfl, p⟩
  | _, _, i + 1, _, .cons _ t, e => by
    obtain ⟨a, h1, h2⟩ := All2.getl (i := i) t (by simpa using e)
    exact ⟨a, by simpa using h1, h2⟩
theorem All2.app {α β : Type} {P : α → β → Prop} {l' : List α} {m' : List β} : ∀ {l : List α} {m : List β}, All2 P l m → All2 P l' m' → All2 P (l ++ l') (m ++ m')
  | _, _, .nil, h => h
  | _, _, .cons p t, h => .cons p (t.app h)
theorem All2.of {α β : Type} {P : α → β → Prop} : ∀ {l : List α} {m : List β}, l.length = m.length → (∀ (i : Nat) a b, l[i]? = some a → m[i]? = some b → P a b) → All2 P l m
  | [], [], _, _ => .nil
  | a :: l, b :: m, h, k => .cons (k 0 a b rfl rfl) (All2.of (by simpa using h) fun i x y h1 h2 => k (i + 1) x y (by simpa using h1) (by simpa using h2))
theorem All2.set {α β : Type} {P : α → β → Prop} {a : α} {b : β} (h : P a b) : ∀ {l : List α} {m : List β} (i : Nat), All2 P l m → All2 P (l.set i a) (m.set i b)
  | _, _, _, .nil => .nil
  | _, _, 0, .cons _ t => .cons h t
  | _, _, i + 1, .cons p t => .cons p (t.set h i)
theorem All2.erase {α β : Type} {P : α → β → Prop} : ∀ {l : List α} {m : List β} (i : Nat), All2 P l m → All2 P (l.eraseIdx i) (m.eraseIdx i)
  | _, _, _, .nil => .nil
  | _, _, 0, .cons _ t => t
  | _, _, i + 1, .cons p t => .cons p (t.erase i)
theorem All2.take {α β : Type} {P : α → β → Prop} : ∀ {l : List α} {m : List β} (i : Nat), All2 P l m → All2 P (l.take i) (m.take i)
  | _, _, _, .nil => by simp; exact .nil
  | _, _, 0, .cons p t => .nil
  | _, _, i + 1, .cons p t => .cons p (t.take i)
theorem All2.drop {α β : Type} {P : α → β → Prop} : ∀ {l : List α} {m : List β} (i : Nat), All2 P l m → All2 P (l.drop i) (m.drop i)
  | _, _, _, .nil => by simp; exact .nil
  | _, _, 0, .cons p t => .cons p t
  | _, _, i + 1, .cons p t => t.drop i
theorem all2_ints : ∀ {vs : List V} {xs : List Int}, All2 (fun v i => v = V.int i) vs xs ↔ vs = xs.map V.int := by
  intro vs xs
  constructor
  · intro h
    induction h with
    | nil => rfl
    | cons p t ih => rw [p, ih]; rfl
  · rintro rfl
    induction xs with
    | nil => exact .nil
    | cons a l ih => exact .cons rfl ih
theorem all2_strs : ∀ {vs : List V} {xs : List Str}, All2 (fun v i => v = V.str i) vs xs ↔ vs = xs.map V.str := by
  intro vs xs
  constructor
  · intro h
    induction h with
    | nil => rfl
    | cons p t ih => rw [p, ih]; rfl
  · rintro rfl
    induction xs with
    | nil => exact .nil
    | cons a l ih => exact .cons rfl ih
theorem all2_bls : ∀ {vs : List V} {xs : List Bool}, All2 (fun v i => v = V.bl i) vs xs ↔ vs = xs.map V.bl := by
  intro vs xs
  constructor
  · intro h
    induction h with
    | nil => rfl
    | cons p t ih => rw [p, ih]; rfl
  · rintro rfl
    induction xs with
    | nil => exact .nil
    | cons a l ih => exact .cons rfl ih
instance {α : Type} [Rep α] : Rep (List α) :=
  ⟨fun K F v xs => ∃ a vs, v = .ref a ∧ F a = some (.lst vs) ∧ All2 (R K F) vs xs,
   fun e ⟨a, vs, h1, h2, h3⟩ => ⟨a, vs, h1, e _ _ h2, h3.imp fun _ _ => Rep.mono e⟩⟩
instance {α β : Type} [Rep α] [Rep β] : Rep (α × β) :=
  ⟨fun K F v x => ∃ a u w, v = .ref a ∧ F a = some (.tup [u, w]) ∧ R K F u x.1 ∧ R K F w x.2,
   fun e ⟨a, u, w, h1, h2, h3, h4⟩ => ⟨a, u, w, h1, e _ _ h2, Rep.mono e h3, Rep.mono e h4⟩⟩
instance {α : Type} [Rep α] : Rep (Option α) :=
  ⟨fun K F v x => match x with
    | none => v = .non
    | some y => R K F v y,
   fun {K F F' v x} e h => by cases x with
    | none => exact h
    | some y => exact Rep.mono (α := α) e h⟩

section
variable {K : PySem.W.Frag} {F F' G H H' : Hp} {σ : L2.St} {ta tb te tl : TE} {tt tu : TT}
variable {α β γ : Type} [Rep α] [Rep β] [Rep γ] {x : α} {y : β} {z : γ}

/-- te gives what stands for x, whatever stands behind F and G -/
def EvX (K : PySem.W.Frag) (F G : Hp) (σ : L2.St) (te : TE) (x : α) : Prop :=
  ∀ H, Ex F H → Ex G H → ∀ Q : VK, (∀ v F' H', Stp F H F' H' → R K F' v x → Q v H') → te σ H Q
def EvT (F G : Hp) (σ : L2.St) (tt : TT) (b : Bool) : Prop :=
  ∀ H, Ex F H → Ex G H → ∀ Q : Bool → Hp → Prop, (∀ H', Ex H H' → Q b H') → tt σ H Q
theorem EvX.up (h : EvX K F G σ te x) (e : Ex F F') : EvX K F' G σ te x := fun H e1 e2 Q k =>
  h H (e.trans e1) e2 Q fun v F2 H2 s r => by
    obtain ⟨s2, e3⟩ := s.up e e1
    exact k v _ H2 s2 (Rep.mono e3 r)
theorem EvT.up {b : Bool} (h : EvT F G σ tt b) (e : Ex F F') : EvT F' G σ tt b := fun H e1 e2 Q k => h H (e.trans e1) e2 Q k
theorem EvX.is {x' : α} (h : EvX K F G σ te x) (e : x = x') : EvX K F G σ te x' := e ▸ h
theorem EvT.is {b b' : Bool} (h : EvT F G σ tt b) (e : b = b') : EvT F G σ tt b' := e ▸ h
theorem ev_var {i : Nat} {v : V} (hs : σ[i]? = some (some v)) (h : R K F v x) : EvX K F G σ (tVar i) x := fun H e _ Q k =>
  ⟨v, hs, k v F H (Stp.refl e) h⟩
theorem ev_int {i : Int} : EvX K F G σ (tC (.int i)) i := fun H e _ Q k => k _ F H (Stp.refl e) rfl
theorem ev_bl {b : Bool} : EvX K F G σ (tC (.bl b)) b := fun H e _ Q k => k _ F H (Stp.refl e) rfl
theorem ev_str {b : Str} : EvX K F G σ (tC (.str b)) b := fun H e _ Q k => k _ F H (Stp.refl e) rfl
theorem ev_non : EvX K F G σ (tC .non) () := fun H e _ Q k => k _ F H (Stp.refl e) rfl
theorem ev_none : EvX K F G σ (tC .non) (none : Option α) := fun H e _ Q k => k _ F H (Stp.refl e) rfl
theorem EvX.opt (h : EvX K F G σ te x) : EvX K F G σ te (Option.some x) := fun H e g Q k => h H e g Q k
theorem EvX.unopt (h : EvX K F G σ te (Option.some x)) : EvX K F G σ te x := fun H e g Q k => h H e g Q k

/-- two operands -/
theorem ev_op {r : R2} (ha : EvX K F G σ ta x) (hb : EvX K F G σ tb y)
    (hr : ∀ F1 u w, Ex F F1 → R K F1 u x → R K F1 w y → ∀ H1, Ex F1 H1 → Ex G H1 → ∀ Q : VK, (∀ v F2 H2, Stp F1 H1 F2 H2 → R K F2 v z → Q v H2) → r u w H1 Q) :
    EvX K F G σ (tOp r ta tb) z := fun H e g Q k =>
  ha H e g _ fun u F1 H1 s1 r1 => (hb.up s1.ff) H1 s1.fh (g.trans s1.hh) _ fun w F2 H2 s2 r2 =>
    hr F2 u w (s1.ff.trans s2.ff) (Rep.mono s2.ff r1) r2 H2 s2.fh ((g.trans s1.hh).trans s2.hh) Q fun v F3 H3 s3 r3 => k v F3 H3 ((s1.trans s2).trans s3) r3
theorem ev_un {r : V → Hp → VK → Prop} (ha : EvX K F G σ ta x)
    (hr : ∀ F1 u, Ex F F1 → R K F1 u x → ∀ H1, Ex F1 H1 → Ex G H1 → ∀ Q : VK, (∀ v F2 H2, Stp F1 H1 F2 H2 → R K F2 v z → Q v H2) → r u H1 Q) :
    EvX K F G σ (tUn r ta) z := fun H e g Q k =>
  ha H e g _ fun u F1 H1 s1 r1 => hr F1 u s1.ff r1 H1 s1.fh (g.trans s1.hh) Q fun v F2 H2 s2 r2 => k v F2 H2 (s1.trans s2) r2
theorem ev_I0 {f : Int → Int → V} {i j : Int} {z : γ} (ha : EvX K F G σ ta i) (hb : EvX K F G σ tb j) (hz : ∀ F, R K F (f i j) z) : EvX K F G σ (tOp (rI0 f) ta tb) z :=
  ev_op ha hb fun F1 u w _ h1 h2 H1 e1 _ Q k => ⟨i, j, h1, h2, k _ F1 H1 (Stp.refl e1) (hz F1)⟩
theorem ev_I {f : Int → Int → V} {C : Int → Int → Prop} {i j : Int} {z : γ} (ha : EvX K F G σ ta i) (hb : EvX K F G σ tb j) (hc : C i j) (hz : ∀ F, R K F (f i j) z) : EvX K F G σ (tOp (rI C f) ta tb) z :=
  ev_op ha hb fun F1 u w _ h1 h2 H1 e1 _ Q k => ⟨i, j, h1, h2, hc, k _ F1 H1 (Stp.refl e1) (hz F1)⟩
theorem ev_add {i j : Int} (ha : EvX K F G σ ta i) (hb : EvX K F G σ tb j) : EvX K F G σ (tOp (rI0 fun i j => .int (i + j)) ta tb) (i + j) := ev_I0 ha hb fun _ => rfl
theorem ev_sub {i j : Int} (ha : EvX K F G σ ta i) (hb : EvX K F G σ tb j) : EvX K F G σ (tOp (rI0 fun i j => .int (i - j)) ta tb) (i - j) := ev_I0 ha hb fun _ => rfl
theorem ev_neg {i : Int} (ha : EvX K F G σ ta i) : EvX K F G σ (tUn (rU fun i => .int (-i)) ta) (-i) :=
  ev_un ha fun F1 u _ h1 H1 e1 _ Q k => ⟨i, h1, k _ F1 H1 (Stp.refl e1) rfl⟩
theorem ev_lt {i j : Int} (ha : EvX K F G σ ta i) (hb : EvX K F G σ tb j) : EvX K F G σ (tOp (rI0 fun i j => .bl (decide (i < j))) ta tb) (decide (i < j)) := ev_I0 ha hb fun _ => rfl
theorem ev_le {i j : Int} (ha : EvX K F G σ ta i) (hb : EvX K F G σ tb j) : EvX K F G σ (tOp (rI0 fun i j => .bl (decide (i ≤ j))) ta tb) (decide (i ≤ j)) := ev_I0 ha hb fun _ => rfl
theorem ev_gt {i j : Int} (ha : EvX K F G σ ta i) (hb : EvX K F G σ tb j) : EvX K F G σ (tOp (rI0 fun i j => .bl (decide (j < i))) ta tb) (decide (j < i)) := ev_I0 ha hb fun _ => rfl
theorem ev_ge {i j : Int} (ha : EvX K F G σ ta i) (hb : EvX K F G σ tb j) : EvX K F G σ (tOp (rI0 fun i j => .bl (decide (j ≤ i))) ta tb) (decide (j ≤ i)) := ev_I0 ha hb fun _ => rfl
theorem dec_vint {i j : Int} : decide (V.int i = V.int j) = decide (i = j) := by simp
theorem ev_eqI {i j : Int} (ha : EvX K F G σ ta i) (hb : EvX K F G σ tb j) : EvX K F G σ (tOp rEq ta tb) (decide (i = j)) :=
  ev_op ha hb fun F1 u w _ h1 h2 H1 e1 _ Q k => by
    cases h1; cases h2
    exact ⟨rfl, k _ F1 H1 (Stp.refl e1) (by rw [dec_vint]; rfl)⟩
theorem ev_neI {i j : Int} (ha : EvX K F G σ ta i) (hb : EvX K F G σ tb j) : EvX K F G σ (tOp rNe ta tb) (!decide (i = j)) :=
  ev_op ha hb fun F1 u w _ h1 h2 H1 e1 _ Q k => by
    cases h1; cases h2
    exact ⟨rfl, k _ F1 H1 (Stp.refl e1) (by rw [dec_vint]; rfl)⟩
/-! tests -/
theorem et_test {b : Bool} (h : EvX K F G σ te b) : EvT F G σ (tTest te) b := fun H e g Q k => h H e g _ fun v F' H' s r => ⟨b, r, k H' s.hh⟩
theorem et_B {b : Bool} (h : EvX K F G σ te b) : EvT F G σ (tB te) b := fun H e g Q k => h H e g _ fun v F' H' s r => ⟨b, r, k H' s.hh⟩
theorem et_yes : EvT F G σ tYes true := fun H _ _ Q k => k H (Ex.refl H)
theorem et_and {a b : Bool} (h1 : EvT F G σ tt a) (h2 : a = true → EvT F G σ tu b) : EvT F G σ (tAnd tt tu) (a && b) := fun H e g Q k => h1 H e g _ fun H1 e1 => by
  cases a with
  | true => exact h2 rfl H1 (e.trans e1) (g.trans e1) Q fun H2 e2 => k H2 (e1.trans e2)
  | false => exact k H1 e1
theorem et_or {a b : Bool} (h1 : EvT F G σ tt a) (h2 : a = false → EvT F G σ tu b) : EvT F G σ (tOr tt tu) (a || b) := fun H e g Q k => h1 H e g _ fun H1 e1 => by
  cases a with
  | true => exact k H1 e1
  | false => exact h2 rfl H1 (e.trans e1) (g.trans e1) Q fun H2 e2 => k H2 (e1.trans e2)
theorem et_not {a : Bool} (h : EvT F G σ tt a) : EvT F G σ (tNot tt) (!a) := fun H e g Q k => h H e g _ fun H1 e1 => k H1 e1
theorem ev_if {b : Bool} {x1 x2 : α} (h : EvT F G σ tt b) (h1 : b = true → EvX K F G σ ta x1) (h2 : b = false → EvX K F G σ tb x2) : EvX K F G σ (tIf tt ta tb) (if b = true then x1 else x2) := fun H e g Q k => h H e g _ fun H1 e1 => by
  cases b with
  | true =>
    show ta σ H1 Q
    exact h1 rfl H1 (e.trans e1) (g.trans e1) Q fun v F2 H2 s r => k v F2 H2 ((Stp.of_ex e e1).trans s) r
  | false =>
    show tb σ H1 Q
    exact h2 rfl H1 (e.trans e1) (g.trans e1) Q fun v F2 H2 s r => k v F2 H2 ((Stp.of_ex e e1).trans s) r
theorem ev_andV {a b : Bool} (h1 : EvX K F G σ ta a) (h2 : a = true → EvX K F G σ tb b) : EvX K F G σ (tAndV ta tb) (a && b) := fun H e g Q k => h1 H e g _ fun v F1 H1 s1 r1 => ⟨a, r1, by
  cases a with
  | true => exact h2 rfl H1 (e.trans s1.hh) (g.trans s1.hh) Q fun v F2 H2 s2 r2 => k v F2 H2 ((Stp.of_ex e s1.hh).trans s2) r2
  | false => exact k _ F1 H1 s1 rfl⟩
theorem ev_orV {a b : Bool} (h1 : EvX K F G σ ta a) (h2 : a = false → EvX K F G σ tb b) : EvX K F G σ (tOrV ta tb) (a || b) := fun H e g Q k => h1 H e g _ fun v F1 H1 s1 r1 => ⟨a, r1, by
  cases a with
  | true => exact k _ F1 H1 s1 rfl
  | false => exact h2 rfl H1 (e.trans s1.hh) (g.trans s1.hh) Q fun v F2 H2 s2 r2 => k v F2 H2 ((Stp.of_ex e s1.hh).trans s2) r2⟩
theorem ev_notV {a : Bool} (h1 : EvX K F G σ ta a) : EvX K F G σ (tNotV ta) (!a) := fun H e g Q k => h1 H e g _ fun v F1 H1 s1 r1 => ⟨a, r1, k _ F1 H1 s1 rfl⟩

/-! lists, tuples -/
theorem ev_pair (ha : EvX K F G σ ta x) (hb : EvX K F G σ tb y) : EvX K F G σ (tTup (tCons ta (tCons tb tNil))) (x, y) := fun H e g Q k =>
  ha H e g _ fun u F1 H1 s1 r1 => (hb.up s1.ff) H1 s1.fh (g.trans s1.hh) _ fun w F2 H2 s2 r2 =>
    ⟨by show 2 ≤ sizeLine; decide, fun p hp => k _ _ _ ((s1.trans s2).new hp) ⟨p, u, w, rfl, upd_same, Rep.mono (s2.ff.trans (Ex.new (fresh_back s2.fh hp))) r1, Rep.mono (Ex.new (fresh_back s2.fh hp)) r2⟩⟩
/-- the items of a display -/
def EvL (K : PySem.W.Frag) (F G : Hp) (σ : L2.St) (ta : TA) (xs : List α) : Prop :=
  ∀ H, Ex F H → Ex G H → ∀ Q : List V → Hp → Prop, (∀ vs F' H', Stp F H F' H' → All2 (R K F') vs xs → Q vs H') → ta σ H Q
theorem el_nil : EvL K F G σ tNil ([] : List α) := fun H e g Q k => k [] F H (Stp.refl e) .nil
theorem el_cons {tr : TA} {xs : List α} (h : EvX K F G σ te x) (hr : EvL K F G σ tr xs) : EvL K F G σ (tCons te tr) (x :: xs) := fun H e g Q k =>
  h H e g _ fun u F1 H1 s1 r1 => hr H1 (e.trans s1.hh) (g.trans s1.hh) _ fun vs F2 H2 s2 r2 => by
    obtain ⟨s3, e3⟩ := s2.up s1.ff s1.fh
    exact k _ _ _ (s1.trans s3) (.cons (Rep.mono s3.ff r1) (r2.imp fun _ _ => Rep.mono e3))
theorem ev_lst {tr : TA} {xs : List α} (h : EvL K F G σ tr xs) (hl : xs.length ≤ 100000) : EvX K F G σ (tLst tr) xs := fun H e g Q k =>
  h H e g _ fun vs F1 H1 s1 r1 => ⟨by rw [r1.len]; exact sz_of hl, fun p hp => k _ _ _ (s1.new hp) ⟨p, vs, rfl, upd_same, r1.imp fun _ _ => Rep.mono (Ex.new (fresh_back s1.fh hp))⟩⟩
theorem ev_nillst : EvX K F G σ (tLst tNil) ([] : List α) := ev_lst el_nil (Nat.zero_le _)
theorem ixN_all2 {xs : List α} {vs : List V} {i : Int} (h : All2 (R K F) vs xs) (ha : atI xs i = some x) : ∃ v, atI vs i = some v ∧ R K F v x := by
  unfold atI at ha ⊢
  rw [h.len]
  cases q : ixN xs.length i with
  | none => rw [q] at ha; cases ha
  | some j =>
    rw [q] at ha
    exact h.get ha
theorem ev_ixL {xs : List α} {i : Int} (ha : EvX K F G σ ta xs) (hb : EvX K F G σ tb i) (hx : atI xs i = some x) : EvX K F G σ (tOp (rIxL K) ta tb) x :=
  ev_op ha hb fun F1 u w _ h1 h2 H1 e1 _ Q k => by
    obtain ⟨a, vs, rfl, hs, hv⟩ := h1
    obtain ⟨v, hv1, hv2⟩ := ixN_all2 hv hx
    exact ⟨a, vs, i, v, rfl, h2, SqL.of (e1 _ _ hs), hv1, k _ F1 H1 (Stp.refl e1) hv2⟩
end
/-- the script: a list of ints, as it is handed in -/
structure Scr where
  ns : List Int
instance : Rep Scr := ⟨fun K F v s => ∃ a, v = .ref a ∧ SqL K F a (s.ns.map V.int), fun e ⟨a, h1, h2⟩ => ⟨a, h1, ex_l e h2⟩⟩
end L3

namespace L3
open PySem L2 Evl
open Rep (R)
section
variable {K : PySem.W.Frag} {F F' G H H' : Hp} {σ : L2.St} {ta tb te tl : TE} {tt tu : TT}
variable {α β γ : Type} [Rep α] [Rep β] [Rep γ] {x : α} {y : β} {z : γ}

/-! ### what a for walks -/
def WalkX (K : PySem.W.Frag) (F : Hp) (J : It) (xs : List α) : Prop :=
  ∃ (Gd : Hp → Prop) (Y : Nat → Hp → V → Hp → Prop), Walk J xs.length Gd Y ∧ (∀ H, Ex F H → Gd H) ∧
    ∀ i H v H', Ex F H → i < xs.length → Y i H v H' → ∃ x, xs[i]? = some x ∧ ∃ F', Stp F H F' H' ∧ R K F' v x
def IT (K : PySem.W.Frag) (F G : Hp) (σ : L2.St) (wi : TI) (xs : List α) : Prop :=
  ∀ H, Ex F H → Ex G H → ∀ Rr : It → Hp → Prop, (∀ J F' H', Stp F H F' H' → WalkX K F' J xs → Rr J H') → wi σ H Rr
theorem WalkX.up {J : It} {xs : List α} (h : WalkX K F J xs) (e : Ex F F') : WalkX K F' J xs := by
  obtain ⟨Gd, Y, w, h1, h2⟩ := h
  refine ⟨Gd, Y, w, fun H e1 => h1 H (e.trans e1), fun i H v H' e1 hi y => ?_⟩
  obtain ⟨x, hx, F1, s, r⟩ := h2 i H v H' (e.trans e1) hi y
  obtain ⟨s2, e3⟩ := s.up e e1
  exact ⟨x, hx, _, s2, Rep.mono e3 r⟩
theorem it_list {xs : List α} (h : EvX K F G σ tl xs) : IT K F G σ (iList K tl) xs := fun H e g Rr k =>
  h H e g _ fun v F' H' s r => by
    obtain ⟨a, vs, rfl, h1, h2⟩ := r
    refine ⟨a, rfl, ⟨vs, SqL.of (s.fh _ _ h1)⟩, k _ F' H' s ⟨fun H => SqL K H a vs, YAt vs, by rw [← h2.len]; exact walk_list, fun H2 e2 => SqL.of (e2 _ _ h1), fun i H2 v H3 e2 _ y => ?_⟩⟩
    obtain ⟨rfl, hv⟩ := y
    obtain ⟨x, hx, r⟩ := h2.getl hv
    exact ⟨x, hx, F', Stp.refl e2, r⟩
theorem it_scr {s : Scr} (h : EvX K F G σ tl s) : IT K F G σ (iList K tl) s.ns := fun H e g Rr k =>
  h H e g _ fun v F' H' st r => by
    obtain ⟨a, rfl, h1⟩ := r
    refine ⟨a, rfl, ⟨_, ex_l st.fh h1⟩, k _ F' H' st ⟨fun H => SqL K H a (s.ns.map V.int), YAt (s.ns.map V.int), by simpa using walk_list (K := K) (a := a) (xs := s.ns.map V.int), fun H2 e2 => ex_l e2 h1, fun i H2 v H3 e2 _ y => ?_⟩⟩
    obtain ⟨rfl, hv⟩ := y
    rw [List.getElem?_map] at hv
    cases q : s.ns[i]? with
    | none => rw [q] at hv; cases hv
    | some x => rw [q] at hv; exact ⟨x, rfl, F', Stp.refl e2, (Option.some.inj hv).symm⟩
/-- the ints below n -/
def rng (n : Int) : List Int := (List.range n.toNat).map fun (i : Nat) => (i : Int)
def rng2 (a b : Int) : List Int := (List.range (b - a).toNat).map fun (i : Nat) => a + (i : Int)
theorem rng_len (n : Int) : (rng n).length = n.toNat := by simp [rng]
theorem rng2_len (a b : Int) : (rng2 a b).length = (b - a).toNat := by simp [rng2]
theorem mem_rng {n i : Int} : i ∈ rng n ↔ 0 ≤ i ∧ i < n := by
  simp only [rng, List.mem_map, List.mem_range]
  constructor
  · rintro ⟨k, h, rfl⟩; omega
  · rintro ⟨h1, h2⟩; exact ⟨i.toNat, by omega, by omega⟩
theorem mem_rng2 {a b i : Int} : i ∈ rng2 a b ↔ a ≤ i ∧ i < b := by
  simp only [rng2, List.mem_map, List.mem_range]
  constructor
  · rintro ⟨k, h, rfl⟩; omega
  · rintro ⟨h1, h2⟩; exact ⟨(i - a).toNat, by omega, by omega⟩
theorem rng_get {n : Int} {i : Nat} (h : i < n.toNat) : (rng n)[i]? = some (i : Int) := by simp [rng, h]
theorem rng2_get {a b : Int} {i : Nat} (h : i < (b - a).toNat) : (rng2 a b)[i]? = some (a + (i : Int)) := by simp [rng2, h]
theorem it_rng1 {n : Int} (h : EvX K F G σ te n) (hn : -1000000000 ≤ n ∧ n ≤ 1000000000) : IT K F G σ (iRng1 (tCons te tNil)) (rng n) := fun H e g Rr k =>
  h H e g _ fun v F' H' s r => by
    cases r
    refine ⟨n, rfl, by omega, by omega, k _ F' H' s ⟨fun _ => True, YFn fun i => .int (0 + i), by rw [rng_len]; exact walk_range, fun _ _ => trivial, fun i H2 v H3 e2 hi y => ?_⟩⟩
    obtain ⟨rfl, rfl⟩ := y
    rw [rng_len] at hi
    refine ⟨(i : Int), rng_get hi, F', Stp.refl e2, ?_⟩
    show V.int (0 + (i : Int)) = V.int (i : Int)
    rw [Int.zero_add]
theorem it_rng2 {a b : Int} (h1 : EvX K F G σ ta a) (h2 : EvX K F G σ tb b) (hn : -1000000000 ≤ a ∧ a ≤ 1000000000 ∧ -1000000000 ≤ b ∧ b ≤ 1000000000) : IT K F G σ (iRng2 (tCons ta (tCons tb tNil))) (rng2 a b) := fun H e g Rr k =>
  h1 H e g _ fun v F1 H1 s1 r1 => (h2.up s1.ff) H1 s1.fh (g.trans s1.hh) _ fun w F2 H2 s2 r2 => by
    cases r1; cases r2
    refine ⟨a, b, rfl, by omega, k _ F2 H2 (s1.trans s2) ⟨fun _ => True, YFn fun i => .int (a + i), by rw [rng2_len]; exact walk_range, fun _ _ => trivial, fun i H2 v H3 e2 hi y => ?_⟩⟩
    obtain ⟨rfl, rfl⟩ := y
    rw [rng2_len] at hi
    exact ⟨a + (i : Int), rng2_get hi, F2, Stp.refl e2, rfl⟩
/-- pairs (i, x) -/
def enu (xs : List α) : List (Int × α) := xs.zipIdx.map fun p => ((p.2 : Int), p.1)
theorem enu_len (xs : List α) : (enu xs).length = xs.length := by simp [enu]
theorem enu_get {xs : List α} {i : Nat} (h : xs[i]? = some x) : (enu xs)[i]? = some ((i : Int), x) := by simp [enu, List.getElem?_zipIdx, h]
theorem it_enum {xs : List α} (h : EvX K F G σ tl xs) : IT K F G σ (iEnum K (tCons tl tNil)) (enu xs) := fun H e g Rr k =>
  h H e g _ fun v F' H' s r => by
    obtain ⟨a, vs, rfl, h1, h2⟩ := r
    refine ⟨a, vs, rfl, SqL.of (s.fh _ _ h1), k _ F' H' s ⟨fun H => SqL K H a vs, _, by rw [enu_len, ← h2.len]; exact walk_enum, fun H2 e2 => SqL.of (e2 _ _ h1), fun i H2 v H3 e2 _ y => ?_⟩⟩
    obtain ⟨T, u, w, rfl, hT, rfl, h3, h4⟩ := y
    cases h3
    obtain ⟨x, hx, r⟩ := h2.getl h4
    refine ⟨((i : Int), x), enu_get hx, _, (Stp.refl e2).new hT, T, _, w, rfl, upd_same, rfl, Rep.mono (Ex.new (fresh_back e2 hT)) r⟩
theorem it_zip {xs : List α} {ys : List β} (ha : EvX K F G σ ta xs) (hb : EvX K F G σ tb ys) : IT K F G σ (iZip K (tCons ta (tCons tb tNil))) (xs.zip ys) := fun H e g Rr k =>
  ha H e g _ fun v F1 H1 s1 r1 => (hb.up s1.ff) H1 s1.fh (g.trans s1.hh) _ fun w F2 H2 s2 r2 => by
    obtain ⟨a, vs, rfl, h1, h2⟩ := Rep.mono s2.ff r1
    obtain ⟨b, ws, rfl, h3, h4⟩ := r2
    refine ⟨a, b, vs, ws, rfl, SqL.of (s2.fh _ _ h1), SqL.of (s2.fh _ _ h3), k _ F2 H2 (s1.trans s2) ⟨fun H => SqL K H a vs ∧ SqL K H b ws, _, walk_zip (by rw [List.length_zip, h2.len, h4.len]), fun H2 e2 => ⟨SqL.of (e2 _ _ h1), SqL.of (e2 _ _ h3)⟩, fun i H2 v H3 e2 _ y => ?_⟩⟩
    obtain ⟨T, u, w, rfl, hT, rfl, q1, q2⟩ := y
    obtain ⟨x, hx, r⟩ := h2.getl q1
    obtain ⟨y, hy, r'⟩ := h4.getl q2
    refine ⟨(x, y), by rw [List.getElem?_zip_eq_some]; exact ⟨hx, hy⟩, _, (Stp.refl e2).new hT, T, u, w, rfl, upd_same, Rep.mono (Ex.new (fresh_back e2 hT)) r, Rep.mono (Ex.new (fresh_back e2 hT)) r'⟩

/-! ### targets -/
def Tgt (K : PySem.W.Frag) (g : TG) (B : Hp → α → L2.St → L2.St → Prop) : Prop :=
  ∀ v x σ F H, R K F v x → Ex F H → ∀ Q : L2.St → Hp → Prop, (∀ σ', B F x σ σ' → Q σ' H) → g v σ H Q
def BN (K : PySem.W.Frag) (α : Type) [Rep α] (i : Nat) : Hp → α → L2.St → L2.St → Prop := fun F x σ σ' => ∃ v, R K F v x ∧ σ' = σ.set i (some v)
def BP (K : PySem.W.Frag) (α β : Type) [Rep α] [Rep β] (i j : Nat) : Hp → α × β → L2.St → L2.St → Prop := fun F x σ σ' => ∃ u w, R K F u x.1 ∧ R K F w x.2 ∧ σ' = (σ.set i (some u)).set j (some w)
theorem tgt_n {i : Nat} : Tgt K (gName i) (BN K α i) := fun v x σ F H r e Q k => k _ ⟨v, r, rfl⟩
theorem tgt_p {i j : Nat} : Tgt K (gTup K 2 (gCons (gName i) (gCons (gName j) gNil))) (BP K α β i j) := fun v x σ F H r e Q k => by
  obtain ⟨a, u, w, rfl, h1, h2, h3⟩ := r
  exact ⟨a, [u, w], rfl, SqT.of (e _ _ h1), rfl, u, [w], rfl, w, [], rfl, rfl, k _ ⟨u, w, h2, h3, rfl⟩⟩

/-! ### comprehensions -/
theorem ev_lc {wi : TI} {g : TG} {vs : List Nat} {xs : List α} {B : Hp → α → L2.St → L2.St → Prop} (f : α → Bool) (ee : α → β) (hi : IT K F G σ wi xs) (hg : Tgt K g B) (hn : xs.length ≤ 100000)
    (hw : ∀ F' x σ', B F' x (wipe σ vs) σ' → wipe σ' vs = wipe σ vs)
    (ht : ∀ F' x σ', x ∈ xs → Ex F F' → B F' x (wipe σ vs) σ' → EvT F' G σ' tt (f x))
    (he : ∀ F' x σ', x ∈ xs → f x = true → Ex F F' → B F' x (wipe σ vs) σ' → EvX K F' G σ' te (ee x)) :
    EvX K F G σ (tLc wi g tt te vs) ((xs.filter f).map ee) := fun H0 e0 g0 Q k =>
  hi H0 e0 g0 _ fun J F1 H1 s1 wx D hD => by
    obtain ⟨Gd, Y, w, hgd, hy⟩ := id wx
    have g1 : Ex G H1 := g0.trans s1.hh
    refine lc_it w (fun i H => ∃ F' acc, Stp F1 H1 F' H ∧ F' D = none ∧ H D = some (.lst acc) ∧ All2 (R K F') acc (((xs.take i).filter f).map ee))
      ⟨F1, [], (Stp.refl s1.fh).own hD, fresh_back s1.fh hD, upd_same, by simp; exact .nil⟩
      (fun i H _ ⟨F', acc, s, _⟩ => hgd H (s.ff.trans s.fh)) ?_ ?_
    · rintro i v H H' hin ⟨F', acc, s, fD, hDa, ha⟩ y
      obtain ⟨Gd', Y', w', hgd', hy'⟩ := id (wx.up s.ff)
      obtain ⟨x, hx, F2, s2, r2⟩ := hy i H v H' (s.ff.trans s.fh) hin y
      obtain ⟨s3, e3⟩ := s2.up s.ff s.fh
      have r3 := Rep.mono e3 r2
      have hDa' : H' D = some (.lst acc) := s3.hh D _ hDa
      have fD' : cup F' F2 D = none := s3.fno hDa fD
      have s4 := s.trans s3
      have hxm : x ∈ xs := List.mem_of_getElem? hx
      have ht1 : xs.take (i + 1) = xs.take i ++ [x] := by
        rw [List.take_add_one, hx]; rfl
      have hlen : acc.length < sizeLine := by
        have h1 := ha.len
        have h2 : (((xs.take i).filter f).map ee).length ≤ i := by
          rw [List.length_map]
          exact Nat.le_trans (List.length_filter_le _ _) (by rw [List.length_take]; exact Nat.min_le_left _ _)
        exact Nat.lt_of_lt_of_le (show acc.length < 100000 by omega) (by decide)
      refine hg v x _ (cup F' F2) H' r3 s3.fh _ fun σ' hb => ⟨hw _ _ _ hb, ?_⟩
      refine ht _ x σ' hxm (s1.ff.trans s4.ff) hb H' s3.fh (g1.trans s4.hh) _ fun H3 e3 => ?_
      cases hf : f x with
      | false =>
        show ∃ F' acc, _
        refine ⟨cup F' F2, acc, s4.ext e3, fD', e3 D _ hDa', ?_⟩
        rw [ht1, List.filter_append, List.filter_cons_of_neg (by rw [hf]; decide)]
        simp only [List.filter_nil, List.append_nil]
        exact ha.imp fun _ _ => Rep.mono s3.ff
      | true =>
        show te σ' H3 _
        refine he _ x σ' hxm hf (s1.ff.trans s4.ff) hb H3 (s3.fh.trans e3) ((g1.trans s4.hh).trans e3) _ fun u F5 H5 s5 r5 => ?_
        have s6 := (s4.ext e3).trans s5
        have hD5 := s5.hh D _ (e3 D _ hDa')
        have fD5 : F5 D = none := s5.fno (e3 D _ hDa') fD'
        refine ⟨acc, hD5, hlen, F5, acc ++ [u], s6.mut hD fD5, fD5, upd_same, ?_⟩
        rw [ht1, List.filter_append, List.map_append, List.filter_cons_of_pos (by rw [hf])]
        exact (ha.imp fun _ _ => Rep.mono (s3.ff.trans s5.ff)).app (.cons r5 .nil)
    · rintro H ⟨F', acc, s, fD, hDa, ha⟩
      rw [List.take_length] at ha
      exact k (.ref D) _ H (s1.trans (s.frz hD fD hDa)) ⟨D, acc, rfl, upd_same, ha.imp fun _ _ => Rep.mono (Ex.new fD)⟩
theorem filter_true (xs : List α) : xs.filter (fun _ => true) = xs := List.filter_eq_self.mpr fun _ _ => rfl
theorem ev_lcy {wi : TI} {g : TG} {vs : List Nat} {xs : List α} {B : Hp → α → L2.St → L2.St → Prop} (ee : α → β) (hi : IT K F G σ wi xs) (hg : Tgt K g B) (hn : xs.length ≤ 100000)
    (hw : ∀ F' x σ', B F' x (wipe σ vs) σ' → wipe σ' vs = wipe σ vs)
    (he : ∀ F' x σ', x ∈ xs → Ex F F' → B F' x (wipe σ vs) σ' → EvX K F' G σ' te (ee x)) :
    EvX K F G σ (tLc wi g tYes te vs) (xs.map ee) :=
  (ev_lc (fun _ => true) ee hi hg hn hw (fun _ _ _ _ _ _ => et_yes) (fun F' x σ' h1 _ h2 h3 => he F' x σ' h1 h2 h3)).is (by rw [filter_true])
end
end L3

namespace L3
open PySem L2 Evl PyProof.Rows

/-! ### rules put together: what an operator does is chosen at the reading -/
theorem PE.or {X : Cx} {e : Expr} {t u : TE} (h : PE X e t) (h' : PE X e u) : PE X e (fun σ H Q => t σ H Q ∨ u σ H Q) :=
  ⟨fun pins s σ H Q I hw => hw.elim (h.run pins s σ H Q I) (h'.run pins s σ H Q I)⟩
section
variable {X : Cx}
def rAddS : R2 := fun x y H Q => ∃ i j, x = .str i ∧ y = .str j ∧ i.length + j.length ≤ sizeLine ∧ Q (.str (i ++ j)) H
def rAddA : R2 := fun x y H Q => (rI0 fun i j => .int (i + j)) x y H Q ∨ rAddS x y H Q ∨ L2.rCat x y H Q
theorem op_addA : OpR X (binaryOp .Add) rAddA := op_add.or (op_add_str.or op_cat)
def CPowW (i j : Int) : Prop := 0 ≤ j ∧ (Builtin.Int.intBits i : Int) * j ≤ 2 ^ 27
def rPowW : R2 := rI CPowW fun i j => .int (i ^ j.toNat)
theorem op_powW : OpR X (binaryOp .Pow) rPowW := opI fun _ _ _ _ _ _ _ hc q => pow_int hc.1 hc.2 q
def rEqA (K : PySem.W.Frag) : R2 := fun x y H Q => rEq x y H Q ∨ rEqD K x y H Q
def rNeA (K : PySem.W.Frag) : R2 := fun x y H Q => rNe x y H Q ∨ rNeD K x y H Q
theorem op_eqA (hu : X.A.units + 64 < cLine) : OpR X (compareOp .Eq) (rEqA X.K) := op_eq.or (op_eqD hu)
theorem op_neA (hu : X.A.units + 64 < cLine) : OpR X (compareOp .NotEq) (rNeA X.K) := op_ne.or (op_neD hu)
def rDIn : R2 := fun y x H Q => ∃ a o, x = .ref a ∧ DGet H a y o ∧ Q (.bl o.isSome) H
def rDNotIn : R2 := fun y x H Q => ∃ a o, x = .ref a ∧ DGet H a y o ∧ Q (.bl (!o.isSome)) H
theorem op_din (hu : X.A.units + 1 < cLine) : OpR X (compareOp .In) rDIn := fun pins s σ H x y v u Q I rx ry h => by
  obtain ⟨a, o, rfl, g, q⟩ := h
  cases ry
  exact d_in hu I g rx fun s' I' => ⟨.bl _, H, I', rfl, q⟩
theorem op_dnotin (hu : X.A.units + 1 < cLine) : OpR X (compareOp .NotIn) rDNotIn := fun pins s σ H x y v u Q I rx ry h => by
  obtain ⟨a, o, rfl, g, q⟩ := h
  cases ry
  exact d_notIn hu I g rx fun s' I' => ⟨.bl _, H, I', rfl, q⟩
def rInS : R2 := fun x y H Q => ∃ (c : Nat) (z : Str), x = .str ⟨#[c]⟩ ∧ y = .str z ∧ Q (.bl (decide (c ∈ z.cps.toList))) H
def rInA (K : PySem.W.Frag) : R2 := fun x y H Q => rDIn x y H Q ∨ rIn K false x y H Q ∨ rInD K x y H Q ∨ rInS x y H Q
def rNotInA (K : PySem.W.Frag) : R2 := fun x y H Q => rDNotIn x y H Q ∨ rIn K true x y H Q ∨ rNotInD K x y H Q
theorem hu65 {k : Nat} {A : Around} (hr : Room k A) : A.units + 65 < cLine := by have := hr.un; omega
theorem op_inA {k : Nat} (hr : Room k X.A) : OpR X (compareOp .In) (rInA X.K) := (op_din (hu_of hr)).or (op_in_seq.or ((op_inD (hu65 hr)).or op_in_sign))
theorem op_notInA {k : Nat} (hr : Room k X.A) : OpR X (compareOp .NotIn) (rNotInA X.K) := (op_dnotin (hu_of hr)).or (op_notIn_seq.or (op_notInD (hu65 hr)))
def tIx (K : PySem.W.Frag) (ta tb : TE) : TE := fun σ H Q => tOp (rIx K) ta tb σ H Q ∨ tDGet ta tb σ H Q
theorem pe_ixA {a b : Expr} {pos : Pos} {ta tb : TE} {k : Nat} (hr : Room k X.A) (ha : PE X a ta) (hb : PE X b tb) (hs : PlainIx b) : PE X (.Subscript a b pos) (tIx X.K ta tb) :=
  PE.or (pe_ix ix_seq ha hb hs) (pe_dget (hu_of hr) ha hb hs)
def rSlA (K : PySem.W.Frag) : V → Option Int → Option Int → Hp → VK → Prop := fun x lo hi H Q => rSlL K x lo hi H Q ∨ rSlT K x lo hi H Q
theorem sl_any : SlR X (rSlA X.K) := sl_list.or sl_tup
def rLen (K : PySem.W.Frag) : List V → Hp → VK → Prop := fun xs H Q => ∃ x n, xs = [x] ∧ LenV K x H n ∧ Q (.int (n : Int)) H
def rLenD : List V → Hp → VK → Prop := fun xs H Q => ∃ p kvs, xs = [.ref p] ∧ Rd H p (.dK kvs) ∧ Q (.int (kvs.length : Int)) H
theorem call_lenDr : CallR X (.builtin "len") rLenD := fun pins s σ H xs us Q I rx h => by
  obtain ⟨p, kvs, rfl, e, q⟩ := h
  obtain rfl := Vals.ref1 rx
  exact d_len I e fun t s' I' => ⟨.int _, H, I', ⟨_, rfl⟩, q⟩
def rLenA (K : PySem.W.Frag) : List V → Hp → VK → Prop := fun xs H Q => rLen K xs H Q ∨ rLenD xs H Q
theorem call_lenA : CallR X (.builtin "len") (rLenA X.K) := CallR.or call_len call_lenDr
def rListS (K : PySem.W.Frag) : List V → Hp → VK → Prop := fun xs H Q => ∃ p ys, xs = [.ref p] ∧ (SqL K H p ys ∨ SqT K H p ys) ∧ ∀ l, H l = none → Q (.ref l) (upd H l (.lst ys))
def rListA (K : PySem.W.Frag) : List V → Hp → VK → Prop := fun xs H Q => rListS K xs H Q ∨ rListD xs H Q
theorem call_listA (hc : X.calm = true) : CallR X (.type "list") (rListA X.K) := CallR.or call_list_of (call_list_dK hc)
def rTupS (K : PySem.W.Frag) : List V → Hp → VK → Prop := fun xs H Q => ∃ p ys, xs = [.ref p] ∧ ((SqL K H p ys ∧ ∀ l, H l = none → Q (.ref l) (upd H l (.tup ys))) ∨ (SqT K H p ys ∧ Q (.ref p) H))
theorem call_tupA : CallR X (.type "tuple") (rTupS X.K) := call_tuple_of
def rSortA (K : PySem.W.Frag) : List V → Hp → VK → Prop := fun xs H Q => rSortedI K xs H Q ∨ rSortedPO K xs H Q
theorem call_sortA : CallR X (.builtin "sorted") (rSortA X.K) := CallR.or cr_sortedI cr_sortedPO
def rMax2 : List V → Hp → VK → Prop := fun xs H Q => ∃ i j, xs = [.int i, .int j] ∧ Q (.int (if j > i then j else i)) H
def rMin2 : List V → Hp → VK → Prop := fun xs H Q => ∃ i j, xs = [.int i, .int j] ∧ Q (.int (if j < i then j else i)) H
theorem call_max2' (hc : X.calm = true) : CallR X (.builtin "max") rMax2 := call_max2 hc
theorem call_min2' (hc : X.calm = true) : CallR X (.builtin "min") rMin2 := call_min2 hc
def rAbs : List V → Hp → VK → Prop := fun xs H Q => ∃ i, xs = [.int i] ∧ Q (.int (if i < 0 then -i else i)) H
theorem call_abs' : CallR X (.builtin "abs") rAbs := call_abs
end

/-! ### defs, methods, classes as they are called -/
section
variable (P : Program) (w : World) (K : PySem.W.Frag) (mg : Str → Option Value) (base : Heap) (CX : CXT)
structure Cal (k : Nat) (x : Str) (st : Stmt) (ps : List Str) (sp : Sp) : Prop where
  ex : ∃ f fd, mg x = some (.ref f) ∧ Fun K x x st f fd ∧ Binds K fd ps [] ∧ FnOk P w K mg base CX k f fd ps sp
structure MCal (C : Addr) (k : Nat) (m : Str) (ps : List Str) (sp : Sp) : Prop where
  cl : Cls K C
  ex : ∃ f fd, Meth K C m f ∧ Binds K fd ps [] ∧ FnOk P w K mg base CX k f fd ps sp
structure NCal (C : Addr) (k : Nat) (x : Str) (ps : List Str) (sp : Sp) : Prop where
  at_ : mg x = some (.ref C)
  ex : ∃ f fd, Mk K C f ∧ Binds K fd ps [] ∧ FnOk P w K mg base CX k f fd ps sp
end
section
variable {X : Cx} {CX : CXT} {k j : Nat} {ps : List Str} {sp : Sp} {E : XK} {x m : Str} {C : Addr} {p pos apos : Pos} {e o : Expr} {es : List Expr} {ta : TE} {t : TA}
theorem pe_cal {st : Stmt} (c : Cal X.prog X.w X.K X.mg X.base CX k x st ps sp) (hr : Room j X.A) (hk : k ≤ j) (hg : Gl X x) (hx : Passes CX X E)
    (ha : PA X (e :: es) t) (hdb : (x == ("__debug__" : Str)) = false := by decide) (he : starEach (e :: es) X.env = (false, eval e X.env) :: starEach es X.env := by rfl) (hpl : (backTo pos (starEach es X.env)).any (·.1) = false := by rfl) :
    PE X (.Call (.Name x p) (e :: es) [] pos) (tCall sp [] E t) := by
  obtain ⟨f, fd, hm, kp, hb, F⟩ := c.ex
  exact pe_call F (hr.mono hk) hg hm kp.kp hb .nil hx ha hdb he hpl
theorem pe_mcal {pl : Sem Bool} (c : MCal X.prog X.w X.K X.mg X.base CX C k m ps sp) (hr : Room j X.A) (hk : k ≤ j) (hx : Passes CX X E) (he : PE X o ta)
    (ha : PA X (e :: es) t)
    (hst : starEach (e :: es) X.env = (false, eval e X.env) :: starEach es X.env := by rfl) (hpl : (backTo pos (starEach es X.env)).any (·.1) = false := by rfl)
    (ht : eval (.Call (.Attribute o m apos) (e :: es) [] pos) X.env = (do
      let ov ← eval o X.env
      standAt apos.atName
      let (f, first) ← holding [ov] (getMethod ov m pl)
      callWith pos f first (backTo pos (starEach (e :: es) X.env)) (backToKw pos (keywordEach [] X.env))) := by rfl) :
    PE X (.Call (.Attribute o m apos) (e :: es) [] pos) (tMeth C m sp [] E ta t) := by
  obtain ⟨f, fd, hm, hb, F⟩ := c.ex
  exact pe_meth he c.cl hm F (hr.mono hk) hb .nil hx ha hst hpl ht
theorem pe_mcal0 {pl : Sem Bool} (c : MCal X.prog X.w X.K X.mg X.base CX C k m ps sp) (hr : Room j X.A) (hk : k ≤ j) (hx : Passes CX X E) (he : PE X o ta)
    (ht : eval (.Call (.Attribute o m apos) [] [] pos) X.env = (do
      let ov ← eval o X.env
      standAt apos.atName
      let (f, first) ← holding [ov] (getMethod ov m pl)
      callWith pos f first (backTo pos (starEach [] X.env)) (backToKw pos (keywordEach [] X.env))) := by rfl) :
    PE X (.Call (.Attribute o m apos) [] [] pos) (tMeth C m sp [] E ta tNil) := by
  obtain ⟨f, fd, hm, hb, F⟩ := c.ex
  exact pe_meth0 he c.cl hm F (hr.mono hk) hb .nil hx ht
theorem pe_ncal (c : NCal X.prog X.w X.K X.mg X.base CX C k x ps sp) (hr : Room j X.A) (hk : k + 1 ≤ j) (hg : Gl X x) (hx : Passes CX X E)
    (ha : PA X (e :: es) t) (hdb : (x == ("__debug__" : Str)) = false := by decide) (he : starEach (e :: es) X.env = (false, eval e X.env) :: starEach es X.env := by rfl) (hpl : (backTo pos (starEach es X.env)).any (·.1) = false := by rfl) :
    PE X (.Call (.Name x p) (e :: es) [] pos) (tMake C sp [] E t) := by
  obtain ⟨f, fd, M, hb, F⟩ := c.ex
  exact pe_make M F (hr.mono hk) hg c.at_ hb .nil hx ha hdb he hpl
end
/-- a def of the text, found by its name -/
structure Ft (K : PySem.W.Frag) (mg : Str → Option Value) (x : Str) (st : Stmt) (ps : List Str) : Prop where
  ex : ∃ f fd, mg x = some (.ref f) ∧ Fun K x x st f fd ∧ Binds K fd ps []
structure Mt (K : PySem.W.Frag) (C : Addr) (m qual : Str) (st : Stmt) (ps : List Str) : Prop where
  cl : Cls K C
  ex : ∃ f fd, Meth K C m f ∧ Fun K m qual st f fd ∧ Binds K fd ps []
structure Nt (K : PySem.W.Frag) (mg : Str → Option Value) (C : Addr) (x qual : Str) (st : Stmt) (ps : List Str) : Prop where
  cl : Cls K C
  at_ : mg x = some (.ref C)
  ex : ∃ f fd, Mk K C f ∧ Fun K "__init__" qual st f fd ∧ Binds K fd ps []
section
variable {P : Program} {w : World} {K : PySem.W.Frag} {mg : Str → Option Value} {base : Heap}
theorem Ft.ok {x : Str} {st : Stmt} {N ps : List Str} {k : Nat} {sp : Sp} (T : Ft K mg x st ps) (S : FnScope N ps (defScope st)) (len : ∀ vs H Q E, sp vs H Q E → vs.length = ps.length)
    (hbody : ∀ (f : Addr) (cdv : Value) (A : Around) (outer : List Env) (s : Shared) (H : Hp) (vs : List V) (Q : VK) (E : XK), Room k (A.deeper (envOfC x (defScope st) s.heap.objs.size f cdv)) → sp vs H Q E →
      ∃ t, PSs (cxOf CX0 P w K mg base N x (defScope st) f cdv A outer s H E).nox (defBody st) t ∧ t { nx := fun _ H' => Q .non H', rt := Q } (start N vs) H) : Cal P w K mg base CX0 (k + 1) x st ps sp := by
  obtain ⟨f, fd, hm, F, b⟩ := T.ex
  exact ⟨f, fd, hm, F, b, F.ok S len fun cdv A outer s H vs Q E => hbody f cdv A outer s H vs Q E⟩
theorem Mt.ok {C : Addr} {m qual : Str} {st : Stmt} {N ps : List Str} {k : Nat} {sp : Sp} (T : Mt K C m qual st ps) (S : FnScope N ps (defScope st)) (len : ∀ vs H Q E, sp vs H Q E → vs.length = ps.length)
    (hbody : ∀ (f : Addr) (cdv : Value) (A : Around) (outer : List Env) (s : Shared) (H : Hp) (vs : List V) (Q : VK) (E : XK), Room k (A.deeper (envOfC qual (defScope st) s.heap.objs.size f cdv)) → sp vs H Q E →
      ∃ t, PSs (cxOf CX0 P w K mg base N qual (defScope st) f cdv A outer s H E).nox (defBody st) t ∧ t { nx := fun _ H' => Q .non H', rt := Q } (start N vs) H) : MCal P w K mg base CX0 C (k + 1) m ps sp := by
  obtain ⟨f, fd, hm, F, b⟩ := T.ex
  exact ⟨T.cl, f, fd, hm, b, F.ok S len fun cdv A outer s H vs Q E => hbody f cdv A outer s H vs Q E⟩
theorem Nt.ok {C : Addr} {x qual : Str} {st : Stmt} {N ps : List Str} {k : Nat} {sp : Sp} (T : Nt K mg C x qual st ps) (S : FnScope N ps (defScope st)) (len : ∀ vs H Q E, sp vs H Q E → vs.length = ps.length)
    (hbody : ∀ (f : Addr) (cdv : Value) (A : Around) (outer : List Env) (s : Shared) (H : Hp) (vs : List V) (Q : VK) (E : XK), Room k (A.deeper (envOfC qual (defScope st) s.heap.objs.size f cdv)) → sp vs H Q E →
      ∃ t, PSs (cxOf CX0 P w K mg base N qual (defScope st) f cdv A outer s H E).nox (defBody st) t ∧ t { nx := fun _ H' => Q .non H', rt := Q } (start N vs) H) : NCal P w K mg base CX0 C (k + 1) x ps sp := by
  obtain ⟨f, fd, hm, F, b⟩ := T.ex
  exact ⟨T.at_, f, fd, hm, b, F.ok S len fun cdv A outer s H vs Q E => hbody f cdv A outer s H vs Q E⟩
end
end L3
namespace L3
open PySem L2 Evl PyProof.Rows
section
variable {X : Cx} {x : Str} {pos : Pos}
theorem pe_conI {i : Int} (hg : Gl X x) (hm : ∃ t, X.mg x = some (.int i t)) (hd : (x == ("__debug__" : Str)) = false := by decide) : PE X (.Name x pos) (tC (.int i)) := by
  obtain ⟨t, h⟩ := hm
  exact pe_glob hg h ⟨t, rfl⟩ hd
theorem pe_conS {i : Str} (hg : Gl X x) (hm : ∃ t, X.mg x = some (.str i t)) (hd : (x == ("__debug__" : Str)) = false := by decide) : PE X (.Name x pos) (tC (.str i)) := by
  obtain ⟨t, h⟩ := hm
  exact pe_glob hg h ⟨t, rfl⟩ hd
variable {CX : CXT} {k j : Nat} {ps ks : List Str} {sp : Sp} {E : XK} {p : Pos} {e : Expr} {es : List Expr} {kws : List Keyword} {t tk : TA}
/-- how keywords alone bind: ρ puts their values in the parameters' order -/
def KwB (x qual : Str) (st : Stmt) (ps ks : List Str) (ρ : List Value → List Value) : Prop :=
  ∀ (kV doc pm : Value) (an : Option Addr) (cdv ct : Value) (us : List Value), us.length = ks.length → bindArgs (PySem.W.fnOf x qual (defArgs st) (defBody st) (defScope st) .none kV doc pm an cdv ct) ⟨[], ks.zip us⟩ = pure (ps.zip (ρ us))
def tCallKw (sp : Sp) (n : Nat) (ρV : List V → List V) (E : XK) (tk : TA) : TE := fun σ H Q => tk σ H fun zs H2 => zs.length = n ∧ sp (ρV zs) H2 Q E
/-- f(k = v, ..), keywords alone -/
theorem pe_kcal {st : Stmt} {ρ : List Value → List Value} {ρV : List V → List V} (c : Cal X.prog X.w X.K X.mg X.base CX k x st ps sp) (hb : KwB x x st ps ks ρ) (hρ : ∀ {zs : List V} {ws : List Value}, Vals zs ws → Vals (ρV zs) (ρ ws)) (hr : Room j X.A) (hk : k ≤ j) (hg : Gl X x) (hx : Passes CX X E)
    (hkw : PK X kws tk) (hall : (backToKw pos (keywordEach kws X.env)).all (·.1.isSome) = true := by rfl) (hks : (backToKw pos (keywordEach kws X.env)).filterMap (·.1) = ks := by rfl)
    (hdb : (x == ("__debug__" : Str)) = false := by decide)
    (hpl : ((backTo pos (starEach [] X.env)).any (·.1) || (backToKw pos (keywordEach kws X.env)).any (·.1.isNone)) = false := by rfl) :
    PE X (.Call (.Name x p) [] kws pos) (tCallKw sp ks.length ρV E tk) := by
  obtain ⟨f, fd, hm, F, _, G⟩ := c.ex
  obtain ⟨oc, od, kV, doc, pm, an, cdv, ct, osl, hfd, lk, hcd⟩ := F.ex
  refine ⟨fun pins s σ H Q I h => ?_⟩
  refine wpAny_Call_Name_kw (ld_glob I hg hm ?_ hdb)
  refine PySem.W.callWith_KW0 (h₀ := X.base) I.ok.mod.kin F.kp hall (thn (hkw.run pos pins s σ H _ I h) fun ws s2 ⟨zs, H2, I2, rz, hn, q2⟩ => ⟨I2.kIn, ?_⟩) hpl
  rw [hks, List.append_nil]
  have r2 := hρ rz
  have hl : (ρ ws).length = ps.length := by rw [← r2.length]; exact G.len _ _ _ _ q2
  have hz : ws.length = ks.length := by rw [← rz.length]; exact hn
  refine wpAny_call (codeAny_mono (G.run X.A X.stack s2 H2 ⟨[], ks.zip ws⟩ (ρ ws) (ρV zs) Q E (hr.mono hk) I2.env0 (.of_eq (by rw [hfd]; exact hb kV doc pm an cdv ct ws hz)) r2 q2) fun r s' hq => ?_)
  cases r with
  | error e => exact hx pins σ H2 s2 e s' I2 hq
  | ok fl =>
    cases fl with
    | ret u => exact I2.after hq
    | next => exact False.elim hq
    | brk => exact False.elim hq
    | cont => exact False.elim hq
theorem rho1 {zs : List V} {ws : List Value} (h : Vals zs ws) : Vals (id zs) (id ws) := h
theorem rho2 {zs : List V} {ws : List Value} (h : Vals zs ws) : Vals zs.reverse ws.reverse := Vals.reverse h
end
end L3

/-! the same rules, the written part named (within a comprehension's block it must not be read off the block) -/
namespace L3
open PySem L2 Evl PyProof.Rows
section
variable {X : Cx} {K : PySem.W.Frag}
theorem k_eqA (hK : X.K = K) (hu : X.A.units + 64 < cLine) : OpR X (compareOp .Eq) (rEqA K) := hK ▸ op_eqA hu
theorem k_neA (hK : X.K = K) (hu : X.A.units + 64 < cLine) : OpR X (compareOp .NotEq) (rNeA K) := hK ▸ op_neA hu
theorem k_inA {k : Nat} (hK : X.K = K) (hr : Room k X.A) : OpR X (compareOp .In) (rInA K) := hK ▸ op_inA hr
theorem k_notInA {k : Nat} (hK : X.K = K) (hr : Room k X.A) : OpR X (compareOp .NotIn) (rNotInA K) := hK ▸ op_notInA hr
theorem k_ixA {a b : Expr} {pos : Pos} {ta tb : TE} {k : Nat} (hK : X.K = K) (hr : Room k X.A) (ha : PE X a ta) (hb : PE X b tb) (hs : PlainIx b) : PE X (.Subscript a b pos) (tIx K ta tb) := hK ▸ pe_ixA hr ha hb hs
theorem k_slice {a : Expr} {lo hi : Option Expr} {p2 pos : Pos} {ta : TE} {tl th : TO} (hK : X.K = K) (ha : PE X a ta) (hl : PO X lo tl) (hh : PO X hi th) : PE X (.Subscript a (.Slice lo hi none p2) pos) (tSl (rSlA K) ta tl th) := hK ▸ pe_slice sl_any ha hl hh
theorem k_len (hK : X.K = K) : CallR X (.builtin "len") (rLenA K) := hK ▸ call_lenA
theorem k_list (hK : X.K = K) (hc : X.calm = true) : CallR X (.type "list") (rListA K) := hK ▸ call_listA hc
theorem k_tuple (hK : X.K = K) : CallR X (.type "tuple") (rTupS K) := hK ▸ call_tupA
theorem k_sorted (hK : X.K = K) : CallR X (.builtin "sorted") (rSortA K) := hK ▸ call_sortA
theorem k_max (hK : X.K = K) (hc : X.calm = true) : CallR X (.builtin "max") (rMax K) := hK ▸ cr_max hc
theorem k_min (hK : X.K = K) (hc : X.calm = true) : CallR X (.builtin "min") (rMin K) := hK ▸ cr_min hc
theorem k_sum (hK : X.K = K) (hc : X.calm = true) : CallR X (.builtin "sum") (rSum K) := hK ▸ cr_sum hc
theorem k_all (hK : X.K = K) (hc : X.calm = true) : CallR X (.builtin "all") (rAll K) := hK ▸ cr_all hc
theorem k_any (hK : X.K = K) (hc : X.calm = true) : CallR X (.builtin "any") (rAny K) := hK ▸ cr_any hc
theorem k_isi (hK : X.K = K) : CallR X (.builtin "isinstance") (rIsi K) := hK ▸ call_isi
theorem k_isiT (hK : X.K = K) : CallR X (.builtin "isinstance") (rIsiT K) := hK ▸ call_isiT
theorem k_fld {e : Expr} {f : Str} {pos : Pos} {ta : TE} (hK : X.K = K) (he : PE X e ta) (hb : attributeBase e f X.env (eval e X.env) = eval e X.env) : PE X (.Attribute e f pos) (tFld K ta f) := hK ▸ pe_fld he hb
theorem k_pilist {tg l : Expr} {tl : TE} (hK : X.K = K) (hl : PE X l tl) : PI X tg l (iList K tl) := hK ▸ pi_list hl
theorem k_pitup {tg l : Expr} {tl : TE} (hK : X.K = K) (hl : PE X l tl) : PI X tg l (iTup K tl) := hK ▸ pi_tup hl
theorem k_enum {e : Expr} {ta : TA} {p pos tpos : Pos} {elts : List Expr} {kk : Nat} (hK : X.K = K) (hg : Gl X "enumerate") (hm : X.mg "enumerate" = none) (ha : PA X [e] ta) (hs : starEach [e] X.env = [(false, eval e X.env)] := by rfl) :
    PI X (.Tuple elts kk tpos) (.Call (.Name "enumerate" p) [e] [] pos) (iEnum K ta) := hK ▸ pi_enum hg hm ha hs
theorem k_zip {e e2 : Expr} {ta : TA} {p pos tpos : Pos} {elts : List Expr} {kk : Nat} (hK : X.K = K) (hg : Gl X "zip") (hm : X.mg "zip" = none) (ha : PA X [e, e2] ta)
    (hs : starEach [e, e2] X.env = (false, eval e X.env) :: starEach [e2] X.env := by rfl) (hpl : (backTo pos (starEach [e2] X.env)).any (·.1) = false := by rfl) :
    PI X (.Tuple elts kk tpos) (.Call (.Name "zip" p) [e, e2] [] pos) (iZip K ta) := hK ▸ pi_zip hg hm ha hs hpl
theorem k_tup {es : List Expr} {k : Nat} {pos : Pos} {t : TGs} {n : Nat} (hK : X.K = K) (hc : X.calm = true) (h : PGs X es t)
    (hn : (assignEach es X.env).length = n := by rfl) (hst : (assignEach es X.env).findIdx? (·.1) = none := by rfl) : PG X (.Tuple es k pos) (gTup K n t) := hK ▸ pg_tup hc h hn hst
theorem k_join {o e : Expr} {to te : TE} {apos pos : Pos} (hK : X.K = K) (ho : PE X o to) (he : PE X e te) (hs : starEach [e] X.env = [(false, eval e X.env)] := by rfl) (hbase : attributeBase o "join" X.env (eval o X.env) = eval o X.env := by rfl) (hline : (apos.endLine == pos.line) = true := by rfl) :
    PE X (.Call (.Attribute o "join" apos) [e] [] pos) (tM1 (fun x xs H Q => ∃ a p, ∃ ys : List Str, x = .str a ∧ xs = [.ref p] ∧ (SqL K H p (ys.map V.str) ∨ SqT K H p (ys.map V.str)) ∧
      (ys.map (·.length)).sum + ys.length * a.length ≤ 16777216 ∧ Q (.str (Txt.join a ys)) H) to te) := hK ▸ pe_join ho he hs hbase hline
theorem k_bm0 {o : Expr} {to : TE} {name : Str} {apos cpos : Pos} {T id : String} {r : V → List V → Hp → VK → Prop} (hK : X.K = K) (pa : PlainAttrs T) (slot : Slot T name id) (hty : typeOf (.builtin id) = pure (.type "method_descriptor")) (hm : MtR X id r) (ho : PE X o to)
    (hbase : attributeBase o name X.env (eval o X.env) = eval o X.env := by rfl) (hline : (apos.endLine == cpos.line) = true := by rfl) : PE X (.Call (.Attribute o name apos) [] [] cpos) (tBM0 K T r to) := hK ▸ pe_bm0 pa slot hty hm ho hbase hline
theorem k_bm {o e : Expr} {es : List Expr} {to : TE} {t : TA} {name : Str} {apos cpos : Pos} {T id : String} {r : V → List V → Hp → VK → Prop} (hK : X.K = K) (pa : PlainAttrs T) (slot : Slot T name id) (hty : typeOf (.builtin id) = pure (.type "method_descriptor")) (hm : MtR X id r) (ho : PE X o to) (ha : PA X (e :: es) t)
    (hbase : attributeBase o name X.env (eval o X.env) = eval o X.env := by rfl)
    (hfew : ((backTo cpos (starEach (e :: es) X.env)).all (fun x => !x.1) && (backToKw cpos (keywordEach [] X.env)).all (fun x => x.1.isSome)
      && decide ((e :: es).length + ([] : List Keyword).length + (if ([] : List Keyword).isEmpty then 0 else 1) < 30)) = true := by rfl)
    (hline : (apos.endLine == cpos.line) = true := by rfl) (hs : starEach (e :: es) X.env = (false, eval e X.env) :: starEach es X.env := by rfl) (hplain : (backTo cpos (starEach es X.env)).any (·.1) = false := by rfl) :
    PE X (.Call (.Attribute o name apos) (e :: es) [] cpos) (tBM K T r to t) := hK ▸ pe_bm pa slot hty hm ho ha hbase hfew hline hs hplain
theorem k_blk {N : List Str} {sc scope : Scope} {own : List (Str × Nat)} (hN : X.N = N) (hs : X.env.scope = sc) (h : blkC N sc scope own = true) : BlkOk X.N X.env.scope scope own := by
  subst hN hs
  exact blkOk_by h
theorem mk_index (hK : X.K = K) : MtR X "list.index" (rIndex K) := hK ▸ mt_index
theorem mk_lcount (hK : X.K = K) : MtR X "list.count" (rCntI K) := hK ▸ mt_lcount
end
end L3

namespace L3
open PySem L2 Evl
open Rep (R)

/-! ### growth where some objects change -/
structure StpM (M : Addr → Prop) (F H F' H' : Hp) : Prop where
  ff : Ex F F'
  fh : Ex F' H'
  hh : ∀ a o, ¬ M a → H a = some o → H' a = some o
  dm : ∀ a, H' a = none → H a = none
  nw : ∀ a o, H a = some o → F' a = F a
section
variable {M : Addr → Prop} {F H F' H' F2 H2 G : Hp} {p : Addr} {o u : HO}
theorem Ex.dom (e : Ex H H') {a : Addr} (h : H' a = none) : H a = none := fresh_back e h
theorem Stp.m (s : Stp F H F' H') : StpM M F H F' H' := ⟨s.ff, s.fh, fun a o _ h => s.hh a o h, fun a h => Ex.dom s.hh h, s.nw⟩
theorem some_of_ne {a : Addr} (h : H a ≠ none) : ∃ o, H a = some o := by
  cases e : H a with
  | none => exact absurd e h
  | some o => exact ⟨o, rfl⟩
theorem StpM.refl (h : Ex F H) : StpM M F H F H := (Stp.refl h).m
theorem StpM.trans (a : StpM M F H F' H') (b : StpM M F' H' F2 H2) : StpM M F H F2 H2 :=
  ⟨a.ff.trans b.ff, b.fh, fun x o n h => b.hh x o n (a.hh x o n h), fun x h => a.dm x (b.dm x h), fun x o h => by
    obtain ⟨o', h'⟩ := some_of_ne (H := H') (a := x) fun z => by rw [a.dm x z] at h; cases h
    exact (b.nw x o' h').trans (a.nw x o h)⟩
theorem StpM.ext (a : StpM M F H F' H') (e : Ex H' H2) : StpM M F H F' H2 := ⟨a.ff, a.fh.trans e, fun x o n h => e x o (a.hh x o n h), fun x h => a.dm x (Ex.dom e h), a.nw⟩
theorem StpM.imp {M' : Addr → Prop} (a : StpM M F H F' H') (h : ∀ x, M x → M' x) : StpM M' F H F' H' := ⟨a.ff, a.fh, fun x o n => a.hh x o (fun z => n (h x z)), a.dm, a.nw⟩
theorem StpM.fno (a : StpM M F H F' H') (h : H p = some o) (hf : F p = none) : F' p = none := (a.nw p o h).trans hf
theorem StpM.new (a : StpM M F H F' H') (hp : H' p = none) : StpM M F H (upd F' p o) (upd H' p o) := by
  refine ⟨a.ff.trans (Ex.new ?_), fun b q e => ?_, fun b q n e => ?_, fun b e => ?_, fun b q e => ?_⟩
  · exact fresh_back a.fh hp
  · by_cases hb : b = p
    · subst hb; rw [upd_same] at e ⊢; exact e
    · rw [upd_ne hb] at e ⊢; exact a.fh b q e
  · have hb : b ≠ p := fun z => by subst z; rw [a.dm _ hp] at e; cases e
    rw [upd_ne hb]; exact a.hh b q n e
  · by_cases hb : b = p
    · subst hb; exact a.dm _ hp
    · rw [upd_ne hb] at e; exact a.dm b e
  · have hb : b ≠ p := fun z => by subst z; rw [a.dm _ hp] at e; cases e
    rw [upd_ne hb]; exact a.nw b q e
theorem StpM.own (a : StpM M F H F' H') (hp : H' p = none) : StpM M F H F' (upd H' p o) := a.ext (Ex.new hp)
/-- a changeable object is written: one of ours, or one that may change -/
theorem StpM.mut (a : StpM M F H F' H') (hp : M p ∨ H p = none) (hf : F' p = none) (ht : H' p ≠ none) : StpM M F H F' (upd H' p o) :=
  ⟨a.ff, Ex.mut a.fh hf, fun b q n e => by
    have hb : b ≠ p := fun z => by
      subst z
      rcases hp with h | h
      · exact n h
      · rw [h] at e; cases e
    rw [upd_ne hb]; exact a.hh b q n e, fun b e => by
    by_cases hb : b = p
    · subst hb; rw [upd_same] at e; cases e
    · rw [upd_ne hb] at e; exact a.dm b e, a.nw⟩
theorem StpM.frz (a : StpM M F H F' H') (hp : H p = none) (hf : F' p = none) (h : H' p = some o) : StpM M F H (upd F' p o) H' := by
  refine ⟨a.ff.trans (Ex.new hf), fun b q e => ?_, a.hh, a.dm, fun b q e => ?_⟩
  · by_cases hb : b = p
    · subst hb; rw [upd_same] at e; rw [← e]; exact h
    · rw [upd_ne hb] at e; exact a.fh b q e
  · have hb : b ≠ p := fun z => by subst z; rw [hp] at e; cases e
    rw [upd_ne hb]; exact a.nw b q e
end

section
variable {K : PySem.W.Frag} {F F' G H H' : Hp} {σ : L2.St} {ta tb te tl : TE} {tt tu : TT}
variable {α β γ : Type} [Rep α] [Rep β] [Rep γ] {x : α} {y : β} {z : γ}

/-! ### the rules put together -/
theorem EvX.or1 {tu : TE} (h : EvX K F G σ te x) : EvX K F G σ (fun σ H Q => te σ H Q ∨ tu σ H Q) x := fun H e g Q k => .inl (h H e g Q k)
theorem ev_addI {i j : Int} (ha : EvX K F G σ ta i) (hb : EvX K F G σ tb j) : EvX K F G σ (tOp rAddA ta tb) (i + j) :=
  ev_op ha hb fun F1 u w _ h1 h2 H1 e1 _ Q k => .inl ⟨i, j, h1, h2, k _ F1 H1 (Stp.refl e1) rfl⟩
theorem ev_addS {i j : Str} (ha : EvX K F G σ ta i) (hb : EvX K F G σ tb j) (hl : i.length + j.length ≤ sizeLine) : EvX K F G σ (tOp rAddA ta tb) (i ++ j) :=
  ev_op ha hb fun F1 u w _ h1 h2 H1 e1 _ Q k => .inr (.inl ⟨i, j, h1, h2, hl, k _ F1 H1 (Stp.refl e1) rfl⟩)
theorem ev_mulI {i j : Int} (ha : EvX K F G σ ta i) (hb : EvX K F G σ tb j) (hc : CMul i j) : EvX K F G σ (tOp (rI CMul fun i j => .int (i * j)) ta tb) (i * j) := ev_I ha hb hc fun _ => rfl
theorem ev_modI {i j : Int} (ha : EvX K F G σ ta i) (hb : EvX K F G σ tb j) (hc : 0 < j) : EvX K F G σ (tOp (rI (fun _ j => 0 < j) fun i j => .int (i % j)) ta tb) (i % j) := ev_I ha hb hc fun _ => rfl
theorem ev_divI {i j : Int} (ha : EvX K F G σ ta i) (hb : EvX K F G σ tb j) (hc : CDivW i j) : EvX K F G σ (tOp (rI CDivW fun i j => .int (i / j)) ta tb) (i / j) := ev_I ha hb hc fun _ => rfl
theorem ev_powI {i j : Int} (ha : EvX K F G σ ta i) (hb : EvX K F G σ tb j) (hc : CPowW i j) : EvX K F G σ (tOp rPowW ta tb) (i ^ j.toNat) := ev_I ha hb hc fun _ => rfl
theorem ev_eqAI {i j : Int} (ha : EvX K F G σ ta i) (hb : EvX K F G σ tb j) : EvX K F G σ (tOp (rEqA K) ta tb) (decide (i = j)) :=
  ev_op ha hb fun F1 u w _ h1 h2 H1 e1 _ Q k => by
    cases h1; cases h2
    exact .inl ⟨rfl, k _ F1 H1 (Stp.refl e1) (by rw [dec_vint]; rfl)⟩
theorem ev_neAI {i j : Int} (ha : EvX K F G σ ta i) (hb : EvX K F G σ tb j) : EvX K F G σ (tOp (rNeA K) ta tb) (!decide (i = j)) :=
  ev_op ha hb fun F1 u w _ h1 h2 H1 e1 _ Q k => by
    cases h1; cases h2
    exact .inl ⟨rfl, k _ F1 H1 (Stp.refl e1) (by rw [dec_vint]; rfl)⟩
theorem ev_eqAS {i j : Str} (ha : EvX K F G σ ta i) (hb : EvX K F G σ tb j) : EvX K F G σ (tOp (rEqA K) ta tb) (decide (i = j)) :=
  ev_op ha hb fun F1 u w _ h1 h2 H1 e1 _ Q k => by
    cases h1; cases h2
    exact .inl ⟨rfl, k _ F1 H1 (Stp.refl e1) (by show V.bl (decide (V.str i = V.str j)) = V.bl (decide (i = j)); simp)⟩
theorem ev_neAS {i j : Str} (ha : EvX K F G σ ta i) (hb : EvX K F G σ tb j) : EvX K F G σ (tOp (rNeA K) ta tb) (!decide (i = j)) :=
  ev_op ha hb fun F1 u w _ h1 h2 H1 e1 _ Q k => by
    cases h1; cases h2
    exact .inl ⟨rfl, k _ F1 H1 (Stp.refl e1) (by show V.bl (!decide (V.str i = V.str j)) = V.bl (!decide (i = j)); simp)⟩
theorem ev_eqAB {i j : Bool} (ha : EvX K F G σ ta i) (hb : EvX K F G σ tb j) : EvX K F G σ (tOp (rEqA K) ta tb) (decide (i = j)) :=
  ev_op ha hb fun F1 u w _ h1 h2 H1 e1 _ Q k => by
    cases h1; cases h2
    exact .inl ⟨rfl, k _ F1 H1 (Stp.refl e1) (by show V.bl (decide (V.bl i = V.bl j)) = V.bl (decide (i = j)); simp)⟩
theorem ev_neAB {i j : Bool} (ha : EvX K F G σ ta i) (hb : EvX K F G σ tb j) : EvX K F G σ (tOp (rNeA K) ta tb) (!decide (i = j)) :=
  ev_op ha hb fun F1 u w _ h1 h2 H1 e1 _ Q k => by
    cases h1; cases h2
    exact .inl ⟨rfl, k _ F1 H1 (Stp.refl e1) (by show V.bl (!decide (V.bl i = V.bl j)) = V.bl (!decide (i = j)); simp)⟩
theorem ev_ix {xs : List α} {i : Int} (ha : EvX K F G σ ta xs) (hb : EvX K F G σ tb i) (hx : atI xs i = some x) : EvX K F G σ (tIx K ta tb) x := by
  refine EvX.or1 (ev_op ha hb fun F1 u w _ h1 h2 H1 e1 _ Q k => ?_)
  obtain ⟨a, vs, rfl, hs, hv⟩ := h1
  obtain ⟨v, hv1, hv2⟩ := ixN_all2 hv hx
  exact .inl ⟨a, vs, i, v, rfl, h2, SqL.of (e1 _ _ hs), hv1, k _ F1 H1 (Stp.refl e1) hv2⟩
theorem ev_fst {xy : α × β} {j : Int} (ha : EvX K F G σ ta xy) (hb : EvX K F G σ tb j) (h0 : j = 0 := by rfl) : EvX K F G σ (tIx K ta tb) xy.1 := by
  subst h0
  refine EvX.or1 (ev_op ha hb fun F1 u w _ h1 h2 H1 e1 _ Q k => ?_)
  obtain ⟨a, u', w', rfl, hs, h3, h4⟩ := h1
  exact .inr (.inl ⟨a, _, 0, u', rfl, h2, SqT.of (e1 _ _ hs), rfl, k _ F1 H1 (Stp.refl e1) h3⟩)
theorem ev_snd {xy : α × β} {j : Int} (ha : EvX K F G σ ta xy) (hb : EvX K F G σ tb j) (h0 : j = 1 := by rfl) : EvX K F G σ (tIx K ta tb) xy.2 := by
  subst h0
  refine EvX.or1 (ev_op ha hb fun F1 u w _ h1 h2 H1 e1 _ Q k => ?_)
  obtain ⟨a, u', w', rfl, hs, h3, h4⟩ := h1
  exact .inr (.inl ⟨a, _, 1, w', rfl, h2, SqT.of (e1 _ _ hs), rfl, k _ F1 H1 (Stp.refl e1) h4⟩)
/-- an item of an object of ours that may change -/
theorem ev_cell {j : Nat} {t : Addr} {vs : List V} {i : Int} {v : V} (hs : σ[j]? = some (some (.ref t))) (h : G t = some (.lst vs)) (ha : atI vs i = some v) (r : R K F v x) : EvX K F G σ (tIx K (tVar j) (tC (.int i))) x :=
  fun H e g Q k => .inl ⟨_, hs, .inl ⟨t, vs, i, v, rfl, rfl, SqL.of (g t _ h), ha, k v F H (Stp.refl e) r⟩⟩
theorem ev_obj {v : V} {i : Nat} (hs : σ[i]? = some (some v)) : EvX K F G σ (tVar i) v := ev_var hs rfl
/-! len, list, max, min, abs, all, any, sum -/
theorem ev_cb1 {r : List V → Hp → VK → Prop} (ha : EvX K F G σ ta x)
    (hr : ∀ F1 u, Ex F F1 → R K F1 u x → ∀ H1, Ex F1 H1 → Ex G H1 → ∀ Q : VK, (∀ v F2 H2, Stp F1 H1 F2 H2 → R K F2 v z → Q v H2) → r [u] H1 Q) :
    EvX K F G σ (tCB r (tCons ta tNil)) z := fun H e g Q k =>
  ha H e g _ fun u F1 H1 s1 r1 => hr F1 u s1.ff r1 H1 s1.fh (g.trans s1.hh) Q fun v F2 H2 s2 r2 => k v F2 H2 (s1.trans s2) r2
theorem ev_cb2 {r : List V → Hp → VK → Prop} (ha : EvX K F G σ ta x) (hb : EvX K F G σ tb y)
    (hr : ∀ F1 u w, Ex F F1 → R K F1 u x → R K F1 w y → ∀ H1, Ex F1 H1 → Ex G H1 → ∀ Q : VK, (∀ v F2 H2, Stp F1 H1 F2 H2 → R K F2 v z → Q v H2) → r [u, w] H1 Q) :
    EvX K F G σ (tCB r (tCons ta (tCons tb tNil))) z := fun H e g Q k =>
  ha H e g _ fun u F1 H1 s1 r1 => (hb.up s1.ff) H1 s1.fh (g.trans s1.hh) _ fun w F2 H2 s2 r2 =>
    hr F2 u w (s1.ff.trans s2.ff) (Rep.mono s2.ff r1) r2 H2 s2.fh ((g.trans s1.hh).trans s2.hh) Q fun v F3 H3 s3 r3 => k v F3 H3 ((s1.trans s2).trans s3) r3
theorem ev_len {xs : List α} (ha : EvX K F G σ ta xs) : EvX K F G σ (tCB (rLenA K) (tCons ta tNil)) (xs.length : Int) :=
  ev_cb1 ha fun F1 u _ h1 H1 e1 _ Q k => by
    obtain ⟨a, vs, rfl, hs, hv⟩ := h1
    exact .inl ⟨_, xs.length, rfl, .inl ⟨vs, SqL.of (e1 _ _ hs), hv.len.symm⟩, k _ F1 H1 (Stp.refl e1) rfl⟩
theorem ev_lenS {s : Str} (ha : EvX K F G σ ta s) (hl : s.length ≤ sizeLine) : EvX K F G σ (tCB (rLenA K) (tCons ta tNil)) (s.length : Int) :=
  ev_cb1 ha fun F1 u _ h1 H1 e1 _ Q k => by
    cases h1
    exact .inl ⟨_, s.length, rfl, ⟨hl, rfl⟩, k _ F1 H1 (Stp.refl e1) rfl⟩
/-- len of an object of ours that may change -/
theorem ev_lenC {t : Addr} {vs : List V} (ha : EvX K F G σ ta (V.ref t)) (h : G t = some (.lst vs)) : EvX K F G σ (tCB (rLenA K) (tCons ta tNil)) (vs.length : Int) :=
  ev_cb1 ha fun F1 u _ h1 H1 e1 g1 Q k => by
    cases h1
    exact .inl ⟨_, vs.length, rfl, .inl ⟨vs, SqL.of (g1 t _ h), rfl⟩, k _ F1 H1 (Stp.refl e1) rfl⟩
theorem ev_list {xs : List α} (ha : EvX K F G σ ta xs) : EvX K F G σ (tCB (rListA K) (tCons ta tNil)) xs :=
  ev_cb1 ha fun F1 u _ h1 H1 e1 _ Q k => by
    obtain ⟨a, vs, rfl, hs, hv⟩ := h1
    exact .inl ⟨a, vs, rfl, .inl (SqL.of (e1 _ _ hs)), fun l hl => k _ _ _ ((Stp.refl e1).new hl) ⟨l, vs, rfl, upd_same, hv.imp fun _ _ => Rep.mono (Ex.new (fresh_back e1 hl))⟩⟩
theorem ev_max2 {i j : Int} (ha : EvX K F G σ ta i) (hb : EvX K F G σ tb j) : EvX K F G σ (tCB rMax2 (tCons ta (tCons tb tNil))) (max i j) :=
  ev_cb2 ha hb fun F1 u w _ h1 h2 H1 e1 _ Q k => by
    cases h1; cases h2
    refine ⟨i, j, rfl, k _ F1 H1 (Stp.refl e1) ?_⟩
    show V.int _ = V.int _
    congr 1
    omega
theorem ev_min2 {i j : Int} (ha : EvX K F G σ ta i) (hb : EvX K F G σ tb j) : EvX K F G σ (tCB rMin2 (tCons ta (tCons tb tNil))) (min i j) :=
  ev_cb2 ha hb fun F1 u w _ h1 h2 H1 e1 _ Q k => by
    cases h1; cases h2
    refine ⟨i, j, rfl, k _ F1 H1 (Stp.refl e1) ?_⟩
    show V.int _ = V.int _
    congr 1
    omega
theorem ev_abs {i : Int} (ha : EvX K F G σ ta i) : EvX K F G σ (tCB rAbs (tCons ta tNil)) (if i < 0 then -i else i) :=
  ev_cb1 ha fun F1 u _ h1 H1 e1 _ Q k => by
    cases h1
    exact ⟨i, rfl, k _ F1 H1 (Stp.refl e1) rfl⟩
theorem ev_all {bs : List Bool} (ha : EvX K F G σ ta bs) : EvX K F G σ (tCB (rAll K) (tCons ta tNil)) (bs.all id) :=
  ev_cb1 ha fun F1 u _ h1 H1 e1 _ Q k => by
    obtain ⟨a, vs, rfl, hs, hv⟩ := h1
    have := all2_bls.mp hv
    subst this
    exact ⟨a, bs, rfl, SqL.of (e1 _ _ hs), k _ F1 H1 (Stp.refl e1) rfl⟩
theorem ev_any {bs : List Bool} (ha : EvX K F G σ ta bs) : EvX K F G σ (tCB (rAny K) (tCons ta tNil)) (bs.any id) :=
  ev_cb1 ha fun F1 u _ h1 H1 e1 _ Q k => by
    obtain ⟨a, vs, rfl, hs, hv⟩ := h1
    have := all2_bls.mp hv
    subst this
    exact ⟨a, bs, rfl, SqL.of (e1 _ _ hs), k _ F1 H1 (Stp.refl e1) rfl⟩
theorem ev_sum {bs : List Int} (ha : EvX K F G σ ta bs) : EvX K F G σ (tCB (rSum K) (tCons ta tNil)) bs.sum :=
  ev_cb1 ha fun F1 u _ h1 H1 e1 _ Q k => by
    obtain ⟨a, vs, rfl, hs, hv⟩ := h1
    have := all2_ints.mp hv
    subst this
    exact ⟨a, bs, rfl, SqL.of (e1 _ _ hs), k _ F1 H1 (Stp.refl e1) rfl⟩
/-- the greatest, the least -/
def maxL (xs : List Int) : Int := xs.foldl max (xs.headD 0)
def minL (xs : List Int) : Int := xs.foldl min (xs.headD 0)
theorem foldl_max_mem : ∀ (xs : List Int) (a : Int), xs.foldl max a = a ∨ xs.foldl max a ∈ xs
  | [], a => .inl rfl
  | x :: xs, a => by
    rcases foldl_max_mem xs (max a x) with h | h
    · show (xs.foldl max (max a x) = a) ∨ _
      rw [h]
      by_cases q : a ≤ x
      · right; rw [show (x :: xs).foldl max a = x by show xs.foldl max (max a x) = x; rw [h]; omega]; exact List.mem_cons_self
      · left; omega
    · exact .inr (List.mem_cons_of_mem _ h)
theorem foldl_max_ge : ∀ (xs : List Int) (a : Int), a ≤ xs.foldl max a ∧ ∀ y ∈ xs, y ≤ xs.foldl max a
  | [], a => ⟨Int.le_refl a, fun y h => by cases h⟩
  | x :: xs, a => by
    obtain ⟨h1, h2⟩ := foldl_max_ge xs (max a x)
    refine ⟨by show a ≤ xs.foldl max (max a x); omega, fun y h => ?_⟩
    show y ≤ xs.foldl max (max a x)
    rcases List.mem_cons.mp h with rfl | h
    · omega
    · exact h2 y h
theorem foldl_min_mem : ∀ (xs : List Int) (a : Int), xs.foldl min a = a ∨ xs.foldl min a ∈ xs
  | [], a => .inl rfl
  | x :: xs, a => by
    rcases foldl_min_mem xs (min a x) with h | h
    · show (xs.foldl min (min a x) = a) ∨ _
      by_cases q : a ≤ x
      · left; rw [h]; omega
      · right; rw [show (x :: xs).foldl min a = x by show xs.foldl min (min a x) = x; rw [h]; omega]; exact List.mem_cons_self
    · exact .inr (List.mem_cons_of_mem _ h)
theorem foldl_min_le : ∀ (xs : List Int) (a : Int), xs.foldl min a ≤ a ∧ ∀ y ∈ xs, xs.foldl min a ≤ y
  | [], a => ⟨Int.le_refl a, fun y h => by cases h⟩
  | x :: xs, a => by
    obtain ⟨h1, h2⟩ := foldl_min_le xs (min a x)
    refine ⟨by show xs.foldl min (min a x) ≤ a; omega, fun y h => ?_⟩
    show xs.foldl min (min a x) ≤ y
    rcases List.mem_cons.mp h with rfl | h
    · omega
    · exact h2 y h
theorem maxL_mem {xs : List Int} (h : xs ≠ []) : maxL xs ∈ xs := by
  cases xs with
  | nil => exact absurd rfl h
  | cons a l =>
    rcases foldl_max_mem (a :: l) a with q | q
    · show (a :: l).foldl max a ∈ _; rw [q]; exact List.mem_cons_self
    · exact q
theorem le_maxL {xs : List Int} {y : Int} (h : y ∈ xs) : y ≤ maxL xs := (foldl_max_ge xs _).2 y h
theorem minL_mem {xs : List Int} (h : xs ≠ []) : minL xs ∈ xs := by
  cases xs with
  | nil => exact absurd rfl h
  | cons a l =>
    rcases foldl_min_mem (a :: l) a with q | q
    · show (a :: l).foldl min a ∈ _; rw [q]; exact List.mem_cons_self
    · exact q
theorem minL_le {xs : List Int} {y : Int} (h : y ∈ xs) : minL xs ≤ y := (foldl_min_le xs _).2 y h
theorem maxL_uniq {xs : List Int} {m : Int} (h1 : m ∈ xs) (h2 : ∀ y ∈ xs, y ≤ m) : m = maxL xs := by
  have a := le_maxL h1
  have b := h2 _ (maxL_mem (List.ne_nil_of_mem h1))
  omega
theorem minL_uniq {xs : List Int} {m : Int} (h1 : m ∈ xs) (h2 : ∀ y ∈ xs, m ≤ y) : m = minL xs := by
  have a := minL_le h1
  have b := h2 _ (minL_mem (List.ne_nil_of_mem h1))
  omega
theorem ev_max {bs : List Int} (ha : EvX K F G σ ta bs) (h0 : 0 < bs.length) : EvX K F G σ (tCB (rMax K) (tCons ta tNil)) (maxL bs) :=
  ev_cb1 ha fun F1 u _ h1 H1 e1 _ Q k => by
    obtain ⟨a, vs, rfl, hs, hv⟩ := h1
    have := all2_ints.mp hv
    subst this
    exact ⟨a, bs, rfl, SqL.of (e1 _ _ hs), h0, fun m hm hl => k _ F1 H1 (Stp.refl e1) (by rw [maxL_uniq hm hl]; rfl)⟩
theorem ev_min {bs : List Int} (ha : EvX K F G σ ta bs) (h0 : 0 < bs.length) : EvX K F G σ (tCB (rMin K) (tCons ta tNil)) (minL bs) :=
  ev_cb1 ha fun F1 u _ h1 H1 e1 _ Q k => by
    obtain ⟨a, vs, rfl, hs, hv⟩ := h1
    have := all2_ints.mp hv
    subst this
    exact ⟨a, bs, rfl, SqL.of (e1 _ _ hs), h0, fun m hm hl => k _ F1 H1 (Stp.refl e1) (by rw [minL_uniq hm hl]; rfl)⟩
end

/-! ### data as Python compares it -/
class RepD (α : Type) [Rep α] [DecidableEq α] where
  toD : α → PyData
  dp : ∀ {K : PySem.W.Frag} {F : Hp} {v : V} {x : α}, R K F v x → Dp K F v (toD x)
  dep : Nat
  dep_le : ∀ x : α, (toD x).depth ≤ dep
  eqv : ∀ x y : α, PyData.eqv (toD x) (toD y) = decide (x = y)
open RepD (toD)
/-- never None -/
class NN (α : Type) [Rep α] [DecidableEq α] [RepD α] : Prop where
  nn : ∀ x : α, PyData.eqv .none (toD x) = false ∧ PyData.eqv (toD x) .none = false
/-- no odd text in it -/
class Lay (α : Type) [Rep α] [DecidableEq α] [RepD α] : Prop where
  lay : ∀ x : α, (toD x).canLay0 = true
instance : RepD Int := ⟨fun i => .int i, fun h => by cases h; exact .int _, 0, fun _ => by simp [PyData.depth], fun x y => by simp [PyData.eqv, Bool.beq_eq_decide_eq]⟩
instance : RepD Bool := ⟨fun i => .bool i, fun h => by cases h; exact .bl _, 0, fun _ => by simp [PyData.depth], fun x y => by simp [PyData.eqv, Bool.beq_eq_decide_eq]⟩
instance : RepD Str := ⟨fun i => .str i, fun h => by cases h; exact .str _, 0, fun _ => by simp [PyData.depth], fun x y => by
  simp only [PyData.eqv]
  by_cases h : x = y
  · subst h; simp
  · rw [decide_eq_false h]; exact beq_eq_false_iff_ne.mpr h⟩
instance : NN Int := ⟨fun _ => by simp [toD, PyData.eqv]⟩
instance : NN Bool := ⟨fun _ => by simp [toD, PyData.eqv]⟩
instance : NN Str := ⟨fun _ => by simp [toD, PyData.eqv]⟩
instance : Lay Int := ⟨fun _ => by simp [toD, PyData.canLay0]⟩
instance : Lay Bool := ⟨fun _ => by simp [toD, PyData.canLay0]⟩
section
variable {α β : Type} [Rep α] [DecidableEq α] [RepD α] [Rep β] [DecidableEq β] [RepD β]
theorem dpAll_of {K : PySem.W.Frag} {F : Hp} : ∀ {vs : List V} {xs : List α}, All2 (R K F) vs xs → DpAll K F vs (xs.map toD)
  | _, _, .nil => .nil
  | _, _, .cons p t => .cons (RepD.dp p) (dpAll_of t)
theorem depAll_le : ∀ xs : List α, PyData.depthAll (xs.map toD) ≤ RepD.dep α
  | [] => by simp [PyData.depthAll]
  | x :: xs => by
    have h1 := depAll_le xs
    have h2 := RepD.dep_le x
    simp only [List.map_cons, PyData.depthAll]
    omega
theorem eqvAll_of : ∀ xs ys : List α, PyData.eqvAll (xs.map toD) (ys.map toD) = decide (xs = ys)
  | [], [] => by simp [PyData.eqvAll]
  | [], y :: ys => by simp [PyData.eqvAll]
  | x :: xs, [] => by simp [PyData.eqvAll]
  | x :: xs, y :: ys => by
    simp only [List.map_cons, PyData.eqvAll, RepD.eqv, eqvAll_of xs ys, List.cons.injEq, Bool.decide_and]
instance : RepD (List α) := ⟨fun xs => .list (xs.map toD), fun ⟨a, vs, h1, h2, h3⟩ => by subst h1; exact .lst (SqL.of h2) (dpAll_of h3), RepD.dep α + 1,
  fun xs => by have := depAll_le xs; simp only [PyData.depth]; omega, fun x y => by simp only [PyData.eqv]; exact eqvAll_of x y⟩
instance : NN (List α) := ⟨fun _ => by simp [toD, PyData.eqv]⟩
instance : RepD (α × β) := ⟨fun x => .tuple [toD x.1, toD x.2], fun ⟨a, u, w, h1, h2, h3, h4⟩ => by subst h1; exact .tup (SqT.of h2) (.cons (RepD.dp h3) (.cons (RepD.dp h4) .nil)), max (RepD.dep α) (RepD.dep β) + 1,
  fun x => by have h1 := RepD.dep_le x.1; have h2 := RepD.dep_le x.2; simp only [PyData.depth, PyData.depthAll]; omega,
  fun x y => by
    obtain ⟨a, b⟩ := x
    obtain ⟨c, d⟩ := y
    simp only [PyData.eqv, PyData.eqvAll, RepD.eqv, Bool.and_true, Prod.mk.injEq, Bool.decide_and]⟩
instance : NN (α × β) := ⟨fun _ => by simp [toD, PyData.eqv]⟩
instance [NN α] : RepD (Option α) := ⟨fun x => match x with | none => .none | some y => toD y, fun {K F v x} h => by
    cases x with
    | none => cases h; exact .non
    | some y => exact RepD.dp (α := α) h, RepD.dep α,
  fun x => by cases x with
    | none => simp [PyData.depth]
    | some y => exact RepD.dep_le y,
  fun x y => by
    cases x with
    | none => cases y with
      | none => simp [PyData.eqv]
      | some y => simp only; rw [(NN.nn y).1]; simp
    | some x => cases y with
      | none => simp only; rw [(NN.nn x).2]; simp
      | some y => simp only; rw [RepD.eqv]; simp⟩
theorem layAll_of [Lay α] : ∀ xs : List α, PyData.canLayAll0 (xs.map toD) = true
  | [] => by simp [PyData.canLayAll0]
  | x :: xs => by simp [PyData.canLayAll0, Lay.lay x, layAll_of xs]
instance [Lay α] : Lay (List α) := ⟨fun xs => by show (PyData.list (xs.map toD)).canLay0 = true; simp only [PyData.canLay0]; exact layAll_of xs⟩
instance [Lay α] [Lay β] : Lay (α × β) := ⟨fun x => by show (PyData.tuple [toD x.1, toD x.2]).canLay0 = true; simp [PyData.canLay0, PyData.canLayAll0, Lay.lay]⟩
instance [NN α] [Lay α] : Lay (Option α) := ⟨fun x => by
  cases x with
  | none => show PyData.canLay0 .none = true; simp [PyData.canLay0]
  | some y => exact Lay.lay y⟩
theorem dp_mono {K : PySem.W.Frag} {F F' : Hp} (e : Ex F F') {d : PyData} {v : V} (h : Dp K F v d) : Dp K F' v d := by
  refine Dp.rec (motive_1 := fun v d _ => Dp K F' v d) (motive_2 := fun vs ds _ => DpAll K F' vs ds) ?_ ?_ ?_ ?_ ?_ ?_ ?_ ?_ h
  · exact .non
  · exact fun b => .bl b
  · exact fun b => .int b
  · exact fun b => .str b
  · exact fun h1 _ h2 => .lst (ex_l e h1) h2
  · exact fun h1 _ h2 => .tup (ex_t e h1) h2
  · exact .nil
  · exact fun _ _ h1 h2 => .cons h1 h2
theorem shaped_of (x : α) (h : (toD x).canLay0 = true) (hd : RepD.dep α ≤ 64) : SeqAt.shaped (toD x) = true := by
  show ((toD x).canLay0 && decide ((toD x).depth ≤ 64)) = true
  rw [Bool.and_eq_true]
  exact ⟨h, decide_eq_true (Nat.le_trans (RepD.dep_le x) hd)⟩
section
variable {K : PySem.W.Frag} {F F' G H H' : Hp} {σ : L2.St} {ta tb te tl : TE} {x y : α}
theorem ev_eqL (hx : (toD x).canLay0 = true) (hy : (toD y).canLay0 = true) (hd : RepD.dep α ≤ 64) (ha : EvX K F G σ ta x) (hb : EvX K F G σ tb y) : EvX K F G σ (tOp (rEqA K) ta tb) (decide (x = y)) :=
  ev_op ha hb fun F1 u w _ h1 h2 H1 e1 _ Q k => .inr ⟨toD x, toD y, dp_mono e1 (RepD.dp h1), dp_mono e1 (RepD.dp h2), shaped_of x hx hd, shaped_of y hy hd, k _ F1 H1 (Stp.refl e1) (by rw [RepD.eqv]; rfl)⟩
theorem ev_neL (hx : (toD x).canLay0 = true) (hy : (toD y).canLay0 = true) (hd : RepD.dep α ≤ 64) (ha : EvX K F G σ ta x) (hb : EvX K F G σ tb y) : EvX K F G σ (tOp (rNeA K) ta tb) (!decide (x = y)) :=
  ev_op ha hb fun F1 u w _ h1 h2 H1 e1 _ Q k => .inr ⟨toD x, toD y, dp_mono e1 (RepD.dp h1), dp_mono e1 (RepD.dp h2), shaped_of x hx hd, shaped_of y hy hd, k _ F1 H1 (Stp.refl e1) (by rw [RepD.eqv]; rfl)⟩
theorem ev_eq [Lay α] (ha : EvX K F G σ ta x) (hb : EvX K F G σ tb y) (hd : RepD.dep α ≤ 64 := by decide) : EvX K F G σ (tOp (rEqA K) ta tb) (decide (x = y)) := ev_eqL (Lay.lay x) (Lay.lay y) hd ha hb
theorem ev_ne [Lay α] (ha : EvX K F G σ ta x) (hb : EvX K F G σ tb y) (hd : RepD.dep α ≤ 64 := by decide) : EvX K F G σ (tOp (rNeA K) ta tb) (!decide (x = y)) := ev_neL (Lay.lay x) (Lay.lay y) hd ha hb
theorem any_eqv (x : α) (xs : List α) : ((xs.map toD).any fun z => PyData.eqv z (toD x)) = decide (x ∈ xs) := by
  induction xs with
  | nil => simp
  | cons a l ih =>
    simp only [List.map_cons, List.any_cons, ih, RepD.eqv, List.mem_cons, Bool.decide_or]
    congr 1
    by_cases h : a = x
    · subst h; simp
    · rw [decide_eq_false h, decide_eq_false (fun q => h q.symm)]
theorem ev_in [Lay α] {xs : List α} (ha : EvX K F G σ ta x) (hb : EvX K F G σ tb xs) (hd : RepD.dep α ≤ 60 := by decide) : EvX K F G σ (tOp (rInA K) ta tb) (decide (x ∈ xs)) :=
  ev_op ha hb fun F1 u w _ h1 h2 H1 e1 _ Q k => .inr (.inr (.inl ⟨toD x, xs.map toD, dp_mono e1 (RepD.dp h1), dp_mono e1 (RepD.dp (α := List α) h2), shaped_of x (Lay.lay x) (by omega), shaped_of xs (Lay.lay xs) (by show RepD.dep α + 1 ≤ 64; omega), k _ F1 H1 (Stp.refl e1) (by rw [any_eqv]; rfl)⟩))
theorem ev_notIn [Lay α] {xs : List α} (ha : EvX K F G σ ta x) (hb : EvX K F G σ tb xs) (hd : RepD.dep α ≤ 60 := by decide) : EvX K F G σ (tOp (rNotInA K) ta tb) (!decide (x ∈ xs)) :=
  ev_op ha hb fun F1 u w _ h1 h2 H1 e1 _ Q k => .inr (.inr ⟨toD x, xs.map toD, dp_mono e1 (RepD.dp h1), dp_mono e1 (RepD.dp (α := List α) h2), shaped_of x (Lay.lay x) (by omega), shaped_of xs (Lay.lay xs) (by show RepD.dep α + 1 ≤ 64; omega), k _ F1 H1 (Stp.refl e1) (by rw [any_eqv]; rfl)⟩)
end
end
end L3

namespace L3
open PySem L2 Evl
open Rep (R)
open RepD (toD)

/-! ### promises of defs that change nothing -/
section
variable (K : PySem.W.Frag) {α β γ δ : Type} [Rep α] [Rep β] [Rep γ] [Rep δ]
/-- f(x): what stands for f x, where pre x -/
def Pu1 (pre : α → Prop) (f : α → δ) : Sp := fun vs H Q _ => ∃ F x v, vs = [v] ∧ Ex F H ∧ R K F v x ∧ pre x ∧ ∀ u F' H', Stp F H F' H' → R K F' u (f x) → Q u H'
def Pu2 (pre : α → β → Prop) (f : α → β → δ) : Sp := fun vs H Q _ => ∃ F x y v w, vs = [v, w] ∧ Ex F H ∧ R K F v x ∧ R K F w y ∧ pre x y ∧ ∀ u F' H', Stp F H F' H' → R K F' u (f x y) → Q u H'
def Pu3 (pre : α → β → γ → Prop) (f : α → β → γ → δ) : Sp := fun vs H Q _ => ∃ F x y z v w t, vs = [v, w, t] ∧ Ex F H ∧ R K F v x ∧ R K F w y ∧ R K F t z ∧ pre x y z ∧ ∀ u F' H', Stp F H F' H' → R K F' u (f x y z) → Q u H'
/-- f(x): a NEW list, which may be changed by whoever asked -/
def PuL1 (pre : α → Prop) (f : α → List δ) : Sp := fun vs H Q _ => ∃ F x v, vs = [v] ∧ Ex F H ∧ R K F v x ∧ pre x ∧ ∀ p us F' H', Stp F H F' H' → H p = none → F' p = none → H' p = some (.lst us) → All2 (R K F') us (f x) → Q (.ref p) H'
def PuL2 (pre : α → β → Prop) (f : α → β → List δ) : Sp := fun vs H Q _ => ∃ F x y v w, vs = [v, w] ∧ Ex F H ∧ R K F v x ∧ R K F w y ∧ pre x y ∧ ∀ p us F' H', Stp F H F' H' → H p = none → F' p = none → H' p = some (.lst us) → All2 (R K F') us (f x y) → Q (.ref p) H'
end
section
variable {K : PySem.W.Frag} {F F' G H H' : Hp} {σ : L2.St} {ta tb tc te tl : TE}
variable {α β γ δ : Type} [Rep α] [Rep β] [Rep γ] [Rep δ] {x : α} {y : β} {z : γ} {E : XK}
theorem ev_call1 {pre : α → Prop} {f : α → δ} (ha : EvX K F G σ ta x) (hp : pre x) : EvX K F G σ (tCall (Pu1 K pre f) [] E (tCons ta tNil)) (f x) := fun H e g Q k =>
  ha H e g _ fun v F1 H1 s1 r1 => ⟨F1, x, v, rfl, s1.fh, r1, hp, fun u F2 H2 s2 r2 => k u F2 H2 (s1.trans s2) r2⟩
theorem ev_call2 {pre : α → β → Prop} {f : α → β → δ} (ha : EvX K F G σ ta x) (hb : EvX K F G σ tb y) (hp : pre x y) : EvX K F G σ (tCall (Pu2 K pre f) [] E (tCons ta (tCons tb tNil))) (f x y) := fun H e g Q k =>
  ha H e g _ fun v F1 H1 s1 r1 => (hb.up s1.ff) H1 s1.fh (g.trans s1.hh) _ fun w F2 H2 s2 r2 =>
    ⟨F2, x, y, v, w, rfl, s2.fh, Rep.mono s2.ff r1, r2, hp, fun u F3 H3 s3 r3 => k u F3 H3 ((s1.trans s2).trans s3) r3⟩
theorem ev_call3 {pre : α → β → γ → Prop} {f : α → β → γ → δ} (ha : EvX K F G σ ta x) (hb : EvX K F G σ tb y) (hc : EvX K F G σ tc z) (hp : pre x y z) : EvX K F G σ (tCall (Pu3 K pre f) [] E (tCons ta (tCons tb (tCons tc tNil)))) (f x y z) := fun H e g Q k =>
  ha H e g _ fun v F1 H1 s1 r1 => (hb.up s1.ff) H1 s1.fh (g.trans s1.hh) _ fun w F2 H2 s2 r2 => (hc.up (s1.ff.trans s2.ff)) H2 s2.fh ((g.trans s1.hh).trans s2.hh) _ fun t F3 H3 s3 r3 =>
    ⟨F3, x, y, z, v, w, t, rfl, s3.fh, Rep.mono (s2.ff.trans s3.ff) r1, Rep.mono s3.ff r2, r3, hp, fun u F4 H4 s4 r4 => k u F4 H4 (((s1.trans s2).trans s3).trans s4) r4⟩
theorem ev_callL1 {pre : α → Prop} {f : α → List δ} (ha : EvX K F G σ ta x) (hp : pre x) : EvX K F G σ (tCall (PuL1 K pre f) [] E (tCons ta tNil)) (f x) := fun H e g Q k =>
  ha H e g _ fun v F1 H1 s1 r1 => ⟨F1, x, v, rfl, s1.fh, r1, hp, fun p us F2 H2 s2 n0 n1 h2 r2 => k _ _ H2 (s1.trans (s2.frz n0 n1 h2)) ⟨p, us, rfl, upd_same, r2.imp fun _ _ => Rep.mono (Ex.new n1)⟩⟩
theorem ev_callL2 {pre : α → β → Prop} {f : α → β → List δ} (ha : EvX K F G σ ta x) (hb : EvX K F G σ tb y) (hp : pre x y) : EvX K F G σ (tCall (PuL2 K pre f) [] E (tCons ta (tCons tb tNil))) (f x y) := fun H e g Q k =>
  ha H e g _ fun v F1 H1 s1 r1 => (hb.up s1.ff) H1 s1.fh (g.trans s1.hh) _ fun w F2 H2 s2 r2 =>
    ⟨F2, x, y, v, w, rfl, s2.fh, Rep.mono s2.ff r1, r2, hp, fun p us F3 H3 s3 n0 n1 h2 r3 => k _ _ H3 ((s1.trans s2).trans (s3.frz n0 n1 h2)) ⟨p, us, rfl, upd_same, r3.imp fun _ _ => Rep.mono (Ex.new n1)⟩⟩
/-- a comprehension's new list stays changeable -/
def EvN (K : PySem.W.Frag) (F G : Hp) (σ : L2.St) (te : TE) (xs : List α) : Prop :=
  ∀ H, Ex F H → Ex G H → ∀ Q : VK, (∀ p us F' H', Stp F H F' H' → H p = none → F' p = none → H' p = some (.lst us) → All2 (R K F') us xs → Q (.ref p) H') → te σ H Q
theorem EvN.ev {xs : List α} (h : EvN K F G σ te xs) : EvX K F G σ te xs := fun H e g Q k =>
  h H e g Q fun p us F' H' s n0 n1 h2 r => k _ _ H' (s.frz n0 n1 h2) ⟨p, us, rfl, upd_same, r.imp fun _ _ => Rep.mono (Ex.new n1)⟩
theorem EvN.up {xs : List α} (h : EvN K F G σ te xs) (e : Ex F F') : EvN K F' G σ te xs := fun H e1 g Q k =>
  h H (e.trans e1) g Q fun p us F2 H2 s n0 n1 h2 r => by
    obtain ⟨s2, e3⟩ := s.up e e1
    refine k p us _ H2 s2 n0 ?_ h2 (r.imp fun _ _ => Rep.mono e3)
    unfold cup
    cases q : F' p with
    | some o => rw [e1 p o q] at n0; cases n0
    | none => exact n1
theorem EvN.is {xs ys : List α} (h : EvN K F G σ te xs) (e : xs = ys) : EvN K F G σ te ys := e ▸ h
theorem en_callL1 {pre : α → Prop} {f : α → List δ} (ha : EvX K F G σ ta x) (hp : pre x) : EvN K F G σ (tCall (PuL1 K pre f) [] E (tCons ta tNil)) (f x) := fun H e g Q k =>
  ha H e g _ fun v F1 H1 s1 r1 => ⟨F1, x, v, rfl, s1.fh, r1, hp, fun p us F2 H2 s2 n0 n1 h2 r2 => k _ _ _ H2 (s1.trans s2) (Ex.dom s1.hh n0) n1 h2 r2⟩
theorem en_callL2 {pre : α → β → Prop} {f : α → β → List δ} (ha : EvX K F G σ ta x) (hb : EvX K F G σ tb y) (hp : pre x y) : EvN K F G σ (tCall (PuL2 K pre f) [] E (tCons ta (tCons tb tNil))) (f x y) := fun H e g Q k =>
  ha H e g _ fun v F1 H1 s1 r1 => (hb.up s1.ff) H1 s1.fh (g.trans s1.hh) _ fun w F2 H2 s2 r2 =>
    ⟨F2, x, y, v, w, rfl, s2.fh, Rep.mono s2.ff r1, r2, hp, fun p us F3 H3 s3 n0 n1 h2 r3 => k _ _ _ H3 ((s1.trans s2).trans s3) (Ex.dom (s1.hh.trans s2.hh) n0) n1 h2 r3⟩
theorem en_lst {tr : TA} {xs : List α} (h : EvL K F G σ tr xs) (hl : xs.length ≤ 100000) : EvN K F G σ (tLst tr) xs := fun H e g Q k =>
  h H e g _ fun vs F1 H1 s1 r1 => ⟨by rw [r1.len]; exact sz_of hl, fun p hp => k p vs _ _ (s1.own hp) (Ex.dom s1.hh hp) (fresh_back s1.fh hp) upd_same r1⟩
theorem en_list {xs : List α} (ha : EvX K F G σ ta xs) : EvN K F G σ (tCB (rListA K) (tCons ta tNil)) xs := fun H e g Q k =>
  ha H e g _ fun u F1 H1 s1 h1 => by
    obtain ⟨a, vs, rfl, hs, hv⟩ := h1
    exact .inl ⟨a, vs, rfl, .inl (SqL.of (s1.fh _ _ hs)), fun l hl => k l vs _ _ (s1.own hl) (Ex.dom s1.hh hl) (fresh_back s1.fh hl) upd_same hv⟩
theorem en_rng {n : Int} (ha : EvX K F G σ ta n) (hn : -100000 ≤ n ∧ n ≤ 100000) : EvN K F G σ (tLstRg (tRg1 ta)) (rng n) := fun H e g Q k =>
  ha H e g _ fun u F1 H1 s1 h1 => by
    cases h1
    refine ⟨n, rfl, ⟨by omega, by omega, by omega, by omega, by omega⟩, fun l hl => k l _ _ _ (s1.own hl) (Ex.dom s1.hh hl) (fresh_back s1.fh hl) upd_same ?_⟩
    refine all2_ints.mpr ?_
    simp [rgV, rng]
theorem ev_rngL {n : Int} (ha : EvX K F G σ ta n) (hn : -100000 ≤ n ∧ n ≤ 100000) : EvX K F G σ (tLstRg (tRg1 ta)) (rng n) := (en_rng ha hn).ev
theorem en_lc {wi : TI} {g : TG} {tt : TT} {vs : List Nat} {xs : List α} {B : Hp → α → L2.St → L2.St → Prop} (f : α → Bool) (ee : α → β) (hi : IT K F G σ wi xs) (hg : Tgt K g B) (hn : xs.length ≤ 100000)
    (hw : ∀ F' x σ', B F' x (wipe σ vs) σ' → wipe σ' vs = wipe σ vs)
    (ht : ∀ F' x σ', x ∈ xs → Ex F F' → B F' x (wipe σ vs) σ' → EvT F' G σ' tt (f x))
    (he : ∀ F' x σ', x ∈ xs → f x = true → Ex F F' → B F' x (wipe σ vs) σ' → EvX K F' G σ' te (ee x)) :
    EvN K F G σ (tLc wi g tt te vs) ((xs.filter f).map ee) := fun H0 e0 g0 Q k =>
  hi H0 e0 g0 _ fun J F1 H1 s1 wx D hD => by
    obtain ⟨Gd, Y, w, hgd, hy⟩ := id wx
    have g1 : Ex G H1 := g0.trans s1.hh
    refine lc_it w (fun i H => ∃ F' acc, Stp F1 H1 F' H ∧ F' D = none ∧ H D = some (.lst acc) ∧ All2 (R K F') acc (((xs.take i).filter f).map ee))
      ⟨F1, [], (Stp.refl s1.fh).own hD, fresh_back s1.fh hD, upd_same, by simp; exact .nil⟩
      (fun i H _ ⟨F', acc, s, _⟩ => hgd H (s.ff.trans s.fh)) ?_ ?_
    · rintro i v H H' hin ⟨F', acc, s, fD, hDa, ha⟩ y
      obtain ⟨x, hx, F2, s2, r2⟩ := hy i H v H' (s.ff.trans s.fh) hin y
      obtain ⟨s3, e3⟩ := s2.up s.ff s.fh
      have r3 := Rep.mono e3 r2
      have hDa' : H' D = some (.lst acc) := s3.hh D _ hDa
      have fD' : cup F' F2 D = none := s3.fno hDa fD
      have s4 := s.trans s3
      have hxm : x ∈ xs := List.mem_of_getElem? hx
      have ht1 : xs.take (i + 1) = xs.take i ++ [x] := by
        rw [List.take_add_one, hx]; rfl
      have hlen : acc.length < sizeLine := by
        have h1 := ha.len
        have h2 : (((xs.take i).filter f).map ee).length ≤ i := by
          rw [List.length_map]
          exact Nat.le_trans (List.length_filter_le _ _) (by rw [List.length_take]; exact Nat.min_le_left _ _)
        exact Nat.lt_of_lt_of_le (show acc.length < 100000 by omega) (by decide)
      refine hg v x _ (cup F' F2) H' r3 s3.fh _ fun σ' hb => ⟨hw _ _ _ hb, ?_⟩
      refine ht _ x σ' hxm (s1.ff.trans s4.ff) hb H' s3.fh (g1.trans s4.hh) _ fun H3 e3 => ?_
      cases hf : f x with
      | false =>
        show ∃ F' acc, _
        refine ⟨cup F' F2, acc, s4.ext e3, fD', e3 D _ hDa', ?_⟩
        rw [ht1, List.filter_append, List.filter_cons_of_neg (by rw [hf]; decide)]
        simp only [List.filter_nil, List.append_nil]
        exact ha.imp fun _ _ => Rep.mono s3.ff
      | true =>
        show te σ' H3 _
        refine he _ x σ' hxm hf (s1.ff.trans s4.ff) hb H3 (s3.fh.trans e3) ((g1.trans s4.hh).trans e3) _ fun u F5 H5 s5 r5 => ?_
        have s6 := (s4.ext e3).trans s5
        have hD5 := s5.hh D _ (e3 D _ hDa')
        have fD5 : F5 D = none := s5.fno (e3 D _ hDa') fD'
        refine ⟨acc, hD5, hlen, F5, acc ++ [u], s6.mut hD fD5, fD5, upd_same, ?_⟩
        rw [ht1, List.filter_append, List.map_append, List.filter_cons_of_pos (by rw [hf])]
        exact (ha.imp fun _ _ => Rep.mono (s3.ff.trans s5.ff)).app (.cons r5 .nil)
    · rintro H ⟨F', acc, s, fD, hDa, ha⟩
      rw [List.take_length] at ha
      exact k D acc F' H (s1.trans s) (Ex.dom s1.hh hD) fD hDa ha
theorem en_lcy {wi : TI} {g : TG} {vs : List Nat} {xs : List α} {B : Hp → α → L2.St → L2.St → Prop} (ee : α → β) (hi : IT K F G σ wi xs) (hg : Tgt K g B) (hn : xs.length ≤ 100000)
    (hw : ∀ F' x σ', B F' x (wipe σ vs) σ' → wipe σ' vs = wipe σ vs)
    (he : ∀ F' x σ', x ∈ xs → Ex F F' → B F' x (wipe σ vs) σ' → EvX K F' G σ' te (ee x)) :
    EvN K F G σ (tLc wi g tYes te vs) (xs.map ee) :=
  (en_lc (fun _ => true) ee hi hg hn hw (fun _ _ _ _ _ _ => et_yes) (fun F' x σ' h1 _ h2 h3 => he F' x σ' h1 h2 h3)).is (by rw [filter_true])

/-! ### statements -/
variable {D : Ends} {tz tu tw : TS} {tt : TT}
/-- te by what it gives, from a heap on which all is known (G := H) -/
theorem EvX.go (h : EvX K F H σ te x) (e : Ex F H) {Q : VK} (k : ∀ v F' H', Stp F H F' H' → R K F' v x → Q v H') : te σ H Q := h H e (Ex.refl H) Q k
theorem EvT.go {b : Bool} (h : EvT F H σ tt b) (e : Ex F H) {Q : Bool → Hp → Prop} (k : ∀ H', Ex H H' → Q b H') : tt σ H Q := h H e (Ex.refl H) Q k
theorem EvN.go {xs : List α} (h : EvN K F H σ te xs) (e : Ex F H) {Q : VK} (k : ∀ p us F' H', Stp F H F' H' → H p = none → F' p = none → H' p = some (.lst us) → All2 (R K F') us xs → Q (.ref p) H') : te σ H Q := h H e (Ex.refl H) Q k
theorem x_asg {i : Nat} (h : EvX K F H σ te x) (e : Ex F H) (k : ∀ v F' H', Stp F H F' H' → R K F' v x → tz D (σ.set i (some v)) H') : tSeq (tAsg te (gName i)) tz D σ H := h.go e k
theorem x_asgN {i : Nat} {xs : List α} (h : EvN K F H σ te xs) (e : Ex F H) (k : ∀ p us F' H', Stp F H F' H' → H p = none → F' p = none → H' p = some (.lst us) → All2 (R K F') us xs → tz D (σ.set i (some (.ref p))) H') : tSeq (tAsg te (gName i)) tz D σ H := h.go e k
theorem x_ret (h : EvX K F H σ te x) (e : Ex F H) (k : ∀ v F' H', Stp F H F' H' → R K F' v x → D.rt v H') : tRet te D σ H := h.go e k
theorem x_if {b : Bool} (h : EvT F H σ tt b) (e : Ex F H) (h1 : b = true → ∀ H', Ex H H' → tu { D with nx := tz D } σ H') (h2 : b = false → ∀ H', Ex H H' → tw { D with nx := tz D } σ H') : tSeq (tIfS tt tu tw) tz D σ H :=
  h.go e fun H' e' => by
    cases b with
    | true => exact h1 rfl H' e'
    | false => exact h2 rfl H' e'
theorem y_if {b : Bool} (h : EvT F H σ tt b) (e : Ex F H) (h1 : b = true → ∀ H', Ex H H' → tu D σ H') (h2 : b = false → ∀ H', Ex H H' → tw D σ H') : tIfS tt tu tw D σ H :=
  h.go e fun H' e' => by
    cases b with
    | true => exact h1 rfl H' e'
    | false => exact h2 rfl H' e'
end
end L3

namespace L3
open PySem L2 Evl
open Rep (R)
open RepD (toD)
section
variable {K : PySem.W.Frag} {F F' G H H' : Hp} {σ : L2.St} {ta tb tc te tl : TE} {tt : TT}
variable {α β γ δ : Type} [Rep α] [Rep β] [Rep γ] [Rep δ] {x : α} {y : β} {z : γ} {E : XK}
variable {D : Ends} {tz tu tw : TS}

/-! ### loops -/
theorem y_for {wi : TI} {g : TG} {xs : List α} {B : Hp → α → L2.St → L2.St → Prop} (hi : IT K F H σ wi xs) (e : Ex F H) (hg : Tgt K g B)
    (k : ∀ F1 H1, Stp F H F1 H1 → ∃ Inv : Nat → Hp → L2.St → Hp → Prop, Inv 0 F1 σ H1 ∧ (∀ i F' σ' H', Inv i F' σ' H' → Ex F1 F' ∧ Ex F' H') ∧
      (∀ i x F' σ' H', xs[i]? = some x → Inv i F' σ' H' → ∀ F2 H2, Stp F' H' F2 H2 → ∀ σ2, B F2 x σ' σ2 →
        tu { D with nx := fun σ H => ∃ F, Inv (i + 1) F σ H, ct := fun σ H => ∃ F, Inv (i + 1) F σ H, bk := D.nx } σ2 H2) ∧
      (∀ F' σ' H', Inv xs.length F' σ' H' → D.nx σ' H')) : tFor wi g tu D σ H :=
  hi H e (Ex.refl H) _ fun J F1 H1 s1 wx => by
    obtain ⟨Inv, h0, hE, ht, hd⟩ := k F1 H1 s1
    obtain ⟨Gd, Y, w, hgd, hy⟩ := id wx
    refine for_it w (fun i σ H => ∃ F, Inv i F σ H) ⟨F1, h0⟩ (fun i σ H _ ⟨F', v⟩ => hgd H ((hE i F' σ H v).1.trans (hE i F' σ H v).2)) ?_ (fun σ H ⟨F', v⟩ => hd F' σ H v)
    rintro i v σ' H2 H3 hin ⟨F', iv⟩ yy
    obtain ⟨e1, e2⟩ := hE i F' σ' H2 iv
    obtain ⟨x, hx, F2, s2, r2⟩ := hy i H2 v H3 (e1.trans e2) hin yy
    obtain ⟨s3, e3⟩ := s2.up e1 e2
    exact hg v x σ' (cup F' F2) H3 (Rep.mono e3 r2) s3.fh _ fun σ2 hb => ht i x F' σ' H2 hx iv _ _ s3 σ2 hb
theorem x_for {wi : TI} {g : TG} {xs : List α} {B : Hp → α → L2.St → L2.St → Prop} (hi : IT K F H σ wi xs) (e : Ex F H) (hg : Tgt K g B)
    (k : ∀ F1 H1, Stp F H F1 H1 → ∃ Inv : Nat → Hp → L2.St → Hp → Prop, Inv 0 F1 σ H1 ∧ (∀ i F' σ' H', Inv i F' σ' H' → Ex F1 F' ∧ Ex F' H') ∧
      (∀ i x F' σ' H', xs[i]? = some x → Inv i F' σ' H' → ∀ F2 H2, Stp F' H' F2 H2 → ∀ σ2, B F2 x σ' σ2 →
        tu { D with nx := fun σ H => ∃ F, Inv (i + 1) F σ H, ct := fun σ H => ∃ F, Inv (i + 1) F σ H, bk := tz D } σ2 H2) ∧
      (∀ F' σ' H', Inv xs.length F' σ' H' → tz D σ' H')) : tSeq (tFor wi g tu) tz D σ H :=
  y_for (D := { D with nx := tz D }) hi e hg k
theorem y_while (Inv : Nat → Hp → L2.St → Hp → Prop) (m0 : Nat) (h0 : Inv m0 F σ H)
    (k : ∀ m F' σ' H', Inv m F' σ' H' → Ex F' H' ∧ ∃ b, EvT F' H' σ' tt b ∧
      (b = true → ∀ H2, Ex H' H2 → tu { D with nx := fun σ H => ∃ m' F, m' < m ∧ Inv m' F σ H, ct := fun σ H => ∃ m' F, m' < m ∧ Inv m' F σ H, bk := D.nx } σ' H2) ∧
      (b = false → ∀ H2, Ex H' H2 → D.nx σ' H2)) : tWhile tt tu D σ H :=
  ⟨fun m σ H => ∃ F, Inv m F σ H, ⟨m0, F, h0⟩, fun m σ' H' ⟨F', iv⟩ => by
    obtain ⟨e, b, hb, h1, h2⟩ := k m F' σ' H' iv
    refine hb.go e fun H2 e2 => ?_
    cases b with
    | true => exact ⟨_, fun σ3 H3 ⟨m', F3, hm, iv3⟩ => ⟨m', hm, F3, iv3⟩, h1 rfl H2 e2⟩
    | false => exact h2 rfl H2 e2⟩
theorem x_while (Inv : Nat → Hp → L2.St → Hp → Prop) (m0 : Nat) (h0 : Inv m0 F σ H)
    (k : ∀ m F' σ' H', Inv m F' σ' H' → Ex F' H' ∧ ∃ b, EvT F' H' σ' tt b ∧
      (b = true → ∀ H2, Ex H' H2 → tu { D with nx := fun σ H => ∃ m' F, m' < m ∧ Inv m' F σ H, ct := fun σ H => ∃ m' F, m' < m ∧ Inv m' F σ H, bk := tz D } σ' H2) ∧
      (b = false → ∀ H2, Ex H' H2 → tz D σ' H2)) : tSeq (tWhile tt tu) tz D σ H :=
  y_while (D := { D with nx := tz D }) Inv m0 h0 k

/-! ### texts -/
theorem ev_strI {i : Int} (ha : EvX K F G σ ta i) (hl : i.natAbs < 2 ^ 200) : EvX K F G σ (tCB (fun xs H Q => ∃ i, xs = [.int i] ∧ i.natAbs.log2 < 1920 ∧ Q (.str (toString i)) H) (tCons ta tNil)) (toString i : Str) :=
  ev_cb1 ha fun F1 u _ h1 H1 e1 _ Q k => by
    cases h1
    refine ⟨i, rfl, ?_, k _ F1 H1 (Stp.refl e1) rfl⟩
    exact Nat.lt_of_lt_of_le (PySem.Flt.log2_lt_of (by decide) hl) (by decide)
end

/-! ### kinds -/
def kindOf : PyData → String
  | .none => "NoneType"
  | .bool _ => "bool"
  | .int _ => "int"
  | .str _ => "str"
  | .list _ => "list"
  | .tuple _ => "tuple"
  | .dict _ => "dict"
theorem tyx_of {K : PySem.W.Frag} {H : Hp} {v : V} {d : PyData} (h : Dp K H v d) : TyX K H v (.type (kindOf d)) := by
  cases h with
  | non => exact .base .non
  | bl b => exact .base (.bl b)
  | int i => exact .base (.int i)
  | str x => exact .base (.str x)
  | lst h _ =>
    rcases h with (h | ⟨o, h⟩) | ⟨o, its, n, h, c, _⟩
    · exact .base (.lst h)
    · exact .base (.frz h)
    · exact .kList h c
  | tup h _ =>
    rcases h with (h | ⟨o, h⟩) | ⟨o, its, n, h, c, _⟩
    · exact .base (.tup h)
    · exact .fTuple h
    · exact .kTuple h c
/-- isinstance by kinds -/
def isK (d : PyData) (T : String) : Bool := (kitB (kindOf d) T).getD false
def KB (T : String) : Prop := kitB "NoneType" T ≠ none ∧ kitB "bool" T ≠ none ∧ kitB "int" T ≠ none ∧ kitB "str" T ≠ none ∧ kitB "list" T ≠ none ∧ kitB "tuple" T ≠ none ∧ kitB "dict" T ≠ none
theorem kitB_some {T : String} (h : KB T) (d : PyData) : kitB (kindOf d) T = some (isK d T) := by
  obtain ⟨h1, h2, h3, h4, h5, h6, h7⟩ := h
  unfold isK
  have g : ∀ o : Option Bool, o ≠ none → o = some (o.getD false) := fun o h => by
    cases o with
    | none => exact absurd rfl h
    | some b => rfl
  cases d <;> exact g _ (by assumption)
theorem kb_bool : KB "bool" := by unfold KB; decide +kernel
theorem kb_int : KB "int" := by unfold KB; decide +kernel
theorem kb_str : KB "str" := by unfold KB; decide +kernel
theorem kb_list : KB "list" := by unfold KB; decide +kernel
theorem kb_tuple : KB "tuple" := by unfold KB; decide +kernel
theorem isK_bool : ∀ d : PyData, isK d "bool" = match d with | .bool _ => true | _ => false := by
  have h : isK .none "bool" = false ∧ isK (.bool true) "bool" = true ∧ isK (.int 0) "bool" = false ∧ isK (.str Str.empty) "bool" = false ∧ isK (.list []) "bool" = false ∧ isK (.tuple []) "bool" = false ∧ isK (.dict []) "bool" = false := by unfold isK kindOf; decide +kernel
  intro d
  cases d <;> first | exact h.1 | exact h.2.1 | exact h.2.2.1 | exact h.2.2.2.1 | exact h.2.2.2.2.1 | exact h.2.2.2.2.2.1 | exact h.2.2.2.2.2.2
theorem isK_int : ∀ d : PyData, isK d "int" = match d with | .bool _ => true | .int _ => true | _ => false := by
  have h : isK .none "int" = false ∧ isK (.bool true) "int" = true ∧ isK (.int 0) "int" = true ∧ isK (.str Str.empty) "int" = false ∧ isK (.list []) "int" = false ∧ isK (.tuple []) "int" = false ∧ isK (.dict []) "int" = false := by unfold isK kindOf; decide +kernel
  intro d
  cases d <;> first | exact h.1 | exact h.2.1 | exact h.2.2.1 | exact h.2.2.2.1 | exact h.2.2.2.2.1 | exact h.2.2.2.2.2.1 | exact h.2.2.2.2.2.2
theorem isK_str : ∀ d : PyData, isK d "str" = match d with | .str _ => true | _ => false := by
  have h : isK .none "str" = false ∧ isK (.bool true) "str" = false ∧ isK (.int 0) "str" = false ∧ isK (.str Str.empty) "str" = true ∧ isK (.list []) "str" = false ∧ isK (.tuple []) "str" = false ∧ isK (.dict []) "str" = false := by unfold isK kindOf; decide +kernel
  intro d
  cases d <;> first | exact h.1 | exact h.2.1 | exact h.2.2.1 | exact h.2.2.2.1 | exact h.2.2.2.2.1 | exact h.2.2.2.2.2.1 | exact h.2.2.2.2.2.2
theorem isK_list : ∀ d : PyData, isK d "list" = match d with | .list _ => true | _ => false := by
  have h : isK .none "list" = false ∧ isK (.bool true) "list" = false ∧ isK (.int 0) "list" = false ∧ isK (.str Str.empty) "list" = false ∧ isK (.list []) "list" = true ∧ isK (.tuple []) "list" = false ∧ isK (.dict []) "list" = false := by unfold isK kindOf; decide +kernel
  intro d
  cases d <;> first | exact h.1 | exact h.2.1 | exact h.2.2.1 | exact h.2.2.2.1 | exact h.2.2.2.2.1 | exact h.2.2.2.2.2.1 | exact h.2.2.2.2.2.2
theorem isK_tuple : ∀ d : PyData, isK d "tuple" = match d with | .tuple _ => true | _ => false := by
  have h : isK .none "tuple" = false ∧ isK (.bool true) "tuple" = false ∧ isK (.int 0) "tuple" = false ∧ isK (.str Str.empty) "tuple" = false ∧ isK (.list []) "tuple" = false ∧ isK (.tuple []) "tuple" = true ∧ isK (.dict []) "tuple" = false := by unfold isK kindOf; decide +kernel
  intro d
  cases d <;> first | exact h.1 | exact h.2.1 | exact h.2.2.1 | exact h.2.2.2.1 | exact h.2.2.2.2.1 | exact h.2.2.2.2.2.1 | exact h.2.2.2.2.2.2
/-- data of any kind -/
instance : Rep PyData := ⟨fun K F v d => Dp K F v d, fun e h => dp_mono e h⟩
section
variable {K : PySem.W.Frag} {F F' G H H' : Hp} {σ : L2.St} {ta tb tc te tl : TE} {tt : TT} {α : Type} [Rep α] [DecidableEq α] [RepD α]
theorem EvX.dat {x : α} (h : EvX K F G σ te x) : EvX K F G σ te (toD x) := fun H e g Q k => h H e g Q fun v F' H' s r => k v F' H' s (RepD.dp r)
theorem ev_isi {d : PyData} {T : String} (kb : KB T) (ha : EvX K F G σ ta d) : EvX K F G σ (tCB (rIsi K) (tCons ta (tCons (tC (.ty T)) tNil))) (isK d T) := fun H e g Q k =>
  ha H e g _ fun u F1 H1 s1 r1 => ⟨u, .ty T, .type (kindOf d), .type T, isK d T, rfl, .ty T, tyx_of (dp_mono s1.fh r1), kit_ty (kitB_some kb d), k _ F1 H1 s1 rfl⟩
theorem ev_eqP {d e : PyData} (hd : SeqAt.shaped d = true) (he : SeqAt.shaped e = true) (ha : EvX K F G σ ta d) (hb : EvX K F G σ tb e) : EvX K F G σ (tOp (rEqA K) ta tb) (PyData.eqv d e) :=
  ev_op ha hb fun F1 u w _ h1 h2 H1 e1 _ Q k => .inr ⟨d, e, dp_mono e1 h1, dp_mono e1 h2, hd, he, k _ F1 H1 (Stp.refl e1) rfl⟩
end
/-- alike, part by part, each of its own kind -/
def datList : PyData → List PyData
  | .list l => l
  | .tuple l => l
  | _ => []
mutual
def alike : PyData → PyData → Bool
  | .none, .none => true
  | .bool a, .bool b => a == b
  | .int a, .int b => a == b
  | .str a, .str b => a == b
  | .list a, .list b => alikeAll a b
  | .tuple a, .tuple b => alikeAll a b
  | _, _ => false
def alikeAll : List PyData → List PyData → Bool
  | [], [] => true
  | a :: l, b :: m => alike a b && alikeAll l m
  | _, _ => false
end
class AlikeD (α : Type) [Rep α] [DecidableEq α] [RepD α] : Prop where
  al : ∀ x y : α, alike (toD x) (toD y) = decide (x = y)
instance : AlikeD Int := ⟨fun x y => by show alike (.int x) (.int y) = _; simp [alike, Bool.beq_eq_decide_eq]⟩
instance : AlikeD Bool := ⟨fun x y => by show alike (.bool x) (.bool y) = _; simp [alike, Bool.beq_eq_decide_eq]⟩
instance : AlikeD Str := ⟨fun x y => by
  show alike (.str x) (.str y) = _
  simp only [alike]
  by_cases h : x = y
  · subst h; simp
  · rw [decide_eq_false h]; exact beq_eq_false_iff_ne.mpr h⟩
section
variable {α β : Type} [Rep α] [DecidableEq α] [RepD α] [AlikeD α] [Rep β] [DecidableEq β] [RepD β] [AlikeD β]
theorem alikeAll_of : ∀ xs ys : List α, alikeAll (xs.map toD) (ys.map toD) = decide (xs = ys)
  | [], [] => by simp [alikeAll]
  | [], y :: ys => by simp [alikeAll]
  | x :: xs, [] => by simp [alikeAll]
  | x :: xs, y :: ys => by simp only [List.map_cons, alikeAll, AlikeD.al, alikeAll_of xs ys, List.cons.injEq, Bool.decide_and]
instance : AlikeD (List α) := ⟨fun x y => by show alike (.list (x.map toD)) (.list (y.map toD)) = _; simp only [alike]; exact alikeAll_of x y⟩
instance : AlikeD (α × β) := ⟨fun x y => by
  obtain ⟨a, b⟩ := x
  obtain ⟨c, d⟩ := y
  show alike (.tuple [toD a, toD b]) (.tuple [toD c, toD d]) = _
  simp only [alike, alikeAll, AlikeD.al, Bool.and_true, Prod.mk.injEq, Bool.decide_and]⟩
end
end L3

namespace L3
open PySem L2 Evl
open Rep (R)
open RepD (toD)
theorem intBits_le {x : Int} {k : Nat} (h : x.natAbs < 2 ^ k) (h0 : 0 < k) : Builtin.Int.intBits x ≤ k := by
  unfold Builtin.Int.intBits
  split
  · omega
  · have := PySem.Flt.log2_lt_of h0 h
    omega
theorem pow_ok {x : Int} {k n : Nat} (h : x.natAbs < 2 ^ k) (h0 : 0 < k) (hn : k * n ≤ 2 ^ 27) : CPowW x (n : Int) := by
  refine ⟨by omega, ?_⟩
  have h1 := intBits_le h h0
  have h2 : Builtin.Int.intBits x * n ≤ k * n := Nat.mul_le_mul_right _ h1
  have h3 : Builtin.Int.intBits x * n ≤ 2 ^ 27 := Nat.le_trans h2 hn
  calc ((Builtin.Int.intBits x : Nat) : Int) * (n : Int) = ((Builtin.Int.intBits x * n : Nat) : Int) := by rw [Int.natCast_mul]
    _ ≤ ((2 ^ 27 : Nat) : Int) := Int.ofNat_le.mpr h3
    _ = 2 ^ 27 := by norm_cast
section
variable {K : PySem.W.Frag} {F F' G H H' : Hp} {σ : L2.St} {ta tb tc te tl : TE} {tt : TT}
variable {α β γ δ : Type} [Rep α] [Rep β] [Rep γ] [Rep δ] {x : α} {y : β} {z : γ} {E : XK}
theorem ev_chain {r r' : R2} {a b : Bool} (ha : EvX K F G σ ta x) (hb : EvX K F G σ tb y) (hc : EvX K F G σ tc z)
    (hr : ∀ F1 u w, Ex F F1 → R K F1 u x → R K F1 w y → ∀ H1, Ex F1 H1 → Ex G H1 → ∀ Q : VK, (∀ H2, Ex H1 H2 → Q (.bl a) H2) → r u w H1 Q)
    (hr' : a = true → ∀ F1 u w, Ex F F1 → R K F1 u y → R K F1 w z → ∀ H1, Ex F1 H1 → Ex G H1 → ∀ Q : VK, (∀ H2, Ex H1 H2 → Q (.bl b) H2) → r' u w H1 Q) :
    EvX K F G σ (tChain r r' ta tb tc) (a && b) := fun H e g Q k =>
  ha H e g _ fun u F1 H1 s1 r1 => (hb.up s1.ff) H1 s1.fh (g.trans s1.hh) _ fun w F2 H2 s2 r2 =>
    hr F2 u w (s1.ff.trans s2.ff) (Rep.mono s2.ff r1) r2 H2 s2.fh ((g.trans s1.hh).trans s2.hh) _ fun H3 e3 => ⟨a, rfl, by
      have s3 := (s1.trans s2).ext e3
      cases a with
      | false => exact k _ F2 H3 s3 rfl
      | true =>
        show tc σ H3 _
        refine (hc.up s3.ff) H3 s3.fh (g.trans s3.hh) _ fun t F4 H4 s4 r4 => ?_
        exact hr' rfl F4 w t (s3.ff.trans s4.ff) (Rep.mono s4.ff r2) r4 H4 s4.fh ((g.trans s3.hh).trans s4.hh) Q fun H5 e5 => k _ F4 H5 ((s3.trans s4).ext e5) rfl⟩
theorem ev_ltle {i j l : Int} (ha : EvX K F G σ ta i) (hb : EvX K F G σ tb j) (hc : EvX K F G σ tc l) :
    EvX K F G σ (tChain (rI0 fun i j => .bl (decide (i < j))) (rI0 fun i j => .bl (decide (i ≤ j))) ta tb tc) (decide (i < j) && decide (j ≤ l)) :=
  ev_chain ha hb hc (fun F1 u w _ h1 h2 H1 e1 _ Q k => ⟨i, j, h1, h2, k H1 (Ex.refl _)⟩) (fun _ F1 u w _ h1 h2 H1 e1 _ Q k => ⟨j, l, h1, h2, k H1 (Ex.refl _)⟩)
theorem ev_lelt {i j l : Int} (ha : EvX K F G σ ta i) (hb : EvX K F G σ tb j) (hc : EvX K F G σ tc l) :
    EvX K F G σ (tChain (rI0 fun i j => .bl (decide (i ≤ j))) (rI0 fun i j => .bl (decide (i < j))) ta tb tc) (decide (i ≤ j) && decide (j < l)) :=
  ev_chain ha hb hc (fun F1 u w _ h1 h2 H1 e1 _ Q k => ⟨i, j, h1, h2, k H1 (Ex.refl _)⟩) (fun _ F1 u w _ h1 h2 H1 e1 _ Q k => ⟨j, l, h1, h2, k H1 (Ex.refl _)⟩)
/-! None -/
theorem ev_isN {o : Option α} (hn : ∀ F' v (x : α), R K F' v x → v ≠ .non) (ha : EvX K F G σ ta o) : EvX K F G σ (tOp (fun x y H Q => y = .non ∧ Q (.bl (decide (x = .non))) H) ta (tC .non)) o.isNone := fun H e g Q k =>
  ha H e g _ fun u F1 H1 s1 r1 => ⟨rfl, k _ F1 H1 s1 (by
    cases o with
    | none => cases (show u = .non from r1); rfl
    | some x => show V.bl _ = V.bl false; rw [decide_eq_false (hn F1 u x r1)])⟩
theorem nn_int {F' : Hp} {v : V} {x : Int} (h : R K F' v x) : v ≠ .non := fun q => by cases h; cases q
theorem nn_list {F' : Hp} {v : V} {x : List α} (h : R K F' v x) : v ≠ .non := fun q => by obtain ⟨a, vs, rfl, _⟩ := h; cases q
theorem nn_pair {F' : Hp} {v : V} {x : α × β} (h : R K F' v x) : v ≠ .non := fun q => by obtain ⟨a, u, w, rfl, _⟩ := h; cases q
/-! texts -/
def signs (s : Str) : List Str := (s.cps.toList).map fun c => (⟨#[c]⟩ : Str)
theorem it_str {s : Str} (h : EvX K F G σ tl s) : IT K F G σ (iStr tl) (signs s) := fun H e g Rr k =>
  h H e g _ fun v F' H' st r => by
    cases r
    have hl : (signs s).length = s.cps.size := by simp [signs]
    refine ⟨s, rfl, k _ F' H' st ⟨fun _ => True, _, by rw [hl]; exact walk_str, fun _ _ => trivial, fun i H2 v H3 e2 hi y => ?_⟩⟩
    obtain ⟨rfl, c, hc, rfl⟩ := y
    refine ⟨⟨#[c]⟩, ?_, F', Stp.refl e2, rfl⟩
    unfold signs
    rw [List.getElem?_map]
    have : (s.cps.toList)[i]? = some c := by rw [← hc]; simp
    rw [this]; rfl
theorem ev_inS {c : Nat} {s : Str} (ha : EvX K F G σ ta (⟨#[c]⟩ : Str)) (hb : EvX K F G σ tb s) : EvX K F G σ (tOp (rInA K) ta tb) (decide (c ∈ s.cps.toList)) :=
  ev_op ha hb fun F1 u w _ h1 h2 H1 e1 _ Q k => .inr (.inr (.inr ⟨c, s, h1, h2, k _ F1 H1 (Stp.refl e1) rfl⟩))
theorem ev_ixS {s : Str} {i : Int} {c : Nat} (ha : EvX K F G σ ta s) (hb : EvX K F G σ tb i) (hl : s.length ≤ sizeLine) (hc : atI (s.cps.toList) i = some c) : EvX K F G σ (tIx K ta tb) (⟨#[c]⟩ : Str) :=
  EvX.or1 (ev_op ha hb fun F1 u w _ h1 h2 H1 e1 _ Q k => .inr (.inr ⟨s, i, c, h1, h2, hl, hc, k _ F1 H1 (Stp.refl e1) rfl⟩))
theorem ev_m1 {r : V → List V → Hp → VK → Prop} {s : Str} (ha : EvX K F G σ ta s) (hb : EvX K F G σ tb y)
    (hr : ∀ F1 w, Ex F F1 → R K F1 w y → ∀ H1, Ex F1 H1 → Ex G H1 → ∀ Q : VK, (∀ v F2 H2, Stp F1 H1 F2 H2 → R K F2 v z → Q v H2) → r (.str s) [w] H1 Q) :
    EvX K F G σ (tM1 r ta tb) z := fun H e g Q k =>
  ha H e g _ fun u F1 H1 s1 r1 => ⟨⟨s, r1⟩, (hb.up s1.ff) H1 s1.fh (g.trans s1.hh) _ fun w F2 H2 s2 r2 => by
    cases r1
    exact hr F2 w (s1.ff.trans s2.ff) r2 H2 s2.fh ((g.trans s1.hh).trans s2.hh) Q fun v F3 H3 s3 r3 => k v F3 H3 ((s1.trans s2).trans s3) r3⟩
theorem ev_join {s : Str} {ys : List Str} (ha : EvX K F G σ ta s) (hb : EvX K F G σ tb ys) (hz : (ys.map (·.length)).sum + ys.length * s.length ≤ 16777216) :
    EvX K F G σ (tM1 (fun x xs H Q => ∃ a p, ∃ ys : List Str, x = .str a ∧ xs = [.ref p] ∧ (SqL K H p (ys.map V.str) ∨ SqT K H p (ys.map V.str)) ∧
      (ys.map (·.length)).sum + ys.length * a.length ≤ 16777216 ∧ Q (.str (Txt.join a ys)) H) ta tb) (Txt.join s ys) :=
  ev_m1 ha hb fun F1 w _ r H1 e1 _ Q k => by
    obtain ⟨p, vs, rfl, hs, hv⟩ := r
    have := all2_strs.mp hv
    subst this
    exact ⟨s, p, ys, rfl, rfl, .inl (SqL.of (e1 _ _ hs)), hz, k _ F1 H1 (Stp.refl e1) rfl⟩
theorem ev_split {s t : Str} (ha : EvX K F G σ ta s) (hb : EvX K F G σ tb t) (h0 : (t.length == 0) = false) (hz : s.length + 2 ≤ sizeLine) :
    EvX K F G σ (tM1 (fun x xs H Q => ∃ a b, x = .str a ∧ xs = [.str b] ∧ (b.length == 0) = false ∧ a.length + 2 ≤ sizeLine ∧ rNewStrs (Txt.split a b) H Q) ta tb) (Txt.split s t) :=
  ev_m1 ha hb fun F1 w _ r H1 e1 _ Q k => by
    cases r
    exact ⟨s, t, rfl, rfl, h0, hz, fun p hp => k _ _ _ ((Stp.refl e1).new hp) ⟨p, _, rfl, upd_same, all2_strs.mpr rfl⟩⟩
theorem ev_intS {s : Str} {n : Int} (ha : EvX K F G σ ta s) (h1 : PySem.intText? s = some n) (h2 : s.length ≤ 640) :
    EvX K F G σ (tCB (fun xs H Q => ∃ a n, xs = [.str a] ∧ PySem.intText? a = some n ∧ a.length ≤ 640 ∧ Q (.int n) H) (tCons ta tNil)) n :=
  ev_cb1 ha fun F1 u _ r H1 e1 _ Q k => by
    cases r
    exact ⟨s, n, rfl, h1, h2, k _ F1 H1 (Stp.refl e1) rfl⟩
theorem sl_any_ev {xs : List α} {hi : Option Int} {tho : TO} (ha : EvX K F G σ ta xs) (hh : ∀ H, Ex F H → Ex G H → ∀ Q : Option Int → Hp → Prop, (∀ H', Ex H H' → Q hi H') → tho σ H Q) :
    EvN K F G σ (tSl (rSlA K) ta tNoPart tho) (xs.take (HT.sIx xs.length xs.length hi)) := fun H e g Q k =>
  ha H e g _ fun u F1 H1 s1 r1 => hh H1 (e.trans s1.hh) (g.trans s1.hh) _ fun H2 e2 => by
    obtain ⟨a, vs, rfl, hs, hv⟩ := r1
    refine .inl ⟨a, vs, rfl, SqL.of ((s1.fh.trans e2) _ _ hs), fun p hp => k p _ _ _ ((s1.ext e2).own hp) (Ex.dom (s1.hh.trans e2) hp) (fresh_back (s1.fh.trans e2) hp) upd_same ?_⟩
    unfold cutV
    simp only [HT.sIx_none, List.drop_zero, Nat.sub_zero]
    rw [hv.len]
    exact hv.take _
theorem sl_scr {sc : Scr} {hi : Option Int} {tho : TO} (ha : EvX K F G σ ta sc) (hh : ∀ H, Ex F H → Ex G H → ∀ Q : Option Int → Hp → Prop, (∀ H', Ex H H' → Q hi H') → tho σ H Q) :
    EvN K F G σ (tSl (rSlA K) ta tNoPart tho) (sc.ns.take (HT.sIx sc.ns.length sc.ns.length hi)) := fun H e g Q k =>
  ha H e g _ fun u F1 H1 s1 r1 => hh H1 (e.trans s1.hh) (g.trans s1.hh) _ fun H2 e2 => by
    obtain ⟨a, rfl, hs⟩ := r1
    refine .inl ⟨a, _, rfl, ex_l (s1.fh.trans e2) hs, fun p hp => k p _ _ _ ((s1.ext e2).own hp) (Ex.dom (s1.hh.trans e2) hp) (fresh_back (s1.fh.trans e2) hp) upd_same ?_⟩
    unfold cutV
    simp only [HT.sIx_none, List.drop_zero, Nat.sub_zero, List.length_map]
    refine all2_ints.mpr ?_
    rw [List.map_take]
theorem ev_lenScr {sc : Scr} (ha : EvX K F G σ ta sc) : EvX K F G σ (tCB (rLenA K) (tCons ta tNil)) (sc.ns.length : Int) :=
  ev_cb1 ha fun F1 u _ h1 H1 e1 _ Q k => by
    obtain ⟨a, rfl, hs⟩ := h1
    exact .inl ⟨_, sc.ns.length, rfl, .inl ⟨_, ex_l e1 hs, by simp⟩, k _ F1 H1 (Stp.refl e1) rfl⟩
theorem ev_ixScr {sc : Scr} {i x : Int} (ha : EvX K F G σ ta sc) (hb : EvX K F G σ tb i) (hx : atI sc.ns i = some x) : EvX K F G σ (tIx K ta tb) x := by
  refine EvX.or1 (ev_op ha hb fun F1 u w _ h1 h2 H1 e1 _ Q k => ?_)
  obtain ⟨a, rfl, hs⟩ := h1
  have hv : All2 (R K F1) (sc.ns.map V.int) sc.ns := all2_ints.mpr rfl
  obtain ⟨v, hv1, hv2⟩ := ixN_all2 hv hx
  exact .inl ⟨a, _, i, v, rfl, h2, ex_l e1 hs, hv1, k _ F1 H1 (Stp.refl e1) hv2⟩
theorem part_int {i : Int} (h : EvX K F G σ te i) : ∀ H, Ex F H → Ex G H → ∀ Q : Option Int → Hp → Prop, (∀ H', Ex H H' → Q (some i) H') → tPart te σ H Q := fun H e g Q k =>
  h H e g _ fun v F1 H1 s1 r1 => ⟨i, r1, k H1 s1.hh⟩
end
theorem seq0 {n : Nat} (h : 0 < n) : seqIndex? 0 n = some 0 := (ixN_seq (by unfold ixN; rw [if_pos (by omega), if_pos (by omega)]; rfl)).1
theorem seqN {n j : Nat} (h : j < n) : seqIndex? (j : Int) n = some j := (ixN_seq (ixN_nat h)).1
theorem all2_unsome {K : PySem.W.Frag} {F : Hp} {α : Type} [Rep α] : ∀ {vs : List V} {xs : List α}, All2 (R K F) vs (xs.map some) → All2 (R K F) vs xs
  | _, [], h => by cases h; exact .nil
  | _, x :: xs, h => by
    cases h with
    | cons p t => exact .cons p (all2_unsome t)
/-! ### draws: a list of a list and three numbers, changed by each draw -/
def Tray (F H : Hp) (t g : Addr) (n : Int) : Prop := F t = none ∧ F g = none ∧ t ≠ g ∧ ∃ (ds : List Int) (c fold cnt : Int),
  H t = some (.lst [.ref g, .int c, .int fold, .int cnt]) ∧ H g = some (.lst (ds.map V.int)) ∧ 0 ≤ fold ∧ fold < 2 ^ 61 ∧ 0 ≤ cnt ∧ cnt ≤ n
def TM (t g : Addr) : Addr → Prop := fun a => a = t ∨ a = g
theorem Tray.stp {F H F' H' : Hp} {t g : Addr} {n : Int} (T : Tray F H t g n) (s : Stp F H F' H') : Tray F' H' t g n := by
  obtain ⟨f1, f2, ne, ds, c, fold, cnt, h1, h2, h3⟩ := T
  exact ⟨(s.nw _ _ h1).trans f1, (s.nw _ _ h2).trans f2, ne, ds, c, fold, cnt, s.hh _ _ h1, s.hh _ _ h2, h3⟩
theorem Tray.le {F H : Hp} {t g : Addr} {n m : Int} (T : Tray F H t g n) (h : n ≤ m) : Tray F H t g m := by
  obtain ⟨f1, f2, ne, ds, c, fold, cnt, h1, h2, h3, h4, h5, h6⟩ := T
  exact ⟨f1, f2, ne, ds, c, fold, cnt, h1, h2, h3, h4, h5, by omega⟩
/-- a draw: some number below many -/
def sp_draw : Sp := fun vs H Q _ => ∃ F t g n many, vs = [.ref t, .int many] ∧ Ex F H ∧ Tray F H t g n ∧ n ≤ 10 ^ 9 ∧ 0 < many ∧ many ≤ 10 ^ 60 ∧
  ∀ r H', 0 ≤ r → r < many → StpM (TM t g) F H F H' → Tray F H' t g (n + 1) → Q (.int r) H'
end L3

namespace L3
open PySem L2 Evl
open Rep (R)
open RepD (toD)
section
variable {K : PySem.W.Frag} {F F' G H H' : Hp} {σ : L2.St} {ta tb tc te tl : TE} {tt : TT} {E : XK}
theorem dpAll_all2 : ∀ {vs : List V} {ds : List PyData}, DpAll K F vs ds → All2 (R K F) vs ds
  | _, _, .nil => .nil
  | _, _, .cons h t => .cons h (dpAll_all2 t)
theorem all2_dpAll : ∀ {vs : List V} {ds : List PyData}, All2 (R K F) vs ds → DpAll K F vs ds
  | _, _, .nil => .nil
  | _, _, .cons h t => .cons h (all2_dpAll t)
def isNone : PyData → Bool
  | .none => true
  | _ => false
theorem ev_isNP {d : PyData} (ha : EvX K F G σ ta d) : EvX K F G σ (tOp (fun x y H Q => y = .non ∧ Q (.bl (decide (x = .non))) H) ta (tC .non)) (isNone d) := fun H e g Q k =>
  ha H e g _ fun u F1 H1 s1 r1 => ⟨rfl, k _ F1 H1 s1 (by cases r1 <;> rfl)⟩
theorem ev_lenP {d : PyData} {l : List PyData} (hd : d = .list l ∨ d = .tuple l) (ha : EvX K F G σ ta d) : EvX K F G σ (tCB (rLenA K) (tCons ta tNil)) (l.length : Int) :=
  ev_cb1 ha fun F1 u _ h1 H1 e1 _ Q k => by
    rcases hd with rfl | rfl
    · cases h1 with
      | lst hs ha =>
        rename_i a xs
        have hl : xs.length = l.length := (dpAll_all2 ha).len
        exact .inl ⟨_, l.length, rfl, .inl ⟨xs, ex_l e1 hs, hl.symm⟩, k _ F1 H1 (Stp.refl e1) rfl⟩
    · cases h1 with
      | tup hs ha =>
        rename_i a xs
        have hl : xs.length = l.length := (dpAll_all2 ha).len
        exact .inl ⟨_, l.length, rfl, .inr ⟨xs, ex_t e1 hs, hl.symm⟩, k _ F1 H1 (Stp.refl e1) rfl⟩
theorem ev_ixP {d x : PyData} {l : List PyData} {i : Int} (hd : d = .list l ∨ d = .tuple l) (ha : EvX K F G σ ta d) (hb : EvX K F G σ tb i) (hx : atI l i = some x) : EvX K F G σ (tIx K ta tb) x := by
  refine EvX.or1 (ev_op ha hb fun F1 u w _ h1 h2 H1 e1 _ Q k => ?_)
  rcases hd with rfl | rfl
  · cases h1 with
    | lst hs ha =>
      rename_i a xs
      obtain ⟨v, hv1, hv2⟩ := ixN_all2 (dpAll_all2 ha) hx
      exact .inl ⟨a, xs, i, v, rfl, h2, ex_l e1 hs, hv1, k _ F1 H1 (Stp.refl e1) hv2⟩
  · cases h1 with
    | tup hs ha =>
      rename_i a xs
      obtain ⟨v, hv1, hv2⟩ := ixN_all2 (dpAll_all2 ha) hx
      exact .inr (.inl ⟨a, xs, i, v, rfl, h2, ex_t e1 hs, hv1, k _ F1 H1 (Stp.refl e1) hv2⟩)
theorem EvL.dp {xs : List PyData} {tr : TA} (h : EvL K F G σ tr xs) (hl : xs.length ≤ 100000) : EvX K F G σ (tLst tr) (PyData.list xs) := fun H e g Q k =>
  (ev_lst h hl) H e g Q fun v F' H' s r => k v F' H' s (by
    obtain ⟨a, vs, rfl, h1, h2⟩ := r
    exact .lst (SqL.of h1) (all2_dpAll h2))
end
theorem alikeAll_len : ∀ {l m : List PyData}, alikeAll l m = true → l.length = m.length
  | [], [], _ => rfl
  | [], _ :: _, h => by simp [alikeAll] at h
  | _ :: _, [], h => by simp [alikeAll] at h
  | a :: l, b :: m, h => by
    simp only [alikeAll, Bool.and_eq_true] at h
    simp [alikeAll_len h.2]
theorem alikeAll_of_all : ∀ {l m : List PyData}, l.length = m.length → (∀ (i : Nat) a b, l[i]? = some a → m[i]? = some b → alike a b = true) → alikeAll l m = true
  | [], [], _, _ => rfl
  | a :: l, b :: m, h, k => by
    simp only [alikeAll, Bool.and_eq_true]
    exact ⟨k 0 a b rfl rfl, alikeAll_of_all (by simpa using h) fun i x y h1 h2 => k (i + 1) x y (by simpa using h1) (by simpa using h2)⟩
theorem alike_of_all : ∀ {l m : List PyData} {i : Nat} {a b : PyData}, alikeAll l m = true → l[i]? = some a → m[i]? = some b → alike a b = true
  | [], _, _, _, _, _, h1, _ => by simp at h1
  | _ :: _, [], _, _, _, _, _, h2 => by simp at h2
  | x :: l, y :: m, 0, a, b, h, h1, h2 => by
    simp only [alikeAll, Bool.and_eq_true] at h
    simp at h1 h2
    subst h1 h2
    exact h.1
  | x :: l, y :: m, i + 1, a, b, h, h1, h2 => by
    simp only [alikeAll, Bool.and_eq_true] at h
    exact alike_of_all (i := i) h.2 (by simpa using h1) (by simpa using h2)
theorem depthAll_get : ∀ {l : List PyData} {i : Nat} {a : PyData}, l[i]? = some a → a.depth ≤ PyData.depthAll l
  | [], _, _, h => by simp at h
  | x :: l, 0, a, h => by simp at h; subst h; simp only [PyData.depthAll]; omega
  | x :: l, i + 1, a, h => by
    have := depthAll_get (l := l) (i := i) (a := a) (by simpa using h)
    simp only [PyData.depthAll]
    omega
mutual
/-- no dict in it -/
def noD : PyData → Bool
  | .list l => noDAll l
  | .tuple l => noDAll l
  | .dict _ => false
  | _ => true
def noDAll : List PyData → Bool
  | [] => true
  | x :: l => noD x && noDAll l
end
mutual
theorem alike_refl : ∀ d : PyData, noD d = true → alike d d = true
  | .none, _ => by simp [alike]
  | .bool b, _ => by simp [alike]
  | .int b, _ => by simp [alike]
  | .str b, _ => by simp [alike]
  | .list l, h => by simp only [alike]; exact alikeAll_refl l (by simpa [noD] using h)
  | .tuple l, h => by simp only [alike]; exact alikeAll_refl l (by simpa [noD] using h)
  | .dict _, h => by simp [noD] at h
theorem alikeAll_refl : ∀ l : List PyData, noDAll l = true → alikeAll l l = true
  | [], _ => by simp [alikeAll]
  | d :: l, h => by
    simp only [noDAll, Bool.and_eq_true] at h
    simp only [alikeAll, Bool.and_eq_true]
    exact ⟨alike_refl d h.1, alikeAll_refl l h.2⟩
end
theorem lay_get : ∀ {l : List PyData} {i : Nat} {a : PyData}, noDAll l = true → l[i]? = some a → noD a = true
  | [], _, _, _, h => by simp at h
  | x :: l, 0, a, hl, h => by simp at h; subst h; simp only [noDAll, Bool.and_eq_true] at hl; exact hl.1
  | x :: l, i + 1, a, hl, h => by
    simp only [noDAll, Bool.and_eq_true] at hl
    exact lay_get (l := l) (i := i) hl.2 (by simpa using h)

mutual
def dsz : PyData → Nat
  | .list l => dszAll l
  | .tuple l => dszAll l
  | _ => 0
def dszAll : List PyData → Nat
  | [] => 0
  | x :: l => dsz x + 1 + dszAll l
end
theorem len_dsz : ∀ l : List PyData, l.length ≤ dszAll l
  | [] => Nat.zero_le _
  | x :: l => by have := len_dsz l; simp only [List.length_cons, dszAll]; omega
theorem dsz_get : ∀ {l : List PyData} {i : Nat} {a : PyData}, l[i]? = some a → dsz a ≤ dszAll l
  | [], _, _, h => by simp at h
  | x :: l, 0, a, h => by simp at h; subst h; simp only [dszAll]; omega
  | x :: l, i + 1, a, h => by
    have := dsz_get (l := l) (i := i) (a := a) (by simpa using h)
    simp only [dszAll]
    omega
theorem dszAll_map {α : Type} (f : α → PyData) (b : Nat) (h : ∀ x, dsz (f x) ≤ b) : ∀ l : List α, dszAll (l.map f) ≤ (b + 1) * l.length
  | [] => by simp [dszAll]
  | x :: l => by
    have h1 := dszAll_map f b h l
    have h2 := h x
    simp only [List.map_cons, dszAll, List.length_cons, Nat.mul_add, Nat.mul_one]
    omega
theorem noDAll_map {α : Type} (f : α → PyData) (h : ∀ x, noD (f x) = true) : ∀ l : List α, noDAll (l.map f) = true
  | [] => rfl
  | x :: l => by simp only [List.map_cons, noDAll, h x, noDAll_map f h l, Bool.and_self]
theorem ints_noD (xs : List Int) : noD (toD xs) = true := noDAll_map toD (fun i => rfl) xs
theorem ints_dsz (xs : List Int) : dsz (toD xs) ≤ xs.length := by
  have := dszAll_map (fun i : Int => toD i) 0 (fun i => by simp [toD, dsz]) xs
  show dszAll (xs.map toD) ≤ _
  simpa using this
end L3

namespace L3
open PySem L2 Evl TL
open Rep (R)
open RepD (toD)
/-! ### numbers as texts -/
def digs (w : Str) : Bool := w.cps.toList.all fun c => decide (48 ≤ c) && decide (c ≤ 57)
def numOk (w : Str) : Bool := (decide (0 < w.length) && decide (w.length ≤ 9)) && digs w && (!decide (atI w.cps.toList 0 = some 48) || decide (w.cps.toList = [48]))
def numIn (w : Str) : Option Int := if numOk w then some ((NumText.digitsVal w.cps.toList : Nat) : Int) else none
theorem fig_mem (c : Nat) : decide (c ∈ ("0123456789" : Str).cps.toList) = (decide (48 ≤ c) && decide (c ≤ 57)) := by
  have e : ("0123456789" : Str).cps.toList = [48, 49, 50, 51, 52, 53, 54, 55, 56, 57] := by decide +kernel
  rw [e, ← Bool.decide_and]
  refine decide_eq_decide.mpr ?_
  simp only [List.mem_cons, List.not_mem_nil, or_false]
  omega
theorem digs_all {w : Str} (h : digs w = true) : NumText.AllDigits w.cps.toList := fun c hc => by
  have := List.all_eq_true.mp h c hc
  simpa [Bool.and_eq_true] using this
def numsIn (ws : List Str) : Option (List Int) := if none ∈ ws.map numIn then none else some (ws.map fun w => (numIn w).getD 0)
theorem tl_str (n : Nat) : (toString (n : Int) : Str).cps.toList = numL n := TL.tl_num n
theorem atI_zero {α : Type} (l : List α) : atI l 0 = l[0]? := by
  cases l with
  | nil => rfl
  | cons a r => exact atI_nat (j := 0) rfl
theorem numOk_str {n : Nat} (h : n < 10 ^ 9) : numOk (toString (n : Int) : Str) = true := by
  have h1 : (toString (n : Int) : Str).length = (numL n).length := by rw [← tl_str n]; simp [Str.length]
  have h2 := numL_len (k := 9) (by decide) h
  have h3 := List.length_pos_iff.mpr (numL_ne n)
  have h4 := numL_digits n
  unfold numOk digs
  rw [h1, tl_str]
  simp only [Bool.and_eq_true, decide_eq_true_eq, List.all_eq_true, Bool.or_eq_true, Bool.not_eq_true', decide_eq_false_iff_not]
  refine ⟨⟨⟨h3, h2⟩, h4⟩, ?_⟩
  by_cases q : n = 0
  · right; subst q; rw [numL_lt (by decide)]
  · left
    intro z
    have hv : ∀ m : Nat, 0 < m → atI (numL m) 0 ≠ some 48 := by
      intro m
      induction m using Nat.strongRecOn with
      | _ m ih =>
        intro hm
        by_cases hl : m < 10
        · rw [numL_lt hl]
          show some (48 + m) ≠ some 48
          intro e
          have := Option.some.inj e
          omega
        · rw [numL_step (by omega)]
          have hp := List.length_pos_iff.mpr (numL_ne (m / 10))
          have q2 := ih (m / 10) (by omega) (by omega)
          intro e
          apply q2
          rw [atI_zero] at e ⊢
          rw [List.getElem?_append_left hp] at e
          exact e
    exact hv n (by omega) z
theorem numIn_str {n : Nat} (h : n < 10 ^ 9) : numIn (toString (n : Int) : Str) = some (n : Int) := by
  unfold numIn
  rw [if_pos (numOk_str h), tl_str, numL_val]
end L3
namespace L3
open PySem L2 Evl TL
open Rep (R)
open RepD (toD)
theorem sum_le : ∀ {l : List Nat} {b : Nat}, (∀ x ∈ l, x ≤ b) → l.sum ≤ l.length * b
  | [], _, _ => by simp
  | x :: l, b, h => by
    have h1 := sum_le (l := l) (b := b) fun y hy => h y (List.mem_cons_of_mem _ hy)
    have h2 := h x List.mem_cons_self
    simp only [List.sum_cons, List.length_cons, Nat.add_mul]
    omega
theorem str_len {x : Int} (h : 0 ≤ x ∧ x < 10 ^ 9) : (toString x : Str).length ≤ 9 := by
  obtain ⟨n, rfl⟩ := Int.eq_ofNat_of_zero_le h.1
  have h1 : (toString (n : Int) : Str).length = (numL n).length := by rw [← tl_str n]; simp [Str.length]
  rw [h1]
  exact numL_len (by decide) (by omega)
theorem join_size {xs : List Int} (hl : xs.length ≤ 10000) (hx : ∀ x ∈ xs, 0 ≤ x ∧ x < 10 ^ 9) :
    ((xs.map fun x => (toString x : Str)).map (·.length)).sum + (xs.map fun x => (toString x : Str)).length * (" " : Str).length ≤ 16777216 := by
  have h1 : ((xs.map fun x => (toString x : Str)).map (·.length)).sum ≤ xs.length * 9 := by
    refine Nat.le_trans (sum_le (b := 9) fun y hy => ?_) (by simp)
    obtain ⟨z, hz, rfl⟩ := List.mem_map.mp hy
    obtain ⟨x, hm, rfl⟩ := List.mem_map.mp hz
    exact str_len (hx x hm)
  have h2 : (" " : Str).length = 1 := by decide +kernel
  rw [h2, List.length_map]
  omega
theorem join_len {xs : List Int} (hl : xs.length ≤ 9000) (hx : ∀ x ∈ xs, 0 ≤ x ∧ x < 10 ^ 9) : (Txt.join " " (xs.map fun x => (toString x : Str))).length ≤ 90000 := by
  have gen : ∀ l : List (List Nat), (joinL [32] l).length ≤ (l.map (·.length)).sum + l.length := by
    intro l
    induction l with
    | nil => simp [joinL]
    | cons a r ih =>
      cases r with
      | nil => simp [joinL]
      | cons b r => simp only [joinL, List.length_append, List.map_cons, List.sum_cons, List.length_cons, List.length_nil] at ih ⊢; omega
  have h0 : (" " : Str).cps.toList = [32] := by decide +kernel
  have h1 : (Txt.join " " (xs.map fun x => (toString x : Str))).length = (joinL [32] ((xs.map fun x => (toString x : Str)).map tl)).length := by
    rw [join_eq, ← h0, ← tl_join]; simp [Str.length]
  rw [h1]
  refine Nat.le_trans (gen _) ?_
  have h2 : (((xs.map fun x => (toString x : Str)).map tl).map (·.length)).sum ≤ xs.length * 9 := by
    refine Nat.le_trans (sum_le (b := 9) fun y hy => ?_) (by simp)
    obtain ⟨z, hz, rfl⟩ := List.mem_map.mp hy
    obtain ⟨w, hw, rfl⟩ := List.mem_map.mp hz
    obtain ⟨x, hm, rfl⟩ := List.mem_map.mp hw
    have := str_len (hx x hm)
    simpa [Str.length, tl] using this
  simp only [List.length_map]
  omega
theorem spl_len (S : List Nat) : ∀ (l : List Nat) (k : Nat) (acc : List Nat), (spl S k acc l).length ≤ l.length + 1 ∧ ∀ p ∈ spl S k acc l, p.length ≤ acc.length + l.length
  | [], k, acc => by
    rw [spl_nil]
    exact ⟨by simp, fun p hp => by simp at hp; subst hp; simp⟩
  | c :: r, 0, acc => by
    cases h : pre S (c :: r) with
    | true =>
      rw [spl_hit h]
      obtain ⟨h1, h2⟩ := spl_len S r (S.length - 1) []
      refine ⟨by simp only [List.length_cons]; omega, fun p hp => ?_⟩
      rcases List.mem_cons.mp hp with rfl | hp
      · omega
      · have := h2 p hp
        simp only [List.length_nil, List.length_cons] at this ⊢
        omega
    | false =>
      rw [spl_miss h]
      obtain ⟨h1, h2⟩ := spl_len S r 0 (acc ++ [c])
      refine ⟨by simp only [List.length_cons]; omega, fun p hp => ?_⟩
      have := h2 p hp
      simp only [List.length_append, List.length_cons, List.length_nil] at this ⊢
      omega
  | c :: r, k + 1, acc => by
    have e : spl S (k + 1) acc (c :: r) = spl S k acc r := rfl
    rw [e]
    obtain ⟨h1, h2⟩ := spl_len S r k acc
    exact ⟨by simp only [List.length_cons]; omega, fun p hp => by have := h2 p hp; simp only [List.length_cons]; omega⟩
theorem blank_tl : tl (" " : Str) = [32] := by decide +kernel
theorem blank_kind : (" " : Str).cps.all (· < 256) = true := by decide +kernel
theorem split_map (s : Str) : (Txt.split s " ").map tl = spl [32] 0 [] (tl s) := by
  rw [← blank_tl]
  exact split_spl s " " (by rw [blank_tl]; decide) (kind_ok blank_kind)
theorem split_count {s : Str} (h : s.length ≤ 90000) : (Txt.split s " ").length ≤ 100000 := by
  have h1 := congrArg List.length (split_map s)
  rw [List.length_map] at h1
  have h2 := (spl_len [32] (tl s) 0 []).1
  have h3 : (tl s).length = s.length := by simp [Str.length, tl]
  omega
theorem split_part {s z : Str} (h : s.length ≤ 90000) (hz : z ∈ Txt.split s " ") : z.length ≤ 100000 := by
  have h1 : tl z ∈ spl [32] 0 [] (tl s) := by rw [← split_map]; exact List.mem_map_of_mem hz
  have h2 := (spl_len [32] (tl s) 0 []).2 _ h1
  have h3 : (tl s).length = s.length := by simp [Str.length, tl]
  have h4 : (tl z).length = z.length := by simp [Str.length, tl]
  simp only [List.length_nil] at h2
  omega
/-- a written tale is read back -/
theorem read_back {xs : List Int} (h0 : xs ≠ []) (hx : ∀ x ∈ xs, 0 ≤ x ∧ x < 10 ^ 9) : numsIn (Txt.split (Txt.join " " (xs.map fun x => (toString x : Str))) " ") = some xs := by
  have e : ∀ x ∈ xs, numIn (toString x : Str) = some x := fun x hm => by
    obtain ⟨n, rfl⟩ := Int.eq_ofNat_of_zero_le (hx x hm).1
    exact numIn_str (by have := (hx _ hm).2; omega)
  rw [split_join (y := " ") (s := 32) (S := []) blank_tl blank_kind (by simpa using h0) fun p hp => ?_]
  · have e2 : (xs.map fun x => (toString x : Str)).map numIn = xs.map some := by
      rw [List.map_map]
      exact List.map_congr_left fun x hm => e x hm
    have e3 : ((xs.map fun x => (toString x : Str)).map fun w => (numIn w).getD 0) = xs := by
      rw [List.map_map]
      refine Eq.trans (List.map_congr_left (g := id) fun x hm => ?_) (List.map_id _)
      show (numIn (toString x : Str)).getD 0 = x
      rw [e x hm]; rfl
    unfold numsIn
    rw [e2, e3, if_neg (by simp)]
  · obtain ⟨x, hm, rfl⟩ := List.mem_map.mp hp
    obtain ⟨n, rfl⟩ := Int.eq_ofNat_of_zero_le (hx x hm).1
    rw [show tl (toString (n : Int) : Str) = numL n from tl_str n]
    exact numL_free (.inl (by decide))
end L3

namespace L3
open PySem L2
open Rep (R)
open RepD (toD)
open Evl (Ex ex_l ex_t fresh_back sz_of sz_lt ixN_nat)
/-! ### expressions that draw -/
/-- a source of draws: what it may change, how it stands behind so many draws -/
structure Src where
  M : Addr → Prop
  I : Int → Hp → Hp → Prop
  stp : ∀ {n : Int} {F H F' H' : Hp}, I n F H → Stp F H F' H' → I n F' H'
  le : ∀ {n m : Int} {F H : Hp}, I n F H → n ≤ m → I m F H
  no : ∀ {n : Int} {F H : Hp} {a : Addr}, I n F H → M a → H a ≠ none ∧ F a = none
  upd_ok : ∀ {n : Int} {F H : Hp} {a : Addr} {o u : HO}, I n F H → ¬ M a → F a = none → H a = some u → I n F (upd H a o)
  dn : ∀ {n : Int} {F F' H : Hp}, I n F' H → Ex F F' → I n F H
  frz : ∀ {n : Int} {F H : Hp} {a : Addr} {o : HO}, I n F H → ¬ M a → I n (upd F a o) H
section
variable {K : PySem.W.Frag} {S : Src} {n m l : Int} {F F' G H H' : Hp} {σ : L2.St} {ta tb tc te tl : TE} {tt : TT} {E : XK}
variable {α β γ δ : Type} [Rep α] [Rep β] [Rep γ] [Rep δ] {x : α} {y : β} {z : γ} {P P' : α → Prop}
theorem StpM.up {M : Addr → Prop} (a : StpM M F H F' H') {F2 : Hp} (e : Ex F F2) (h2 : Ex F2 H) (hM : ∀ b, M b → F2 b = none) : StpM M F2 H (cup F2 F') H' ∧ Ex F' (cup F2 F') := by
  have h3 : Ex F2 H' := fun b o h => a.hh b o (fun z => by rw [hM b z] at h; cases h) (h2 b o h)
  refine ⟨⟨cup_l, cup_in h3 a.fh, a.hh, a.dm, fun x o h => ?_⟩, cup_r h3 a.fh⟩
  unfold cup
  cases q : F2 x with
  | some u => rfl
  | none =>
    show F' x = none
    rw [a.nw x o h]
    cases r : F x with
    | none => rfl
    | some u => rw [e x u r] at q; cases q
def EvM (K : PySem.W.Frag) (S : Src) (n m : Int) (F : Hp) (σ : L2.St) (te : TE) (P : α → Prop) : Prop :=
  ∀ F1 H, Ex F F1 → Ex F1 H → S.I n F1 H → ∀ Q : VK, (∀ v x F' H', StpM S.M F1 H F' H' → S.I m F' H' → P x → R K F' v x → Q v H') → te σ H Q
theorem EvM.go (h : EvM K S n m F σ te P) (e : Ex F H) (i : S.I n F H) {Q : VK} (k : ∀ v x F' H', StpM S.M F H F' H' → S.I m F' H' → P x → R K F' v x → Q v H') : te σ H Q := h F H (Ex.refl F) e i Q k
theorem EvM.up (h : EvM K S n m F σ te P) (e : Ex F F') : EvM K S n m F' σ te P := fun F1 H e1 e2 i Q k => h F1 H (e.trans e1) e2 i Q k
theorem EvM.imp (h : EvM K S n m F σ te P) (hp : ∀ x, P x → P' x) : EvM K S n m F σ te P' := fun F1 H e1 e2 i Q k => h F1 H e1 e2 i Q fun v x F' H' s i' p r => k v x F' H' s i' (hp x p) r
theorem em_pure (h : EvX K F F σ te x) : EvM K S n n F σ te (fun y => y = x) := fun F1 H e1 e2 i Q k =>
  (h.up e1) H e2 (e1.trans e2) Q fun v F' H' s r => k v x F' H' s.m (S.stp i s) rfl r
theorem em_int {i : Int} : EvM K S n n F σ (tC (.int i)) (fun y => y = i) := em_pure ev_int
/-- a def that draws, of a number -/
def SpD (S : Src) (a : V) (lim : Int) : Sp := fun vs H Q _ => ∃ F n many, vs = [a, .int many] ∧ Ex F H ∧ S.I n F H ∧ n ≤ lim ∧ 0 < many ∧ many ≤ 10 ^ 60 ∧
  ∀ r H', 0 ≤ r → r < many → StpM S.M F H F H' → S.I (n + 1) F H' → Q (.int r) H'
theorem em_draw {sp : Sp} {a : V} {j : Nat} {lim : Int} {P : Int → Prop} (hs : σ[j]? = some (some a)) (hsp : ∀ vs H Q E, SpD S a lim vs H Q E → sp vs H Q E) (hm : EvM K S n m F σ tb P) (hl : m ≤ lim) (hp : ∀ i, P i → 0 < i ∧ i ≤ 10 ^ 60) :
    EvM K S n (m + 1) F σ (tCall sp [] E (tCons (tVar j) (tCons tb tNil))) (fun r => ∃ i, P i ∧ 0 ≤ r ∧ r < i) := fun F1 H e1 e2 i Q k =>
  ⟨a, hs, hm F1 H e1 e2 i _ fun v x F' H' s i' p r => hsp _ _ _ _ ⟨F', m, x, by rw [show v = V.int x from r]; rfl, s.fh, i', hl, (hp x p).1, (hp x p).2, fun r H2 h0 h1 s2 i2 => k _ r F' H2 (s.trans s2) i2 ⟨x, p, h0, h1⟩ rfl⟩⟩
theorem em_op {r : R2} {P : α → Prop} {P2 : α → β → Prop} {P3 : γ → Prop} (ha : EvM K S n m F σ ta P) (hb : ∀ x, P x → EvM K S m l F σ tb (P2 x))
    (hr : ∀ F1 u w x y, Ex F F1 → P x → P2 x y → R K F1 u x → R K F1 w y → ∀ H1, Ex F1 H1 → ∀ Q : VK, (∀ v z F2 H2, Stp F1 H1 F2 H2 → P3 z → R K F2 v z → Q v H2) → r u w H1 Q) :
    EvM K S n l F σ (tOp r ta tb) P3 := fun F1 H e1 e2 i Q k =>
  ha F1 H e1 e2 i _ fun u x F2 H2 s2 i2 p2 r2 => hb x p2 F2 H2 (e1.trans s2.ff) s2.fh i2 _ fun w y F3 H3 s3 i3 p3 r3 =>
    hr F3 u w x y (e1.trans (s2.ff.trans s3.ff)) p2 p3 (Rep.mono s3.ff r2) r3 H3 s3.fh Q fun v z F4 H4 s4 p4 r4 => k v z F4 H4 ((s2.trans s3).trans s4.m) (S.stp i3 s4) p4 r4
theorem em_I {r : R2} {f : Int → Int → Int} {P : Int → Prop} {P2 : Int → Int → Prop} (ha : EvM K S n m F σ ta P) (hb : ∀ x, P x → EvM K S m l F σ tb (P2 x))
    (hr : ∀ x y H (Q : VK), P x → P2 x y → Q (.int (f x y)) H → r (.int x) (.int y) H Q) : EvM K S n l F σ (tOp r ta tb) (fun z => ∃ x y, P x ∧ P2 x y ∧ z = f x y) :=
  em_op ha hb fun F1 u w x y _ p p2 ru rw' H1 e1 Q k => by
    cases ru; cases rw'
    exact hr x y H1 Q p p2 (k _ _ F1 H1 (Stp.refl e1) ⟨x, y, p, p2, rfl⟩ rfl)
theorem em_add {P : Int → Prop} {P2 : Int → Int → Prop} (ha : EvM K S n m F σ ta P) (hb : ∀ x, P x → EvM K S m l F σ tb (P2 x)) : EvM K S n l F σ (tOp rAddA ta tb) (fun z => ∃ x y, P x ∧ P2 x y ∧ z = x + y) :=
  em_I ha hb fun x y H Q _ _ q => .inl ⟨x, y, rfl, rfl, q⟩
theorem em_sub {P : Int → Prop} {P2 : Int → Int → Prop} (ha : EvM K S n m F σ ta P) (hb : ∀ x, P x → EvM K S m l F σ tb (P2 x)) : EvM K S n l F σ (tOp (rI0 fun i j => .int (i - j)) ta tb) (fun z => ∃ x y, P x ∧ P2 x y ∧ z = x - y) :=
  em_I ha hb fun x y H Q _ _ q => ⟨x, y, rfl, rfl, q⟩
theorem em_mul {P : Int → Prop} {P2 : Int → Int → Prop} (ha : EvM K S n m F σ ta P) (hb : ∀ x, P x → EvM K S m l F σ tb (P2 x)) (hc : ∀ x y, P x → P2 x y → CMul x y) : EvM K S n l F σ (tOp (rI CMul fun i j => .int (i * j)) ta tb) (fun z => ∃ x y, P x ∧ P2 x y ∧ z = x * y) :=
  em_I ha hb fun x y H Q p p2 q => ⟨x, y, rfl, rfl, hc x y p p2, q⟩
theorem em_div {P : Int → Prop} {P2 : Int → Int → Prop} (ha : EvM K S n m F σ ta P) (hb : ∀ x, P x → EvM K S m l F σ tb (P2 x)) (hc : ∀ x y, P x → P2 x y → CDivW x y) : EvM K S n l F σ (tOp (rI CDivW fun i j => .int (i / j)) ta tb) (fun z => ∃ x y, P x ∧ P2 x y ∧ z = x / y) :=
  em_I ha hb fun x y H Q p p2 q => ⟨x, y, rfl, rfl, hc x y p p2, q⟩
theorem em_cmp {f : Int → Int → Bool} {P : Int → Prop} {P2 : Int → Int → Prop} (ha : EvM K S n m F σ ta P) (hb : ∀ x, P x → EvM K S m l F σ tb (P2 x)) : EvM K S n l F σ (tOp (rI0 fun i j => .bl (f i j)) ta tb) (fun b => ∃ x y, P x ∧ P2 x y ∧ b = f x y) :=
  em_op ha hb fun F1 u w x y _ p p2 ru rw' H1 e1 Q k => by
    cases ru; cases rw'
    exact ⟨x, y, rfl, rfl, k _ _ F1 H1 (Stp.refl e1) ⟨x, y, p, p2, rfl⟩ rfl⟩
theorem em_eqI {P : Int → Prop} {P2 : Int → Int → Prop} (ha : EvM K S n m F σ ta P) (hb : ∀ x, P x → EvM K S m l F σ tb (P2 x)) : EvM K S n l F σ (tOp (rEqA K) ta tb) (fun b => ∃ x y, P x ∧ P2 x y ∧ b = decide (x = y)) :=
  em_op ha hb fun F1 u w x y _ p p2 ru rw' H1 e1 Q k => by
    cases ru; cases rw'
    exact .inl ⟨rfl, k _ _ F1 H1 (Stp.refl e1) ⟨x, y, p, p2, rfl⟩ (by rw [dec_vint]; rfl)⟩
/-- an item of a list, by a draw -/
theorem em_ix {P : List α → Prop} {P2 : List α → Int → Prop} (ha : EvM K S n m F σ ta P) (hb : ∀ x, P x → EvM K S m l F σ tb (P2 x)) (hx : ∀ xs i, P xs → P2 xs i → 0 ≤ i ∧ i < xs.length) :
    EvM K S n l F σ (tIx K ta tb) (fun z => ∃ xs i, P xs ∧ P2 xs i ∧ xs[i.toNat]? = some z) := fun F1 H e1 e2 i Q k => .inl (
  em_op (P3 := fun z => ∃ xs i, P xs ∧ P2 xs i ∧ xs[i.toNat]? = some z) ha hb (fun F1 u w x y _ p p2 ru rw' H1 e1 Q k => by
    obtain ⟨h0, h1⟩ := hx x y p p2
    cases rw'
    obtain ⟨a, vs, rfl, hs, hv⟩ := ru
    have hg : x[y.toNat]? = some x[y.toNat] := List.getElem?_eq_getElem (by omega)
    have hat : atI x y = some x[y.toNat] := by
      have := atI_nat hg
      rwa [Int.toNat_of_nonneg h0] at this
    obtain ⟨v, hv1, hv2⟩ := ixN_all2 hv hat
    exact .inl ⟨a, vs, y, v, rfl, rfl, SqL.of (e1 _ _ hs), hv1, k v _ F1 H1 (Stp.refl e1) ⟨x, y, p, p2, hg⟩ hv2⟩) F1 H e1 e2 i Q k)
/-- a comprehension whose items draw, over a range -/
theorem em_lcr {j : Nat} {vs : List Nat} {c : Int} {P : Int → Prop} {P2 : Int → β → Prop} (hi : EvM K S n m F σ ta P) (hp : ∀ i, P i → 0 ≤ i ∧ i ≤ 100000) (hw : ∀ x, wipe ((wipe σ vs).set j (some x)) vs = wipe σ vs)
    (hc : 0 ≤ c) (he : ∀ (i : Int) (k : Int) F1, Ex F F1 → 0 ≤ i → m ≤ k → k ≤ m + c * 100000 → EvM K S k (k + c) F1 ((wipe σ vs).set j (some (.int i))) te (P2 i)) :
    ∀ F1 H, Ex F F1 → Ex F1 H → S.I n F1 H → ∀ Q : VK, (∀ p us xs len F' H', P len → StpM S.M F1 H F' H' → H p = none → F' p = none → ¬ S.M p → H' p = some (.lst us) → All2 (R K F') us xs → xs.length = len.toNat → (∀ (i : Nat) x, xs[i]? = some x → P2 (i : Int) x) →
      S.I (m + c * len) F' H' → Q (.ref p) H') → tLc (iRng1 (tCons ta tNil)) (gName j) tYes te vs σ H Q := fun F1 H e1 e2 i Q k =>
  hi F1 H e1 e2 i _ fun v len F2 H2 s2 i2 p2 r2 => by
    obtain ⟨l0, l1⟩ := hp len p2
    cases r2
    refine ⟨len, rfl, by omega, by omega, fun D hD => ?_⟩
    have nM : ¬ S.M D := fun z => (S.no i2 z).1 hD
    have f2D : F2 D = none := fresh_back s2.fh hD
    refine lc_range (lo := 0) (n := len.toNat) (fun i H' => ∃ F' acc, ∃ xs : List β, StpM S.M F2 H2 F' H' ∧ F' D = none ∧ H' D = some (.lst acc) ∧ All2 (R K F') acc xs ∧ xs.length = i ∧ (∀ (i : Nat) x, xs[i]? = some x → P2 (i : Int) x) ∧ S.I (m + c * (i : Int)) F' H')
      ⟨F2, [], [], (StpM.refl s2.fh).own hD, f2D, upd_same, .nil, rfl, fun i x h => by simp at h, ?_⟩ ?_ ?_
    · have := S.stp i2 ((Stp.refl s2.fh).own (o := .lst []) hD)
      exact S.le this (by omega)
    · rintro i H3 hin ⟨F3, acc, xs, s3, f3, h3, a3, l3, q3, i3⟩
      rw [Int.zero_add]
      refine ⟨hw _, ?_⟩
      show te _ H3 _
      have hci : c * (i : Int) ≤ c * 100000 := Int.mul_le_mul_of_nonneg_left (by omega) hc
      have hci0 : 0 ≤ c * (i : Int) := Int.mul_nonneg hc (by omega)
      refine he (i : Int) (m + c * (i : Int)) F3 (e1.trans (s2.ff.trans s3.ff)) (by omega) (by omega) (by omega) F3 H3 (Ex.refl _) s3.fh i3 _ fun u x F4 H4 s4 i4 p4 r4 => ?_
      have h4 := s4.hh D _ nM h3
      have f4 : F4 D = none := s4.fno h3 f3
      have s5 := (s3.trans s4).mut (o := .lst (acc ++ [u])) (.inr hD) f4 (fun z => by rw [h4] at z; cases z)
      refine ⟨acc, h4, ?_, F4, acc ++ [u], xs ++ [x], s5, f4, upd_same, (a3.imp fun _ _ => Rep.mono s4.ff).app (.cons r4 .nil), by simp [l3], fun j x' h => ?_, ?_⟩
      · have := a3.len
        exact Nat.lt_of_lt_of_le (show acc.length < 200000 by omega) (by decide)
      · by_cases hj : j < xs.length
        · rw [List.getElem?_append_left hj] at h
          exact q3 j x' h
        · have hj2 : j < (xs ++ [x]).length := (List.getElem?_eq_some_iff.mp h).1
          have : j = xs.length := by simp at hj2; omega
          subst this
          rw [List.getElem?_append_right (Nat.le_refl _)] at h
          simp at h
          subst h
          rw [l3]; exact p4
      · have hI := S.upd_ok i4 nM f4 (o := .lst (acc ++ [u])) h4
        refine S.le hI ?_
        have : c * ((i + 1 : Nat) : Int) = c * (i : Int) + c := by rw [Int.natCast_add, Int.mul_add]; simp
        omega
    · rintro H3 ⟨F3, acc, xs, s3, f3, h3, a3, l3, q3, i3⟩
      refine k D acc xs len F3 H3 p2 (s2.trans s3) (s2.dm _ hD) f3 nM h3 a3 l3 q3 (S.le i3 ?_)
      rw [Int.toNat_of_nonneg l0]
      exact Int.le_refl _
end
/-- the tray as a source -/
def trayS (t g : Addr) : Src where
  M := TM t g
  I := fun n F H => Tray F H t g n
  stp := fun T s => T.stp s
  le := fun T h => T.le h
  no := fun {n F H a} T h => by
    obtain ⟨f1, f2, ne, ds, c, fold, cnt, h1, h2, _⟩ := T
    rcases h with rfl | rfl
    · exact ⟨(by rw [h1]; exact fun z => by cases z), f1⟩
    · exact ⟨(by rw [h2]; exact fun z => by cases z), f2⟩
  upd_ok := fun {n F H a o u} T h _ _ => by
    obtain ⟨f1, f2, ne, ds, c, fold, cnt, h1, h2, h3⟩ := T
    have n1 : t ≠ a := fun z => h (.inl z.symm)
    have n2 : g ≠ a := fun z => h (.inr z.symm)
    exact ⟨f1, f2, ne, ds, c, fold, cnt, by rw [upd_ne n1]; exact h1, by rw [upd_ne n2]; exact h2, h3⟩
  dn := fun ⟨f1, f2, r⟩ e => ⟨fresh_back e f1, fresh_back e f2, r⟩
  frz := fun {n F H a o} ⟨f1, f2, r⟩ h => ⟨by rw [upd_ne (fun z => h (.inl z.symm))]; exact f1, by rw [upd_ne (fun z => h (.inr z.symm))]; exact f2, r⟩
/-! ### readings, a part at a time -/
section
variable {K : PySem.W.Frag} {F F' G H H' : Hp} {σ : L2.St} {ta tb tc te : TE} {E : XK} {D : Ends} {tz : TS} {g : TG} {tr : TA} {Q : VK}
variable {α β δ : Type} [Rep α] [Rep β] [Rep δ] {x : α} {y : β}
theorem u_asg (h : te σ H fun x H1 => g x σ H1 (tz D)) : tSeq (tAsg te g) tz D σ H := h
theorem u_lstA {ta : TA} (h : ta σ H fun xs H1 => xs.length ≤ sizeLine ∧ ∀ p, H1 p = none → Q (.ref p) (upd H1 p (.lst xs))) : tLst ta σ H Q := h
theorem u_tupA {ta : TA} (h : ta σ H fun xs H1 => xs.length ≤ sizeLine ∧ ∀ p, H1 p = none → Q (.ref p) (upd H1 p (.tup xs))) : tTup ta σ H Q := h
theorem u_cons {QQ : List V → Hp → Prop} (h : te σ H fun x H1 => tr σ H1 fun xs H2 => QQ (x :: xs) H2) : tCons te tr σ H QQ := h
theorem u_nil {QQ : List V → Hp → Prop} (h : QQ [] H) : tNil σ H QQ := h
/-- an item of a list of objects, each standing for something of its own -/
theorem ev_ixV {us : List V} {i : Int} {v : V} (ha : EvX K F G σ ta us) (hb : EvX K F G σ tb i) (hx : atI us i = some v) (r : R K F v x) : EvX K F G σ (tIx K ta tb) x := by
  refine EvX.or1 (ev_op ha hb fun F1 u w e h1 h2 H1 e1 _ Q k => ?_)
  obtain ⟨a, vs, rfl, hs, hv⟩ := h1
  obtain ⟨v', hv1, hv2⟩ := ixN_all2 hv hx
  cases hv2
  exact .inl ⟨a, vs, i, v, rfl, h2, SqL.of (e1 _ _ hs), hv1, k _ F1 H1 (Stp.refl e1) (Rep.mono e r)⟩
theorem ev_callK1 {pre : α → Prop} {f : α → δ} (ha : EvX K F G σ ta x) (hp : pre x) : EvX K F G σ (tCallKw (Pu1 K pre f) 1 id E (tCons ta tNil)) (f x) := fun H e g Q k =>
  ha H e g _ fun v F1 H1 s1 r1 => ⟨rfl, F1, x, v, rfl, s1.fh, r1, hp, fun u F2 H2 s2 r2 => k u F2 H2 (s1.trans s2) r2⟩
theorem en_callKL1 {pre : α → Prop} {f : α → List δ} (ha : EvX K F G σ ta x) (hp : pre x) : EvN K F G σ (tCallKw (PuL1 K pre f) 1 id E (tCons ta tNil)) (f x) := fun H e g Q k =>
  ha H e g _ fun v F1 H1 s1 r1 => ⟨rfl, F1, x, v, rfl, s1.fh, r1, hp, fun p us F2 H2 s2 n0 n1 h2 r2 => k _ _ _ H2 (s1.trans s2) (Ex.dom s1.hh n0) n1 h2 r2⟩
end
theorem StpM.forget {M : Addr → Prop} {F H F' H' : Hp} (s : StpM M F H F' H') : StpM M F H F H' := ⟨Ex.refl _, s.ff.trans s.fh, s.hh, s.dm, fun _ _ _ => rfl⟩
theorem draw_tray {t g : Addr} : ∀ vs H Q E, SpD (trayS t g) (.ref t) (10 ^ 9) vs H Q E → sp_draw vs H Q E := fun vs H Q E ⟨F, n, many, e, hF, T, hn, h0, h1, k⟩ =>
  ⟨F, t, g, n, many, e, hF, T, hn, h0, h1, fun r H' a b c d => k r H' a b c d⟩
theorem list3 {α : Type} {a b c z : α} {i : Int} (h0 : 0 ≤ i) (h1 : i < 3) (h : [a, b, c][i.toNat]? = some z) : z = a ∨ z = b ∨ z = c := by
  have : i = 0 ∨ i = 1 ∨ i = 2 := by omega
  rcases this with rfl | rfl | rfl
  · exact .inl (Option.some.inj h).symm
  · exact .inr (.inl (Option.some.inj h).symm)
  · exact .inr (.inr (Option.some.inj h).symm)
end L3

/-! Trees, in plain Lean: villages are lists of pairs of ints. -/
namespace Tr

abbrev Roads := List (Int × Int)
def adj (es : Roads) (x y : Int) : Prop := (x, y) ∈ es ∨ (y, x) ∈ es
theorem adj_symm {es : Roads} {x y : Int} (h : adj es x y) : adj es y x := h.symm
/-- a tree upon the houses V -/
structure TreeOn (V : Int → Prop) (es : Roads) : Prop where
  rng : ∀ e ∈ es, V e.1 ∧ V e.2
  conn : ∀ S : Int → Prop, (∃ s, V s ∧ S s) → (∀ u v, V u → V v → adj es u v → S u → S v) → ∀ v, V v → S v
  acyc : ∀ l1 e l2, es = l1 ++ e :: l2 → ∃ A : Int → Bool, A e.1 ≠ A e.2 ∧ ∀ e' ∈ l1 ++ l2, A e'.1 = A e'.2
theorem TreeOn.perm {V : Int → Prop} {es fs : Roads} (h : TreeOn V es) (p : es.Perm fs) : TreeOn V fs := by
  have hm : ∀ x, x ∈ fs ↔ x ∈ es := fun x => (p.mem_iff).symm
  refine ⟨fun e he => h.rng e ((hm e).mp he), fun S hs hc => h.conn S hs fun u v hu hv ha => hc u v hu hv ?_, fun l1 e l2 he => ?_⟩
  · unfold adj at ha ⊢; rw [hm, hm]; exact ha
  · have he' : e ∈ es := (hm e).mp (by rw [he]; simp)
    obtain ⟨m1, m2, hes⟩ := List.append_of_mem he'
    obtain ⟨A, h1, h2⟩ := h.acyc m1 e m2 hes
    refine ⟨A, h1, fun e2 h3 => h2 e2 ?_⟩
    have q : (m1 ++ e :: m2).Perm (l1 ++ e :: l2) := by rw [← hes, ← he]; exact p
    have q2 : (e :: (m1 ++ m2)).Perm (e :: (l1 ++ l2)) := (List.perm_middle.symm.trans q).trans List.perm_middle
    exact (q2.cons_inv.mem_iff).mpr h3
/-- ends the other way about -/
theorem TreeOn.flip {V : Int → Prop} {es : Roads} (h : TreeOn V es) {l1 l2 : Roads} {x y : Int} (e : es = l1 ++ (x, y) :: l2) : TreeOn V (l1 ++ (y, x) :: l2) := by
  have ha : ∀ u v, adj es u v ↔ adj (l1 ++ (y, x) :: l2) u v := fun u v => by
    subst e
    unfold adj
    simp only [List.mem_append, List.mem_cons, Prod.mk.injEq]
    constructor <;> intro hh <;> (rcases hh with (h | ⟨rfl, rfl⟩ | h) | (h | ⟨rfl, rfl⟩ | h) <;> simp [h])
  refine ⟨fun z hz => ?_, fun S hs hc => h.conn S hs fun u v hu hv a => hc u v hu hv ((ha u v).mp a), fun m1 z m2 hz => ?_⟩
  · rcases List.mem_append.mp hz with q | q
    · exact h.rng z (by rw [e]; simp [q])
    · rcases List.mem_cons.mp q with rfl | q
      · exact (h.rng (x, y) (by rw [e]; simp)).symm
      · exact h.rng z (by rw [e]; simp [q])
  · rcases List.append_eq_append_iff.mp hz with ⟨a, h1, h2⟩ | ⟨a, h1, h2⟩
    · cases a with
      | nil =>
        simp at h1 h2
        obtain ⟨h2, h3⟩ := h2
        subst h1 h2 h3
        obtain ⟨A, q1, q2⟩ := h.acyc _ _ _ e
        exact ⟨A, fun z => q1 z.symm, q2⟩
      | cons b a =>
        simp at h2
        obtain ⟨rfl, rfl⟩ := h2
        subst h1
        obtain ⟨A, q1, q2⟩ := h.acyc (l1 ++ (x, y) :: a) z m2 (by rw [e]; simp)
        refine ⟨A, q1, fun w hw => ?_⟩
        have q3 := q2 (x, y) (by simp)
        simp only [List.append_assoc, List.cons_append, List.mem_append, List.mem_cons] at hw q2
        rcases hw with hw | rfl | hw | hw
        · exact q2 w (.inl hw)
        · exact q3.symm
        · exact q2 w (.inr (.inr (.inl hw)))
        · exact q2 w (.inr (.inr (.inr hw)))
    · cases a with
      | nil =>
        simp at h1 h2
        obtain ⟨h2, h3⟩ := h2
        subst h1 h2 h3
        obtain ⟨A, q1, q2⟩ := h.acyc _ _ _ e
        exact ⟨A, fun z => q1 z.symm, q2⟩
      | cons b a =>
        simp at h2
        obtain ⟨rfl, rfl⟩ := h2
        subst h1
        obtain ⟨A, q1, q2⟩ := h.acyc m1 z (a ++ (x, y) :: l2) (by rw [e]; simp)
        refine ⟨A, q1, fun w hw => ?_⟩
        have q3 := q2 (x, y) (by simp)
        simp only [List.append_assoc, List.mem_append, List.mem_cons] at hw q2
        rcases hw with hw | hw | rfl | hw
        · exact q2 w (.inl hw)
        · exact q2 w (.inr (.inl hw))
        · exact q3.symm
        · exact q2 w (.inr (.inr (.inr hw)))
theorem TreeOn.one (r : Int) : TreeOn (fun x => x = r) [] :=
  ⟨fun e h => by simp at h, fun S ⟨s, h1, h2⟩ _ v hv => by subst h1; subst hv; exact h2, fun l1 e l2 h => by simp at h⟩
/-- a new house, a road to it put in anywhere -/
theorem TreeOn.leaf {V : Int → Prop} {l1 l2 : Roads} {u v : Int} (h : TreeOn V (l1 ++ l2)) (hu : V u) (hv : ¬ V v) : TreeOn (fun x => V x ∨ x = v) (l1 ++ (u, v) :: l2) := by
  have h0 : TreeOn (fun x => V x ∨ x = v) ((u, v) :: (l1 ++ l2)) := by
    refine ⟨fun e he => ?_, fun S ⟨s, h1, h2⟩ hc => ?_, fun m1 e m2 he => ?_⟩
    · rcases List.mem_cons.mp he with rfl | he
      · exact ⟨.inl hu, .inr rfl⟩
      · exact ⟨.inl (h.rng e he).1, .inl (h.rng e he).2⟩
    · have huv : adj ((u, v) :: (l1 ++ l2)) u v := .inl List.mem_cons_self
      have hs : ∃ s, V s ∧ S s := by
        rcases h1 with h1 | rfl
        · exact ⟨s, h1, h2⟩
        · exact ⟨u, hu, hc s u (.inr rfl) (.inl hu) (adj_symm huv) h2⟩
      have hall := h.conn S hs fun a b ha hb hab => hc a b (.inl ha) (.inl hb) (hab.imp (List.mem_cons_of_mem _) (List.mem_cons_of_mem _))
      intro w hw
      rcases hw with hw | rfl
      · exact hall w hw
      · exact hc u w (.inl hu) (.inr rfl) huv (hall u hu)
    · cases m1 with
      | nil =>
        simp at he
        obtain ⟨he, hm⟩ := he
        subst he hm
        refine ⟨fun x => decide (x = v), ?_, fun e' h' => ?_⟩
        · show decide (u = v) ≠ decide (v = v)
          rw [decide_eq_false (fun z : u = v => hv (z ▸ hu)), decide_eq_true rfl]
          decide
        · have q := h.rng e' (by simpa using h')
          show decide (e'.1 = v) = decide (e'.2 = v)
          rw [decide_eq_false (fun z : e'.1 = v => hv (z ▸ q.1)), decide_eq_false (fun z : e'.2 = v => hv (z ▸ q.2))]
      | cons b m1 =>
        simp at he
        obtain ⟨rfl, he⟩ := he
        obtain ⟨A, q1, q2⟩ := h.acyc m1 e m2 he
        have hr := h.rng e (by rw [he]; simp)
        have ne1 : e.1 ≠ v := fun z => hv (z ▸ hr.1)
        have ne2 : e.2 ≠ v := fun z => hv (z ▸ hr.2)
        refine ⟨fun x => if x = v then A u else A x, by simpa [ne1, ne2] using q1, fun e' h' => ?_⟩
        simp only [List.cons_append, List.mem_cons] at h'
        rcases h' with rfl | h'
        · have : u ≠ v := fun z => hv (z ▸ hu)
          simp [this]
        · have q := q2 e' h'
          have hr' := h.rng e' (by
            rw [he]
            rcases List.mem_append.mp h' with z | z <;> simp [z])
          have n1 : e'.1 ≠ v := fun z => hv (z ▸ hr'.1)
          have n2 : e'.2 ≠ v := fun z => hv (z ▸ hr'.2)
          simp [n1, n2, q]
  exact h0.perm List.perm_middle.symm
theorem TreeOn.iff {V V' : Int → Prop} {es : Roads} (h : TreeOn V es) (hv : ∀ x, V x ↔ V' x) : TreeOn V' es := by
  have : V = V' := funext fun x => propext (hv x)
  exact this ▸ h

/-! ### ways -/
def hs (n : Int) (x : Int) : Prop := 0 ≤ x ∧ x < n
structure IsTree (n : Int) (es : Roads) : Prop where
  pos : 0 < n
  len : (es.length : Int) + 1 = n
  tr : TreeOn (hs n) es
theorem exists_least {p : Nat → Prop} (h : ∃ k, p k) : ∃ k, p k ∧ ∀ j, p j → k ≤ j := by
  obtain ⟨k, hk⟩ := h
  induction k using Nat.strongRecOn with
  | _ k ih =>
    by_cases q : ∃ j, j < k ∧ p j
    · obtain ⟨j, hj, hp⟩ := q
      exact ih j hj hp
    · exact ⟨k, hk, fun j hj => Nat.le_of_not_lt fun hl => q ⟨j, hl, hj⟩⟩
inductive Wk (es : Roads) (s : Int) : Nat → Int → Prop
  | nil : Wk es s 0 s
  | cons {k : Nat} {u v : Int} : Wk es s k u → adj es u v → Wk es s (k + 1) v
open Classical in
noncomputable def leastK (p : Nat → Prop) : Int := if h : ∃ k, p k then ((exists_least h).choose : Int) else 0
noncomputable def dist (es : Roads) (s v : Int) : Int := leastK fun k => Wk es s k v
theorem wk_of_conn {n : Int} {es : Roads} (T : IsTree n es) {s v : Int} (hs' : hs n s) (hv : hs n v) : ∃ k, Wk es s k v :=
  T.tr.conn (fun v => ∃ k, Wk es s k v) ⟨s, hs', 0, .nil⟩ (fun u v _ _ a ⟨k, h⟩ => ⟨k + 1, .cons h a⟩) v hv
theorem wk_rng {n : Int} {es : Roads} (T : IsTree n es) {s : Int} (hs' : hs n s) : ∀ {k : Nat} {v : Int}, Wk es s k v → hs n v
  | _, _, .nil => hs'
  | _, _, .cons h a => by
    rcases a with a | a
    · exact (T.tr.rng _ a).2
    · exact (T.tr.rng _ a).1
/-- steps from one house: what makes them so -/
structure IsD1 (n : Int) (es : Roads) (s : Int) (f : Int → Int) : Prop where
  zero : f s = 0
  nn : ∀ v, hs n v → 0 ≤ f v
  back : ∀ v, hs n v → v ≠ s → ∃ u, hs n u ∧ adj es u v ∧ f u + 1 = f v
  edge : ∀ u v, hs n u → hs n v → adj es u v → f v ≤ f u + 1
theorem IsD1.le {n : Int} {es : Roads} {s : Int} {f g : Int → Int} (hf : IsD1 n es s f) (hg : IsD1 n es s g) : ∀ (k : Nat) (v : Int), hs n v → f v = (k : Int) → g v ≤ f v := by
  intro k
  induction k with
  | zero =>
    intro v hv e
    by_cases q : v = s
    · subst q; rw [hf.zero, hg.zero]; exact Int.le_refl _
    · obtain ⟨u, hu, _, h⟩ := hf.back v hv q
      have := hf.nn u hu
      omega
  | succ k ih =>
    intro v hv e
    by_cases q : v = s
    · subst q; rw [hf.zero, hg.zero]; exact Int.le_refl _
    · obtain ⟨u, hu, a, h⟩ := hf.back v hv q
      have h1 := ih u hu (by omega)
      have h2 := hg.edge u v hu hv a
      omega
theorem IsD1.uniq {n : Int} {es : Roads} {s : Int} {f g : Int → Int} (hf : IsD1 n es s f) (hg : IsD1 n es s g) {v : Int} (hv : hs n v) : f v = g v := by
  have h1 := hf.le hg (f v).toNat v hv (by have := hf.nn v hv; omega)
  have h2 := hg.le hf (g v).toNat v hv (by have := hg.nn v hv; omega)
  omega
section
variable {n : Int} {es : Roads} (T : IsTree n es)
theorem dist_spec {s v : Int} (h : ∃ k, Wk es s k v) : ∃ k : Nat, dist es s v = (k : Int) ∧ Wk es s k v ∧ ∀ j, Wk es s j v → k ≤ j := by
  refine ⟨(exists_least h).choose, ?_, (exists_least h).choose_spec.1, (exists_least h).choose_spec.2⟩
  unfold dist leastK
  rw [dif_pos h]
include T in
theorem dist_is {s : Int} (hs' : hs n s) : IsD1 n es s (dist es s) := by
  refine ⟨?_, fun v hv => ?_, fun v hv hne => ?_, fun u v hu hv a => ?_⟩
  · obtain ⟨k, e, _, hl⟩ := dist_spec (es := es) ⟨0, Wk.nil (s := s)⟩
    have := hl 0 .nil
    omega
  · obtain ⟨k, e, _, _⟩ := dist_spec (wk_of_conn T hs' hv)
    omega
  · obtain ⟨k, e, w, hl⟩ := dist_spec (wk_of_conn T hs' hv)
    cases w with
    | nil => exact absurd rfl hne
    | @cons j u _ w a =>
      have hu := wk_rng T hs' w
      refine ⟨u, hu, a, ?_⟩
      obtain ⟨j', e', w', hl'⟩ := dist_spec (wk_of_conn T hs' hu)
      have h1 := hl' j w
      have h2 := hl (j' + 1) (.cons w' a)
      omega
  · obtain ⟨k, e, w, _⟩ := dist_spec (wk_of_conn T hs' hu)
    obtain ⟨j, e', _, hl⟩ := dist_spec (wk_of_conn T hs' hv)
    have := hl (k + 1) (.cons w a)
    omega
include T in
theorem dist_self {s : Int} (h : hs n s) : dist es s s = 0 := (dist_is T h).zero
include T in
theorem dist_nn {s v : Int} (h : hs n s) (hv : hs n v) : 0 ≤ dist es s v := (dist_is T h).nn v hv
include T in
theorem dist_pos {s v : Int} (h : hs n s) (hv : hs n v) (hne : v ≠ s) : 0 < dist es s v := by
  obtain ⟨u, hu, _, e⟩ := (dist_is T h).back v hv hne
  have := dist_nn T h hu
  omega
include T in
theorem dist_zero {s v : Int} (h : hs n s) (hv : hs n v) : dist es s v = 0 ↔ v = s := by
  constructor
  · intro e
    apply Classical.byContradiction
    intro q
    have := dist_pos T h hv q
    omega
  · rintro rfl
    exact dist_self T h
include T in
theorem dist_tri {a b c : Int} (ha : hs n a) (hb : hs n b) (hc : hs n c) : dist es a c ≤ dist es a b + dist es b c := by
  have : ∀ (k : Nat) (c : Int), hs n c → dist es b c = (k : Int) → dist es a c ≤ dist es a b + dist es b c := by
    intro k
    induction k with
    | zero =>
      intro c hc e
      have := (dist_zero T hb hc).mp (by omega)
      subst this
      omega
    | succ k ih =>
      intro c hc e
      have hne : c ≠ b := fun z => by subst z; rw [dist_self T hb] at e; omega
      obtain ⟨u, hu, ad, h⟩ := (dist_is T hb).back c hc hne
      have h1 := ih u hu (by omega)
      have h2 := (dist_is T ha).edge u c hu hc ad
      omega
  exact this (dist es b c).toNat c hc (by have := dist_nn T hb hc; omega)
include T in
theorem dist_adj_le {a b : Int} (ha : hs n a) (hb : hs n b) (h : adj es a b) : dist es a b ≤ 1 := by
  have := (dist_is T ha).edge a b ha hb h
  rw [dist_self T ha] at this
  omega
include T in
theorem dist_symm {a b : Int} (ha : hs n a) (hb : hs n b) : dist es a b = dist es b a := by
  have : ∀ (k : Nat) (a b : Int), hs n a → hs n b → dist es a b = (k : Int) → dist es b a ≤ dist es a b := by
    intro k
    induction k with
    | zero =>
      intro a b ha hb e
      have := (dist_zero T ha hb).mp (by omega)
      subst this
      exact Int.le_refl _
    | succ k ih =>
      intro a b ha hb e
      have hne : b ≠ a := fun z => by subst z; rw [dist_self T ha] at e; omega
      obtain ⟨u, hu, ad, h⟩ := (dist_is T ha).back b hb hne
      have h1 := ih a u ha hu (by omega)
      have h2 := dist_tri T hb hu ha
      have h3 := dist_adj_le T hb hu (adj_symm ad)
      omega
  have h1 := this (dist es a b).toNat a b ha hb (by have := dist_nn T ha hb; omega)
  have h2 := this (dist es b a).toNat b a hb ha (by have := dist_nn T hb ha; omega)
  omega
include T in
theorem adj_ne {a b : Int} (h : adj es a b) : a ≠ b := by
  have key : ∀ x y, (x, y) ∈ es → x ≠ y := fun x y hm z => by
    subst z
    obtain ⟨l1, l2, he⟩ := List.append_of_mem hm
    obtain ⟨A, q, _⟩ := T.tr.acyc l1 _ l2 he
    exact q rfl
  rcases h with h | h
  · exact key a b h
  · exact (key b a h).symm
include T in
theorem adj_hs {a b : Int} (h : adj es a b) : hs n a ∧ hs n b := by
  rcases h with h | h
  · exact T.tr.rng _ h
  · exact (T.tr.rng _ h).symm
include T in
theorem dist_one {a b : Int} (ha : hs n a) (hb : hs n b) : dist es a b = 1 ↔ adj es a b := by
  constructor
  · intro e
    have hne : b ≠ a := fun z => by subst z; rw [dist_self T ha] at e; omega
    obtain ⟨u, hu, ad, h⟩ := (dist_is T ha).back b hb hne
    have := (dist_zero T ha hu).mp (by omega)
    subst this
    exact ad
  · intro h
    have h1 := dist_adj_le T ha hb h
    have h2 := dist_pos T ha hb (adj_ne T h).symm
    omega
/-- a list that brings no two next doors farther than next doors brings no two houses farther apart -/
theorem short_map {es' : Roads} {n' : Int} (T : IsTree n es) (T' : IsTree n' es') {f : Int → Int} (hf : ∀ x, hs n x → hs n' (f x)) (h : ∀ x y, (x, y) ∈ es → dist es' (f x) (f y) ≤ 1) {x y : Int} (hx : hs n x) (hy : hs n y) :
    dist es' (f x) (f y) ≤ dist es x y := by
  have : ∀ (k : Nat) (y : Int), hs n y → dist es x y = (k : Int) → dist es' (f x) (f y) ≤ dist es x y := by
    intro k
    induction k with
    | zero =>
      intro y hy e
      have := (dist_zero T hx hy).mp (by omega)
      subst this
      rw [dist_self T' (hf _ hy)]
      omega
    | succ k ih =>
      intro y hy e
      have hne : y ≠ x := fun z => by subst z; rw [dist_self T hx] at e; omega
      obtain ⟨u, hu, ad, h'⟩ := (dist_is T hx).back y hy hne
      have h1 := ih u hu (by omega)
      have h2 := dist_tri T' (hf x hx) (hf u hu) (hf y hy)
      have h3 : dist es' (f u) (f y) ≤ 1 := by
        rcases ad with ad | ad
        · exact h _ _ ad
        · rw [dist_symm T' (hf u hu) (hf y hy)]
          exact h _ _ ad
      omega
  exact this (dist es x y).toNat y hy (by have := dist_nn T hx hy; omega)
end
/-- ways depend on who is next door to whom alone -/
theorem dist_congr {es fs : Roads} (h : ∀ x y, adj es x y ↔ adj fs x y) (s v : Int) : dist es s v = dist fs s v := by
  have hw : ∀ k v, Wk es s k v ↔ Wk fs s k v := fun k v => by
    constructor
    · intro w
      induction w with
      | nil => exact .nil
      | cons _ a ih => exact .cons ih ((h _ _).mp a)
    · intro w
      induction w with
      | nil => exact .nil
      | cons _ a ih => exact .cons ih ((h _ _).mpr a)
  have : Wk es s = Wk fs s := funext fun k => funext fun v => propext (hw k v)
  unfold dist
  rw [this]
end Tr

namespace L3
open PySem L2
open Evl (Ex ex_l ex_t fresh_back sz_of sz_lt ixN_nat)
open Rep (R)
open RepD (toD)
/-! ### dict.update -/
def rUpd : V → List V → Hp → VK → Prop := fun x xs H Q => ∃ (d e : Addr) (kvs ls : List (Key × V)), x = .ref d ∧ xs = [.ref e] ∧ d ≠ e ∧ H d = some (.dK kvs) ∧ H e = some (.dK ls) ∧ kvs.length + ls.length ≤ sizeLine ∧ Q .non (upd H d (.dK (mergeK kvs ls)))
theorem mt_update {X : Cx} : MtR X "dict.update" rUpd := by
  intro pins s σ H x xs v us Q I rx rs h
  obtain ⟨d, e, kvs, ls, rfl, rfl, ne, hd, he, hz, q⟩ := h
  cases rx
  obtain rfl := Vals.ref1 rs
  obtain ⟨z1, m1, vs, r1, d1⟩ := dk_of I.hok hd
  obtain ⟨z2, m2, ws, r2, d2⟩ := dk_of I.hok he
  refine call_meetsIn PySem.F.slot_dict_update d1.typeIs PySem.F.entry_dict_update (PySem.F.args_dict_update_2 _ _) (meets_dict_update (mixKind X.prog X.w) d e ne m2)
    ⟨vs, ws, d1, d2, (by rw [← r1.length, ← r2.length]; exact hz), fun h' d1' _ hs => ?_⟩
  have hex : ∃ q, h'.get? d = some q := let ⟨q, _, _, hq, _⟩ := d1'; ⟨q, hq⟩
  have hl : (mergeK kvs ls).length ≤ sizeLine := Nat.le_trans (length_mergeK ls kvs) hz
  exact ⟨.non, _, d_write (t' := s.toks) I (by rw [hd]; exact True.intro) hs hex (dk_new hl m1 (KV.merge r2 r1) d1'), rfl, q⟩
theorem mem_putK {kvs : List (Key × V)} {k : Key} {v : V} {p : Key × V} (h : p ∈ putK kvs k v) : p = (k, v) ∨ p ∈ kvs := by
  unfold putK at h
  split at h
  · obtain ⟨q, hq, rfl⟩ := List.mem_map.mp h
    split
    · rename_i e; left; rw [e]
    · exact .inr hq
  · rcases List.mem_append.mp h with h | h
    · exact .inr h
    · simp at h; exact .inl h
/-- all stored values alike: what is found behind a merge -/
theorem valV_merge {c : V} : ∀ (more kvs : List (Key × V)) (k : Key), (∀ p ∈ more, p.2 = c) → (k ∈ more.map Prod.fst → valV (mergeK kvs more) k = some c) ∧ (k ∉ more.map Prod.fst → valV (mergeK kvs more) k = valV kvs k)
  | [], kvs, k, _ => ⟨fun h => (by simp at h), fun _ => rfl⟩
  | p :: more, kvs, k, h => by
    have e : mergeK kvs (p :: more) = mergeK (putK kvs p.1 p.2) more := rfl
    obtain ⟨h1, h2⟩ := valV_merge more (putK kvs p.1 p.2) k fun q hq => h q (List.mem_cons_of_mem _ hq)
    rw [e]
    have hp := h p List.mem_cons_self
    by_cases q : k ∈ more.map Prod.fst
    · exact ⟨fun _ => h1 q, fun z => absurd (by simp only [List.map_cons, List.mem_cons]; exact .inr q) z⟩
    · rw [h2 q, valV_put]
      by_cases q2 : k = p.1
      · rw [if_pos q2, hp]
        exact ⟨fun _ => rfl, fun z => absurd (by simp only [List.map_cons, List.mem_cons]; exact .inl q2) z⟩
      · rw [if_neg q2]
        exact ⟨fun z => by simp only [List.map_cons, List.mem_cons] at z; exact absurd z (fun z => z.elim q2 q), fun _ => rfl⟩
theorem mem_merge {c : V} : ∀ (more kvs : List (Key × V)) (p : Key × V), p ∈ mergeK kvs more → p ∈ kvs ∨ p ∈ more
  | [], kvs, p, h => .inl h
  | q :: more, kvs, p, h => by
    rcases mem_merge (c := c) more (putK kvs q.1 q.2) p h with h | h
    · rcases mem_putK h with rfl | h
      · exact .inr List.mem_cons_self
      · exact .inl h
    · exact .inr (List.mem_cons_of_mem _ h)
theorem valV_some_mem {kvs : List (Key × V)} {k : Key} {v : V} (h : valV kvs k = some v) : (k, v) ∈ kvs := by
  unfold valV at h
  obtain ⟨p, hp, rfl⟩ := Option.map_eq_some_iff.mp h
  have h1 := List.find?_some hp
  have h2 := List.mem_of_find?_eq_some hp
  simp at h1
  rw [← h1]; exact h2
theorem mem_valV {kvs : List (Key × V)} {p : Key × V} (h : p ∈ kvs) : ∃ v, valV kvs p.1 = some v := by
  unfold valV
  cases q : kvs.find? (fun kv => decide (kv.1 = p.1)) with
  | none => have := List.find?_eq_none.mp q p h; simp at this
  | some r => exact ⟨_, rfl⟩
/-! ### sorted lists -/
def sortI (xs : List Int) : List Int := xs.mergeSort (fun a b => decide (a ≤ b))
theorem sortI_perm (xs : List Int) : (sortI xs).Perm xs := List.mergeSort_perm _ _
theorem sortI_sorted (xs : List Int) : (sortI xs).Pairwise (· ≤ ·) := by
  have := List.pairwise_mergeSort (le := fun a b : Int => decide (a ≤ b)) (fun a b c h1 h2 => by simp at *; omega) (fun a b => by simp; omega) xs
  exact this.imp fun h => by simpa using h
theorem sortI_uniq {xs ys : List Int} (p : ys.Perm xs) (h : ys.Pairwise (· ≤ ·)) : ys = sortI xs :=
  List.Perm.eq_of_pairwise (le := (· ≤ ·)) (fun a b _ _ h1 h2 => by omega) h (sortI_sorted xs) (p.trans (sortI_perm xs).symm)
def leP (p q : Int × Int) : Prop := p.1 < q.1 ∨ (p.1 = q.1 ∧ p.2 ≤ q.2)
instance (p q : Int × Int) : Decidable (leP p q) := by unfold leP; infer_instance
theorem leP_tr {a b c : Int × Int} (h1 : leP a b) (h2 : leP b c) : leP a c := by unfold leP at *; omega
theorem leP_total (a b : Int × Int) : leP a b ∨ leP b a := by unfold leP; omega
theorem leP_anti {a b : Int × Int} (h1 : leP a b) (h2 : leP b a) : a = b := by
  unfold leP at *
  exact Prod.ext (by omega) (by omega)
def sortP (xs : List (Int × Int)) : List (Int × Int) := xs.mergeSort (fun a b => decide (leP a b))
theorem sortP_perm (xs : List (Int × Int)) : (sortP xs).Perm xs := List.mergeSort_perm _ _
theorem sortP_sorted (xs : List (Int × Int)) : (sortP xs).Pairwise leP := by
  have := List.pairwise_mergeSort (le := fun a b : Int × Int => decide (leP a b)) (fun a b c h1 h2 => by simp at *; exact leP_tr h1 h2) (fun a b => by simp; exact leP_total a b) xs
  exact this.imp fun h => by simpa using h
theorem sortP_uniq {xs ys : List (Int × Int)} (p : ys.Perm xs) (h : ys.Pairwise leP) : ys = sortP xs :=
  List.Perm.eq_of_pairwise (le := leP) (fun a b _ _ h1 h2 => leP_anti h1 h2) h (sortP_sorted xs) (p.trans (sortP_perm xs).symm)
theorem mem_sortI {xs : List Int} {x : Int} : x ∈ sortI xs ↔ x ∈ xs := (sortI_perm xs).mem_iff
theorem mem_sortP {xs : List (Int × Int)} {x : Int × Int} : x ∈ sortP xs ↔ x ∈ xs := (sortP_perm xs).mem_iff
/-- the pair at an address -/
def pk (F : Hp) (v : V) : Int × Int := match v with
  | .ref t => match F t with
    | some (.tup [.int i, .int j]) => (i, j)
    | _ => (0, 0)
  | _ => (0, 0)
section
variable {K : PySem.W.Frag} {F F' G H H' : Hp} {σ : L2.St} {ta tb tc te tl : TE} {tt : TT} {E : XK}
theorem pk_rep {v : V} {x : Int × Int} (h : R K F v x) : pk F v = x := by
  obtain ⟨a, u, w, rfl, h1, h2, h3⟩ := h
  cases h2
  cases h3
  unfold pk
  simp only [h1]
theorem pk_map : ∀ {vs : List V} {xs : List (Int × Int)}, All2 (R K F) vs xs → vs.map (pk F) = xs
  | _, _, .nil => rfl
  | _, _, .cons h t => by rw [List.map_cons, pk_rep h, pk_map t]
theorem all2_pk {vs : List V} (h : ∀ v ∈ vs, ∃ x : Int × Int, R K F v x) : All2 (R K F) vs (vs.map (pk F)) := by
  induction vs with
  | nil => exact .nil
  | cons v vs ih =>
    obtain ⟨x, hx⟩ := h v List.mem_cons_self
    refine .cons ?_ (ih fun w hw => h w (List.mem_cons_of_mem _ hw))
    rw [pk_rep hx]; exact hx
theorem all2_mem {α β : Type} {P : α → β → Prop} : ∀ {l : List α} {m : List β} {a : α}, All2 P l m → a ∈ l → ∃ b ∈ m, P a b
  | _, _, _, .nil, h => by cases h
  | _, _, _, .cons p t, h => by
    rcases List.mem_cons.mp h with rfl | h
    · exact ⟨_, List.mem_cons_self, p⟩
    · obtain ⟨b, h1, h2⟩ := all2_mem t h
      exact ⟨b, List.mem_cons_of_mem _ h1, h2⟩
theorem en_sortI {xs : List Int} (ha : EvX K F G σ ta xs) : EvN K F G σ (tCB (rSortA K) (tCons ta tNil)) (sortI xs) := fun H e g Q k =>
  ha H e g _ fun u F1 H1 s1 h1 => by
    obtain ⟨a, vs, rfl, hs, hv⟩ := h1
    have := all2_ints.mp hv
    subst this
    refine .inl ⟨a, xs, rfl, SqL.of (s1.fh _ _ hs), fun ys p hp hy n => ?_⟩
    have := sortI_uniq hp hy
    subst this
    exact k p _ _ _ (s1.own n) (Ex.dom s1.hh n) (fresh_back s1.fh n) upd_same (all2_ints.mpr rfl)
theorem en_sortP {xs : List (Int × Int)} (ha : EvX K F G σ ta xs) : EvN K F G σ (tCB (rSortA K) (tCons ta tNil)) (sortP xs) := fun H e g Q k =>
  ha H e g _ fun u F1 H1 s1 h1 => by
    obtain ⟨a, vs, rfl, hs, hv⟩ := h1
    refine .inr ⟨a, vs, pk F1, rfl, SqL.of (s1.fh _ _ hs), fun v hvm => ?_, fun ys p hsrt hst n => ?_⟩
    · obtain ⟨x, _, hx⟩ := all2_mem hv hvm
      have e := pk_rep hx
      obtain ⟨b, u, w, rfl, h1, h2, h3⟩ := hx
      rw [e]
      cases h2; cases h3
      exact ⟨b, rfl, s1.fh _ _ h1⟩
    · have hall : All2 (R K F1) ys (ys.map (pk F1)) := all2_pk fun v hvm => by
        obtain ⟨x, _, hx⟩ := all2_mem hv ((hst.perm.mem_iff).mp hvm)
        exact ⟨x, hx⟩
      have hp : (ys.map (pk F1)).Perm xs := by rw [← pk_map hv]; exact hst.perm.map _
      have hpw : (ys.map (pk F1)).Pairwise leP := by
        refine List.pairwise_map.mpr (List.Pairwise.imp (fun {a b} h => ?_) hsrt)
        have q := SrtO.lexB_no.mp h
        unfold leP
        omega
      rw [sortP_uniq hp hpw] at hall
      exact k p ys _ _ (s1.own n) (Ex.dom s1.hh n) (fresh_back s1.fh n) upd_same hall
/-! ### lists of lists that grow by appends -/
structure Bk (F H : Hp) (p : Addr) (as : List Addr) (ls : List (List Int)) : Prop where
  at_ : H p = some (.lst (as.map V.ref))
  nd : as.Nodup
  np : p ∉ as
  fp : F p = none
  fa : ∀ a ∈ as, F a = none
  it : All2 (fun a l => H a = some (.lst (l.map V.int))) as ls
theorem all2_upd {as : List Addr} {ls : List (List Int)} {H : Hp} {a : Addr} {o : HO} (h : All2 (fun a l => H a = some (.lst (l.map V.int))) as ls) (ha : a ∉ as) : All2 (fun a l => upd H a o a = upd H a o a ∧ H a = some (.lst (l.map V.int))) as ls :=
  h.imp fun _ _ q => ⟨rfl, q⟩
theorem Bk.put {p : Addr} {as : List Addr} {ls : List (List Int)} (b : Bk F H p as ls) {i : Nat} {a : Addr} {l' : List Int} (ha : as[i]? = some a) : Bk F (upd H a (.lst (l'.map V.int))) p as (ls.set i l') := by
  have ham : a ∈ as := List.mem_of_getElem? ha
  refine ⟨by rw [upd_ne (fun z : p = a => b.np (z.symm ▸ ham))]; exact b.at_, b.nd, b.np, b.fp, b.fa, All2.of (by rw [List.length_set]; exact b.it.len) fun j x l h1 h2 => ?_⟩
  by_cases hj : j = i
  · subst hj
    rw [ha] at h1
    cases h1
    rw [List.getElem?_set_self (by rw [← b.it.len]; exact (List.getElem?_eq_some_iff.mp ha).1)] at h2
    cases h2
    exact upd_same
  · have hx : x ≠ a := fun z => by
      subst z
      exact hj (nd_ix b.nd h1 ha)
    rw [List.getElem?_set_ne (Ne.symm hj)] at h2
    obtain ⟨y, hy, q⟩ := b.it.getl h1
    rw [hy] at h2
    cases h2
    rw [upd_ne hx]
    exact q
theorem Bk.stp {p : Addr} {as : List Addr} {ls : List (List Int)} (b : Bk F H p as ls) (s : Stp F H F' H') : Bk F' H' p as ls :=
  ⟨s.hh _ _ b.at_, b.nd, b.np, s.fno b.at_ b.fp, fun a h => by
    obtain ⟨l, _, q⟩ := all2_mem b.it h
    exact s.fno q (b.fa a h), b.it.imp fun _ _ q => s.hh _ _ q⟩
theorem Bk.ex {p : Addr} {as : List Addr} {ls : List (List Int)} (b : Bk F H p as ls) (e : Ex H H') : Bk F H' p as ls :=
  ⟨e _ _ b.at_, b.nd, b.np, b.fp, b.fa, b.it.imp fun _ _ q => e _ _ q⟩
/-- an object of ours elsewhere is written -/
theorem Bk.oth {o C dx : Addr} {fs : List (Str × V)} {u : HO} {p : Addr} {as : List Addr} {ls : List (List Int)} (b : Bk F H p as ls) (h : H o = some (.ins C dx fs)) : Bk F (upd H o u) p as ls :=
  ⟨by rw [upd_ne (fun z : p = o => by subst z; rw [b.at_] at h; cases h)]; exact b.at_, b.nd, b.np, b.fp, b.fa, All2.of b.it.len fun j x l h1 h2 => by
    obtain ⟨l', h3, q⟩ := b.it.getl h1
    rw [h3] at h2; cases h2
    rw [upd_ne (fun z : x = o => by subst z; rw [q] at h; cases h)]; exact q⟩
theorem Bk.ne {o C dx : Addr} {fs : List (Str × V)} {p : Addr} {as : List Addr} {ls : List (List Int)} (b : Bk F H p as ls) (h : H o = some (.ins C dx fs)) : o ≠ p ∧ o ∉ as :=
  ⟨(fun z => by subst z; rw [b.at_] at h; cases h), fun z => by
    obtain ⟨l, _, q⟩ := all2_mem b.it z
    rw [q] at h; cases h⟩
/-- all known from now on -/
theorem Bk.frz {F0 H0 : Hp} {p : Addr} {as : List Addr} {ls : List (List Int)} (b : Bk F H p as ls) (s : Stp F0 H0 F H) (hp : H0 p = none) (ha : ∀ a ∈ as, H0 a = none) :
    ∃ F', Stp F0 H0 F' H ∧ Ex F F' ∧ R K F' (.ref p) ls ∧ ∀ c, c ≠ p → c ∉ as → F' c = F c := by
  have key : ∀ (bs : List Addr) (F1 : Hp), Stp F0 H0 F1 H → (∀ a ∈ bs, F1 a = none ∧ H0 a = none ∧ ∃ o, H a = some o) → bs.Nodup → ∃ F', Stp F0 H0 F' H ∧ Ex F1 F' ∧ (∀ a ∈ bs, F' a = H a) ∧ ∀ a, a ∉ bs → F' a = F1 a := by
    intro bs
    induction bs with
    | nil => intro F1 s1 _ _; exact ⟨F1, s1, Ex.refl _, (fun a h => by cases h), fun _ _ => rfl⟩
    | cons a bs ih =>
      intro F1 s1 h nd
      obtain ⟨h1, h2, o, h3⟩ := h a List.mem_cons_self
      have nd' := List.nodup_cons.mp nd
      obtain ⟨F', q1, q2, q3, q4⟩ := ih (upd F1 a o) (s1.frz h2 h1 h3) (fun c hc => by
        obtain ⟨z1, z2, z3⟩ := h c (List.mem_cons_of_mem _ hc)
        exact ⟨by rw [upd_ne (fun z : c = a => nd'.1 (z ▸ hc))]; exact z1, z2, z3⟩) nd'.2
      refine ⟨F', q1, (Ex.new h1).trans q2, fun c hc => ?_, fun c hc => ?_⟩
      · rcases List.mem_cons.mp hc with rfl | hc
        · rw [q4 c nd'.1, upd_same, h3]
        · exact q3 c hc
      · rw [q4 c (fun z => hc (List.mem_cons_of_mem _ z)), upd_ne (fun z : c = a => hc (z.symm ▸ List.mem_cons_self))]
  obtain ⟨F', q1, q2, q3, q4⟩ := key (p :: as) F s (fun a h => by
    rcases List.mem_cons.mp h with rfl | h
    · exact ⟨b.fp, hp, _, b.at_⟩
    · obtain ⟨l, _, q⟩ := all2_mem b.it h
      exact ⟨b.fa a h, ha a h, _, q⟩) (List.nodup_cons.mpr ⟨b.np, b.nd⟩)
  refine ⟨F', q1, q2, ⟨p, as.map V.ref, rfl, by rw [q3 p List.mem_cons_self]; exact b.at_, ?_⟩, fun c h1 h2 => q4 c (by simp [h1, h2])⟩
  have hq : ∀ a ∈ as, F' a = H a := fun a h => q3 a (List.mem_cons_of_mem _ h)
  have hit := b.it
  clear q3 q4 q1 q2 key s hp ha
  have : ∀ (as : List Addr) (ls : List (List Int)), (∀ a ∈ as, F' a = H a) → All2 (fun a l => H a = some (.lst (l.map V.int))) as ls → All2 (R K F') (as.map V.ref) ls := by
    intro as ls h q
    induction q with
    | nil => exact .nil
    | cons x t ih => exact .cons ⟨_, _, rfl, by rw [h _ List.mem_cons_self]; exact x, all2_ints.mpr rfl⟩ (ih fun a ha => h a (List.mem_cons_of_mem _ ha))
  exact this as ls hq hit
/-- [[] for .. in ..] -/
theorem lc_empties {α : Type} [Rep α] {wi : TI} {g : TG} {vs : List Nat} {xs : List α} {B : Hp → α → L2.St → L2.St → Prop} (hi : IT K F G σ wi xs) (hg : Tgt K g B) (hn : xs.length ≤ 100000)
    (hw : ∀ F' x σ', B F' x (wipe σ vs) σ' → wipe σ' vs = wipe σ vs) : ∀ H, Ex F H → Ex G H → ∀ Q : VK,
    (∀ p as F' H', Stp F H F' H' → H p = none → (∀ a ∈ as, H a = none) → Bk F' H' p as (List.replicate xs.length []) → Q (.ref p) H') → tLc wi g tYes (tLst tNil) vs σ H Q := fun H0 e0 g0 Q k =>
  hi H0 e0 g0 _ fun J F1 H1 s1 wx D hD => by
    obtain ⟨Gd, Y, w, hgd, hy⟩ := id wx
    refine lc_it w (fun i H => ∃ F' as, Stp F1 H1 F' H ∧ Bk F' H D as (List.replicate i []) ∧ ∀ a ∈ as, H1 a = none)
      ⟨F1, [], (Stp.refl s1.fh).own hD, ⟨upd_same, List.nodup_nil, by simp, fresh_back s1.fh hD, by simp, .nil⟩, by simp⟩
      (fun i H _ ⟨F', as, s, _⟩ => hgd H (s.ff.trans s.fh)) ?_ ?_
    · rintro i v H H' hin ⟨F', as, s, b, hf⟩ y
      obtain ⟨x, hx, F2, s2, r2⟩ := hy i H v H' (s.ff.trans s.fh) hin y
      obtain ⟨s3, e3⟩ := s2.up s.ff s.fh
      have b3 := b.stp s3
      refine hg v x _ (cup F' F2) H' (Rep.mono e3 r2) s3.fh _ fun σ' hb => ⟨hw _ _ _ hb, ?_⟩
      simp only [tYes, ↓reduceIte]
      refine ⟨Nat.zero_le _, fun a ha => ?_⟩
      have haD : a ≠ D := fun z => by subst z; rw [b3.at_] at ha; cases ha
      have hna : a ∉ as := fun z => by
        obtain ⟨l, _, q⟩ := all2_mem b3.it z
        rw [q] at ha; cases ha
      have hlen : as.length = i := by have := b.it.len; simpa using this
      have ha1 : H1 a = none := Ex.dom (s.trans s3).hh ha
      refine ⟨as.map V.ref, by rw [upd_ne (Ne.symm haD)]; exact b3.at_, by rw [List.length_map, hlen]; exact Nat.lt_of_lt_of_le (show i < 100000 by omega) (by decide), cup F' F2, as ++ [a], ?_, ⟨by rw [upd_same]; simp, ?_, ?_, b3.fp, ?_, ?_⟩, ?_⟩
      · exact ((s.trans s3).own ha).mut hD b3.fp
      · exact List.nodup_append.mpr ⟨b3.nd, by simp, fun x h1 y h2 z => by simp at h2; subst h2; subst z; exact hna h1⟩
      · simp only [List.mem_append, List.mem_singleton]
        exact fun z => z.elim b3.np (fun q => haD q.symm)
      · intro c hc
        rcases List.mem_append.mp hc with hc | hc
        · exact b3.fa c hc
        · simp at hc; subst hc; exact fresh_back s3.fh ha
      · rw [List.replicate_succ']
        refine All2.app ?_ (.cons (by rw [upd_ne haD, upd_same]; rfl) .nil)
        refine All2.of b3.it.len fun j c l h1 h2 => ?_
        obtain ⟨l', h3, q⟩ := b3.it.getl h1
        rw [h3] at h2
        cases h2
        have hcm := List.mem_of_getElem? h1
        rw [upd_ne (fun z : c = D => b3.np (z ▸ hcm)), upd_ne (fun z : c = a => hna (z ▸ hcm))]
        exact q
      · intro c hc
        rcases List.mem_append.mp hc with hc | hc
        · exact hf c hc
        · simp at hc; subst hc; exact ha1
    · rintro H ⟨F', as, s, b, hf⟩
      exact k D as F' H (s1.trans s) (Ex.dom s1.hh hD) (fun a ha => Ex.dom s1.hh (hf a ha)) b
end
end L3

namespace L3
open PySem L2
open Evl (Ex ex_l ex_t fresh_back sz_of sz_lt ixN_nat)
open Rep (R)
open RepD (toD)
open Tr (adj hs IsTree TreeOn dist)
/-! ### villages as objects -/
def normR (e : Int × Int) : Int × Int := (min e.1 e.2, max e.1 e.2)
/-- the roads, each with the lesser house ahead, in order -/
def held (ls : Tr.Roads) : Tr.Roads := sortP (ls.map normR)
/-- next doors, in the order of the roads -/
def nb (es : Tr.Roads) (x : Int) : List Int := es.filterMap fun e => if e.1 = x then some e.2 else if e.2 = x then some e.1 else none
def tab (n : Int) (D : Int → Int → Int) : List (List Int) := (rng n).map fun i => (rng n).map fun j => D i j
theorem mem_nb {es : Tr.Roads} {x y : Int} : y ∈ nb es x → adj es x y := by
  intro h
  obtain ⟨e, he, q⟩ := List.mem_filterMap.mp h
  split at q
  · rename_i h1; cases q; subst h1; exact .inl he
  · split at q
    · rename_i h1; cases q; subst h1; exact .inr he
    · cases q
theorem nb_mem {es : Tr.Roads} {x y : Int} (ne : x ≠ y) : adj es x y → y ∈ nb es x := by
  intro h
  rcases h with h | h
  · exact List.mem_filterMap.mpr ⟨_, h, by simp⟩
  · exact List.mem_filterMap.mpr ⟨_, h, by simp [Ne.symm ne]⟩
theorem adj_perm {es fs : Tr.Roads} (p : es.Perm fs) (x y : Int) : adj es x y ↔ adj fs x y := by
  unfold adj; rw [p.mem_iff, p.mem_iff]
theorem adj_norm (es : Tr.Roads) (x y : Int) : adj (es.map normR) x y ↔ adj es x y := by
  have key : ∀ x y, (x, y) ∈ es.map normR → adj es x y := fun x y h => by
    obtain ⟨e, he, q⟩ := List.mem_map.mp h
    unfold normR at q
    injection q with q1 q2
    rcases Int.le_total e.1 e.2 with z | z
    · rw [Int.min_eq_left z] at q1; rw [Int.max_eq_right z] at q2; subst q1 q2; exact .inl he
    · rw [Int.min_eq_right z] at q1; rw [Int.max_eq_left z] at q2; subst q1 q2; exact .inr he
  have key2 : ∀ x y, (x, y) ∈ es → adj (es.map normR) x y := fun x y h => by
    rcases Int.le_total x y with z | z
    · exact .inl (List.mem_map.mpr ⟨_, h, by unfold normR; simp only [Int.min_eq_left z, Int.max_eq_right z]⟩)
    · exact .inr (List.mem_map.mpr ⟨_, h, by unfold normR; simp only [Int.min_eq_right z, Int.max_eq_left z]⟩)
  constructor
  · rintro (h | h)
    · exact key x y h
    · exact (key y x h).symm
  · rintro (h | h)
    · exact key2 x y h
    · exact (key2 y x h).symm
theorem adj_held (es : Tr.Roads) (x y : Int) : adj (held es) x y ↔ adj es x y := (adj_perm (sortP_perm _) x y).trans (adj_norm es x y)
theorem dist_held (es : Tr.Roads) (x y : Int) : dist (held es) x y = dist es x y := Tr.dist_congr (fun a b => adj_held es a b) x y
theorem held_len (es : Tr.Roads) : (held es).length = es.length := by unfold held; rw [(sortP_perm _).length_eq, List.length_map]
theorem tree_norm {V : Int → Prop} : ∀ (ls ms : Tr.Roads), TreeOn V (ms ++ ls) → TreeOn V (ms ++ ls.map normR)
  | [], ms, h => h
  | e :: ls, ms, h => by
    have h1 : TreeOn V (ms ++ normR e :: ls) := by
      obtain ⟨x, y⟩ := e
      unfold normR
      rcases Int.le_total x y with z | z
      · simp only [Int.min_eq_left z, Int.max_eq_right z]; exact h
      · simp only [Int.min_eq_right z, Int.max_eq_left z]; exact h.flip rfl
    have h2 := tree_norm ls (ms ++ [normR e]) (by simpa using h1)
    simpa using h2
theorem tree_held {n : Int} {es : Tr.Roads} (T : IsTree n es) : IsTree n (held es) := by
  refine ⟨T.pos, by rw [held_len]; exact T.len, ?_⟩
  exact (tree_norm es [] T.tr).perm (sortP_perm _).symm
/-- a village: its class, its roads in order -/
structure Vil where
  C : Addr
  n : Int
  es : Tr.Roads
structure VOk (v : Vil) : Prop where
  tree : IsTree v.n v.es
  small : v.n ≤ 60
  ord : v.es.Pairwise leP
  lt : ∀ e ∈ v.es, e.1 < e.2
def vfs (r b s : V) : List (Str × V) := [("roads_held", r), ("beside_held", b), ("steps_held", s)]
theorem rb_ : ¬ (("roads_held" : Str) = "beside_held") := by decide +kernel
theorem rs_ : ¬ (("roads_held" : Str) = "steps_held") := by decide +kernel
theorem bs_ : ¬ (("beside_held" : Str) = "steps_held") := by decide +kernel
theorem look_cons (f k : Str) (v : V) (l : List (Str × V)) : ((k, v) :: l).lookup f = if f = k then some v else l.lookup f := by
  rw [List.lookup_cons]
  by_cases h : f = k
  · subst h; simp
  · rw [if_neg h, beq_eq_false_iff_ne.mpr h]
theorem vfs_r (r b s : V) : (vfs r b s).lookup ("roads_held" : Str) = some r := by unfold vfs; rw [look_cons, if_pos rfl]
theorem vfs_b (r b s : V) : (vfs r b s).lookup ("beside_held" : Str) = some b := by unfold vfs; rw [look_cons, if_neg (Ne.symm rb_), look_cons, if_pos rfl]
theorem vfs_s (r b s : V) : (vfs r b s).lookup ("steps_held" : Str) = some s := by unfold vfs; rw [look_cons, if_neg (Ne.symm rs_), look_cons, if_neg (Ne.symm bs_), look_cons, if_pos rfl]
/-- no field of a village -/
def NoV (m : Str) : Prop := ¬ m = "roads_held" ∧ ¬ m = "beside_held" ∧ ¬ m = "steps_held"
instance (m : Str) : Decidable (NoV m) := by unfold NoV; infer_instance
theorem vfs_no {m : Str} (h : NoV m) (r b s : V) : (vfs r b s).lookup m = none := by
  unfold vfs
  rw [look_cons, if_neg h.1, look_cons, if_neg h.2.1, look_cons, if_neg h.2.2]
  rfl
instance : Rep Vil := ⟨fun K F v x => ∃ (a dx : Addr) (r b s : V), v = .ref a ∧ F a = some (.ins x.C dx (vfs r b s)) ∧ VOk x ∧ R K F r x.es ∧ R K F b ((rng x.n).map (nb x.es)) ∧ R K F s (tab x.n (dist x.es)),
  fun e ⟨a, dx, r, b, s, h1, h2, h3, h4, h5, h6⟩ => ⟨a, dx, r, b, s, h1, e _ _ h2, h3, Rep.mono e h4, Rep.mono e h5, Rep.mono e h6⟩⟩
section
variable {K : PySem.W.Frag} {F F' G H H' : Hp} {σ : L2.St} {ta tb tc te tl : TE} {E : XK} {v : Vil}
variable {α β γ δ : Type} [Rep α] [Rep β] [Rep γ] [Rep δ] {x : α} {y : β} {z : γ}
theorem ev_roads (hc : Cls K v.C) (hn : NoAttr K v.C "roads_held") (ha : EvX K F G σ ta v) : EvX K F G σ (tFld K ta "roads_held") v.es := fun H e g Q k =>
  ha H e g _ fun u F1 H1 s1 ⟨a, dx, r, b, s, h1, h2, h3, h4, h5, h6⟩ => ⟨a, v.C, dx, _, r, h1, s1.fh _ _ h2, hc, hn, vfs_r r b s, k r F1 H1 s1 h4⟩
theorem ev_beside (hc : Cls K v.C) (hn : NoAttr K v.C "beside_held") (ha : EvX K F G σ ta v) : EvX K F G σ (tFld K ta "beside_held") ((rng v.n).map (nb v.es)) := fun H e g Q k =>
  ha H e g _ fun u F1 H1 s1 ⟨a, dx, r, b, s, h1, h2, h3, h4, h5, h6⟩ => ⟨a, v.C, dx, _, b, h1, s1.fh _ _ h2, hc, hn, vfs_b r b s, k b F1 H1 s1 h5⟩
theorem ev_steps (hc : Cls K v.C) (hn : NoAttr K v.C "steps_held") (ha : EvX K F G σ ta v) : EvX K F G σ (tFld K ta "steps_held") (tab v.n (dist v.es)) := fun H e g Q k =>
  ha H e g _ fun u F1 H1 s1 ⟨a, dx, r, b, s, h1, h2, h3, h4, h5, h6⟩ => ⟨a, v.C, dx, _, s, h1, s1.fh _ _ h2, hc, hn, vfs_s r b s, k s F1 H1 s1 h6⟩
/-- what is so of every village that stands somewhere -/
theorem vok_of (h : R K F (V.ref 0) v ∨ ∃ u, R K F u v) : VOk v := by
  rcases h with ⟨a, dx, r, b, s, _, _, h3, _⟩ | ⟨u, a, dx, r, b, s, _, _, h3, _⟩ <;> exact h3
theorem ev_vm0 {C : Addr} {m : Str} {pre : Vil → Prop} {f : Vil → δ} (ha : EvX K F G σ ta v) (hC : v.C = C) (hm : NoV m) (hp : pre v) : EvX K F G σ (tMeth C m (Pu1 K pre f) [] E ta tNil) (f v) := fun H e g Q k =>
  ha H e g _ fun u F1 H1 s1 r1 => by
    obtain ⟨a, dx, r, b, s, rfl, h2, _⟩ := id r1
    subst hC
    exact ⟨a, dx, _, rfl, s1.fh _ _ h2, vfs_no hm r b s, F1, v, _, rfl, s1.fh, r1, hp, fun u F2 H2 s2 r2 => k u F2 H2 (s1.trans s2) r2⟩
theorem ev_vm1 {C : Addr} {m : Str} {pre : Vil → β → Prop} {f : Vil → β → δ} (ha : EvX K F G σ ta v) (hb : EvX K F G σ tb y) (hC : v.C = C) (hm : NoV m) (hp : pre v y) : EvX K F G σ (tMeth C m (Pu2 K pre f) [] E ta (tCons tb tNil)) (f v y) := fun H e g Q k =>
  ha H e g _ fun u F1 H1 s1 r1 => by
    obtain ⟨a, dx, r, b, s, rfl, h2, _⟩ := id r1
    subst hC
    refine ⟨a, dx, _, rfl, s1.fh _ _ h2, vfs_no hm r b s, (hb.up s1.ff) H1 s1.fh (g.trans s1.hh) _ fun w F2 H2 s2 r2 => ?_⟩
    exact ⟨F2, v, y, _, w, rfl, s2.fh, Rep.mono s2.ff r1, r2, hp, fun u F3 H3 s3 r3 => k u F3 H3 ((s1.trans s2).trans s3) r3⟩
theorem ev_vm2 {C : Addr} {m : Str} {pre : Vil → β → γ → Prop} {f : Vil → β → γ → δ} (ha : EvX K F G σ ta v) (hb : EvX K F G σ tb y) (hd : EvX K F G σ tc z) (hC : v.C = C) (hm : NoV m) (hp : pre v y z) : EvX K F G σ (tMeth C m (Pu3 K pre f) [] E ta (tCons tb (tCons tc tNil))) (f v y z) := fun H e g Q k =>
  ha H e g _ fun u F1 H1 s1 r1 => by
    obtain ⟨a, dx, r, b, s, rfl, h2, _⟩ := id r1
    subst hC
    refine ⟨a, dx, _, rfl, s1.fh _ _ h2, vfs_no hm r b s, (hb.up s1.ff) H1 s1.fh (g.trans s1.hh) _ fun w F2 H2 s2 r2 => (hd.up (s1.ff.trans s2.ff)) H2 s2.fh ((g.trans s1.hh).trans s2.hh) _ fun t F3 H3 s3 r3 => ?_⟩
    exact ⟨F3, v, y, z, _, w, t, rfl, s3.fh, Rep.mono (s2.ff.trans s3.ff) r1, Rep.mono s3.ff r2, r3, hp, fun u F4 H4 s4 r4 => k u F4 H4 (((s1.trans s2).trans s3).trans s4) r4⟩
theorem en_vm0 {C : Addr} {m : Str} {pre : Vil → Prop} {f : Vil → List δ} (ha : EvX K F G σ ta v) (hC : v.C = C) (hm : NoV m) (hp : pre v) : EvN K F G σ (tMeth C m (PuL1 K pre f) [] E ta tNil) (f v) := fun H e g Q k =>
  ha H e g _ fun u F1 H1 s1 r1 => by
    obtain ⟨a, dx, r, b, s, rfl, h2, _⟩ := id r1
    subst hC
    exact ⟨a, dx, _, rfl, s1.fh _ _ h2, vfs_no hm r b s, F1, v, _, rfl, s1.fh, r1, hp, fun p us F2 H2 s2 n0 n1 h2 r2 => k _ _ _ H2 (s1.trans s2) (Ex.dom s1.hh n0) n1 h2 r2⟩
/-! tables -/
theorem rng_at {n i : Int} (h : hs n i) : atI (rng n) i = some i := by
  have h1 : (rng n)[i.toNat]? = some (i.toNat : Int) := rng_get (by have := h.1; have := h.2; omega)
  have h2 := atI_nat h1
  rwa [Int.toNat_of_nonneg h.1] at h2
theorem map_at {α β : Type} {f : α → β} {l : List α} {i : Int} {a : α} (h : atI l i = some a) : atI (l.map f) i = some (f a) := by
  unfold atI at h ⊢
  rw [List.length_map]
  cases q : ixN l.length i with
  | none => rw [q] at h; cases h
  | some j =>
    rw [q] at h
    show (l.map f)[j]? = _
    rw [List.getElem?_map]
    have h' : l[j]? = some a := h
    rw [h']; rfl
theorem ev_tab {n i j : Int} {D : Int → Int → Int} (ha : EvX K F G σ ta (tab n D)) (hb : EvX K F G σ tb i) (hd : EvX K F G σ tc j) (hi : hs n i) (hj : hs n j) : EvX K F G σ (tIx K (tIx K ta tb) tc) (D i j) :=
  ev_ix (ev_ix ha hb (map_at (rng_at hi))) hd (map_at (rng_at hj))
end
end L3

namespace L3
open PySem L2
open Evl (Ex ex_l ex_t fresh_back sz_of sz_lt ixN_nat)
open Rep (R)
open RepD (toD)
open Tr (adj hs IsTree TreeOn dist)
/-! ### rules -/
def rIpA : TIp := fun x y H Q => ipI (fun i j => i + j) x y H Q ∨ rExt2 x y H Q
theorem ip_addA {X : Cx} : PIp X .Add rIpA := fun pins s σ H x y v u Q I rx ry h => h.elim (ip_add pins s σ H x y v u Q I rx ry) (iop_ext pins s σ H x y v u Q I rx ry)
section
variable {J : It} {n : Nat} {G : Hp → Prop} {Y : Nat → Hp → V → Hp → Prop}
theorem dc_it (w : Walk J n G Y) {g : TG} {tt : TT} {tk tv : TE} {vs : List Nat} {σ : L2.St} {H1 : Hp} {D : Addr} {Qd : Hp → Prop} (Pv : Nat → Hp → Prop) (h0 : Pv 0 (upd H1 D (.dK []))) (hG : ∀ i H, i ≤ n → Pv i H → G H)
    (hs : ∀ i x H H', i < n → Pv i H → Y i H x H' → g x (wipe σ vs) H' fun σ2 H2 => wipe σ2 vs = wipe σ vs ∧ tt σ2 H2 fun b H3 =>
      if b = true then tk σ2 H3 fun y H4 => tv σ2 H4 fun z H5 => ∃ kvs k, y = kV k ∧ H5 D = some (.dK kvs) ∧ kvs.length < sizeLine ∧ Pv (i + 1) (upd H5 D (.dK (putK kvs k z))) else Pv (i + 1) H3) (hd : ∀ H, Pv n H → Qd H) :
    ∃ W : Nat → Nat → Hp → Prop, (∃ m, W 0 m (upd H1 D (.dK []))) ∧ ∀ i m H, W i m H →
      (J.stop i H ∧ Qd H) ∨ (J.go i H ∧ ∃ Nx : Hp → Prop, (∀ H', Nx H' → ∃ m', m' < m ∧ W (i + 1) m' H') ∧ ∀ x H', J.yld i H x H' → g x (wipe σ vs) H' fun σ2 H2 => wipe σ2 vs = wipe σ vs ∧ tt σ2 H2 fun b H3 =>
        if b = true then tk σ2 H3 fun y H4 => tv σ2 H4 fun z H5 => ∃ kvs k, y = kV k ∧ H5 D = some (.dK kvs) ∧ kvs.length < sizeLine ∧ Nx (upd H5 D (.dK (putK kvs k z))) else Nx H3) := by
  refine ⟨fun i m H => m = n - i ∧ i ≤ n ∧ Pv i H, ⟨n, by simp, Nat.zero_le _, h0⟩, ?_⟩
  rintro i m H ⟨rfl, hi, p⟩
  have q := hG i H hi p
  by_cases hlt : i < n
  · refine .inr ⟨w.goes i H hlt q, Pv (i + 1), fun H' p' => ⟨n - (i + 1), by omega, rfl, hlt, p'⟩, fun x H' y => hs i x H H' hlt p (w.yields i H x H' hlt q y)⟩
  · have e : i = n := by omega
    subst e
    exact .inl ⟨w.stops H q, hd H p⟩
end
theorem mem_keys {kvs : List (Key × V)} {k : Key} : k ∈ kvs.map Prod.fst ↔ ∃ v, valV kvs k = some v := by
  constructor
  · intro h
    obtain ⟨p, hp, rfl⟩ := List.mem_map.mp h
    exact mem_valV hp
  · rintro ⟨v, h⟩
    exact List.mem_map.mpr ⟨_, valV_some_mem h, rfl⟩
theorem putK_all {kvs : List (Key × V)} {k : Key} {c : V} (h : ∀ p ∈ kvs, p.2 = c) : ∀ p ∈ putK kvs k c, p.2 = c := fun p hp => by
  rcases mem_putK hp with rfl | hp
  · rfl
  · exact h p hp
/-- what a dict tells behind an update by alike values -/
theorem valV_upd {kvs more : List (Key × V)} {c : V} {L : List Int} (h : ∀ p ∈ more, p.2 = c) (hm : ∀ i : Int, valV more (.inl i) = if i ∈ L then some c else none) (i : Int) :
    valV (mergeK kvs more) (.inl i) = if i ∈ L then some c else valV kvs (.inl i) := by
  obtain ⟨h1, h2⟩ := valV_merge more kvs (.inl i) h
  by_cases q : i ∈ L
  · rw [if_pos q]
    exact h1 (mem_keys.mpr ⟨c, by rw [hm, if_pos q]⟩)
  · rw [if_neg q]
    refine h2 fun z => ?_
    obtain ⟨v, hv⟩ := mem_keys.mp z
    rw [hm, if_neg q] at hv
    cases hv
section
variable {K : PySem.W.Frag} {F F' G H H' : Hp} {σ : L2.St} {ta tb tc te tl tk tv : TE} {tt : TT} {E : XK}
variable {α β γ δ : Type} [Rep α] [Rep β] [Rep γ] [Rep δ] {x : α} {y : β} {z : γ}
theorem ev_dnotin {d : Addr} {kvs : List (Key × V)} {i : Int} (ha : EvX K F G σ ta i) (hb : EvX K F G σ tb (V.ref d)) (h : G d = some (.dK kvs)) : EvX K F G σ (tOp (rNotInA K) ta tb) (!(valV kvs (.inl i)).isSome) :=
  ev_op ha hb fun F1 u w _ h1 h2 H1 e1 g1 Q k => by
    cases h1; cases h2
    exact .inl ⟨d, _, rfl, DGet.k (k := .inl i) (g1 _ _ h), k _ F1 H1 (Stp.refl e1) rfl⟩
theorem ev_din {d : Addr} {kvs : List (Key × V)} {i : Int} (ha : EvX K F G σ ta i) (hb : EvX K F G σ tb (V.ref d)) (h : G d = some (.dK kvs)) : EvX K F G σ (tOp (rInA K) ta tb) (valV kvs (.inl i)).isSome :=
  ev_op ha hb fun F1 u w _ h1 h2 H1 e1 g1 Q k => by
    cases h1; cases h2
    exact .inl ⟨d, _, rfl, DGet.k (k := .inl i) (g1 _ _ h), k _ F1 H1 (Stp.refl e1) rfl⟩
theorem ev_dget {d : Addr} {kvs : List (Key × V)} {i : Int} {v : V} (ha : EvX K F G σ ta (V.ref d)) (hb : EvX K F G σ tb i) (h : G d = some (.dK kvs)) (hv : valV kvs (.inl i) = some v) (r : R K F v x) : EvX K F G σ (tIx K ta tb) x := fun H e g Q k =>
  .inr (ha H e g _ fun u F1 H1 s1 h1 => (hb.up s1.ff) H1 s1.fh (g.trans s1.hh) _ fun w F2 H2 s2 h2 => by
    cases h1; cases h2
    exact ⟨d, v, rfl, by rw [← hv]; exact DGet.k (k := .inl i) (((g.trans s1.hh).trans s2.hh) _ _ h), k v F2 H2 (s1.trans s2) (Rep.mono (s1.ff.trans s2.ff) r)⟩)
/-- {k: c for k in ..} -/
theorem dc_const {wi : TI} {g : TG} {vs : List Nat} {xs : List Int} {c : Int} {B : Hp → Int → L2.St → L2.St → Prop} (hi : IT K F G σ wi xs) (hg : Tgt K g B) (hn : xs.length ≤ 100000)
    (hw : ∀ F' x σ', B F' x (wipe σ vs) σ' → wipe σ' vs = wipe σ vs)
    (hk : ∀ F' x σ', Ex F F' → B F' x (wipe σ vs) σ' → EvX K F' G σ' tk x)
    (hv : ∀ F' x σ', Ex F F' → B F' x (wipe σ vs) σ' → EvX K F' G σ' tv c) : ∀ H, Ex F H → Ex G H → ∀ Q : VK,
    (∀ p kvs F' H', Stp F H F' H' → H p = none → F' p = none → H' p = some (.dK kvs) → kvs.length ≤ xs.length → (∀ q ∈ kvs, q.2 = .int c) → (∀ i : Int, valV kvs (.inl i) = if i ∈ xs then some (.int c) else none) → Q (.ref p) H') → tDc wi g tYes tk tv vs σ H Q := fun H0 e0 g0 Q k =>
  hi H0 e0 g0 _ fun J F1 H1 s1 wx D hD => by
    obtain ⟨Gd, Y, w, hgd, hy⟩ := id wx
    have g1 : Ex G H1 := g0.trans s1.hh
    refine dc_it w (fun i H => ∃ F' kvs, Stp F1 H1 F' H ∧ F' D = none ∧ H D = some (.dK kvs) ∧ kvs.length ≤ i ∧ (∀ q ∈ kvs, q.2 = .int c) ∧ (∀ j : Int, valV kvs (.inl j) = if j ∈ xs.take i then some (.int c) else none))
      ⟨F1, [], (Stp.refl s1.fh).own hD, fresh_back s1.fh hD, upd_same, Nat.le_refl _, fun q h => (by cases h), fun j => by simp [valV]⟩
      (fun i H _ ⟨F', kvs, s, _⟩ => hgd H (s.ff.trans s.fh)) ?_ ?_
    · rintro i v H H' hin ⟨F', kvs, s, fD, hDa, hl, h1, h2⟩ y
      obtain ⟨x, hx, F2, s2, r2⟩ := hy i H v H' (s.ff.trans s.fh) hin y
      obtain ⟨s3, e3⟩ := s2.up s.ff s.fh
      have hDa' : H' D = some (.dK kvs) := s3.hh D _ hDa
      have fD' : cup F' F2 D = none := s3.fno hDa fD
      have s4 := s.trans s3
      refine hg v x _ (cup F' F2) H' (Rep.mono e3 r2) s3.fh _ fun σ' hb => ⟨hw _ _ _ hb, ?_⟩
      simp only [tYes, ↓reduceIte]
      have e1 : Ex F (cup F' F2) := s1.ff.trans s4.ff
      refine hk _ x σ' e1 hb H' s3.fh (g1.trans s4.hh) _ fun u F5 H5 s5 r5 => ?_
      refine (hv _ x σ' e1 hb).up s5.ff H5 s5.fh ((g1.trans s4.hh).trans s5.hh) _ fun w F6 H6 s6 r6 => ?_
      cases r5; cases r6
      have hD6 := s6.hh D _ (s5.hh D _ hDa')
      have fD6 : F6 D = none := s6.fno (s5.hh D _ hDa') (s5.fno hDa' fD')
      refine ⟨kvs, .inl x, rfl, hD6, Nat.lt_of_lt_of_le (show kvs.length < 100001 by omega) (by decide), F6, putK kvs (.inl x) (.int c), ((s4.trans s5).trans s6).mut hD fD6, fD6, upd_same, ?_, putK_all h1, fun j => ?_⟩
      · have := length_putK kvs (.inl x) (.int c)
        omega
      · rw [valV_put, h2, List.take_add_one, hx]
        by_cases q : j = x
        · subst q
          rw [if_pos rfl, if_pos (by simp)]
        · rw [if_neg (fun z => q (by cases z; rfl))]
          have : (j ∈ List.take i xs ++ (some x).toList) ↔ j ∈ List.take i xs := by simp [q]
          by_cases q2 : j ∈ List.take i xs
          · rw [if_pos q2, if_pos (this.mpr q2)]
          · rw [if_neg q2, if_neg (fun z => q2 (this.mp z))]
    · rintro H ⟨F', kvs, s, fD, hDa, hl, h1, h2⟩
      rw [List.take_length] at h2
      exact k D kvs F' H (s1.trans s) (Ex.dom s1.hh hD) fD hDa hl h1 h2
end
/-! ### levels of a tree -/
theorem split_pw {α : Type} {R : α → α → Prop} : ∀ (es pre : List α), (∀ l1 e l2, pre ++ es = l1 ++ e :: l2 → ∀ e' ∈ l2, R e e') → es.Pairwise R
  | [], _, _ => .nil
  | e :: es, pre, h => .cons (fun e' he => h pre e es rfl e' he) (split_pw es (pre ++ [e]) fun l1 a l2 q => h l1 a l2 (by simpa using q))
section
variable {n : Int} {es : Tr.Roads} (T : IsTree n es)
include T in
theorem nb_nodup (x : Int) : (nb es x).Nodup := by
  unfold nb
  refine List.Pairwise.filterMap _ ?_ (split_pw (R := fun e e' => ¬ ((e.1 = e'.1 ∧ e.2 = e'.2) ∨ (e.1 = e'.2 ∧ e.2 = e'.1))) es [] ?_)
  · intro e e' hr y hy y' hy' hyy
    subst hyy
    apply hr
    split at hy
    · rename_i h1
      split at hy'
      · rename_i h2
        have a := Option.some.inj hy
        have b := Option.some.inj hy'
        exact .inl ⟨by omega, by omega⟩
      · split at hy'
        · have a := Option.some.inj hy
          have b := Option.some.inj hy'
          exact .inr ⟨by omega, by omega⟩
        · cases hy'
    · split at hy
      · split at hy'
        · have a := Option.some.inj hy
          have b := Option.some.inj hy'
          exact .inr ⟨by omega, by omega⟩
        · split at hy'
          · have a := Option.some.inj hy
            have b := Option.some.inj hy'
            exact .inl ⟨by omega, by omega⟩
          · cases hy'
      · cases hy
  · intro l1 e l2 q e' he hh
    obtain ⟨A, h1, h2⟩ := T.tr.acyc l1 e l2 q
    have h3 := h2 e' (by simp [he])
    rcases hh with ⟨a, b⟩ | ⟨a, b⟩
    · rw [a, b] at h1; exact h1 h3
    · rw [a, b] at h1; exact h1 h3.symm
include T in
theorem parent_uniq {s v h h' : Int} (hS : hs n s) (hh : hs n h) (hh' : hs n h') (a : adj es h v) (a' : adj es h' v) (e : dist es s h + 1 = dist es s v) (e' : dist es s h' + 1 = dist es s v) : h = h' := by
  apply Classical.byContradiction
  intro ne
  have key : ∀ e0 : Int × Int, e0 ∈ es → (e0 = (h, v) ∨ e0 = (v, h)) → False := by
    intro e0 he0 hor
    obtain ⟨l1, l2, hes⟩ := List.append_of_mem he0
    obtain ⟨A, h1, h2⟩ := T.tr.acyc l1 e0 l2 hes
    have hA : A h ≠ A v := by
      rcases hor with rfl | rfl
      · exact h1
      · exact fun z => h1 z.symm
    have c1 : ∀ u u', (u, u') ∈ es → ¬ (u = h ∧ u' = v) → ¬ (u = v ∧ u' = h) → A u = A u' := by
      intro u u' hu q1 q2
      refine h2 (u, u') ?_
      rw [hes] at hu
      rcases List.mem_append.mp hu with z | z
      · exact List.mem_append_left _ z
      · rcases List.mem_cons.mp z with z | z
        · exfalso
          rcases hor with rfl | rfl
          · injection z with z1 z2; exact q1 ⟨z1, z2⟩
          · injection z with z1 z2; exact q2 ⟨z1, z2⟩
        · exact List.mem_append_right _ z
    have c2 : ∀ u u', adj es u u' → ¬ (u = h ∧ u' = v) → ¬ (u = v ∧ u' = h) → A u = A u' := by
      intro u u' hu q1 q2
      rcases hu with hu | hu
      · exact c1 u u' hu q1 q2
      · exact (c1 u' u hu (fun z => q2 ⟨z.2, z.1⟩) (fun z => q1 ⟨z.2, z.1⟩)).symm
    have c3 : ∀ (k : Nat) (u : Int), hs n u → dist es s u = (k : Int) → dist es s u ≤ dist es s h → A u = A s := by
      intro k
      induction k with
      | zero =>
        intro u hu q _
        rw [(Tr.dist_zero T hS hu).mp (by omega)]
      | succ k ih =>
        intro u hu q hle
        have hne : u ≠ s := fun z => by subst z; rw [Tr.dist_self T hu] at q; omega
        obtain ⟨w, hw, ad, hd⟩ := (Tr.dist_is T hS).back u hu hne
        rw [← ih w hw (by omega) (by omega)]
        refine (c2 w u ad (fun z => ?_) (fun z => ?_)).symm
        · rw [z.2] at hle; omega
        · rw [z.1] at hd; omega
    have d1 := c3 (dist es s h).toNat h hh (by have := Tr.dist_nn T hS hh; omega) (Int.le_refl _)
    have d2 := c3 (dist es s h').toNat h' hh' (by have := Tr.dist_nn T hS hh'; omega) (by omega)
    have d3 := c2 h' v a' (fun z => ne z.1.symm) (fun z => by rw [z.1] at e'; omega)
    exact hA (by rw [d1, ← d2, d3])
  rcases a with a | a
  · exact key _ a (.inl rfl)
  · exact key _ a (.inr rfl)
end
theorem nodup_le : ∀ (xs ys : List Int), xs.Nodup → (∀ x ∈ xs, x ∈ ys) → xs.length ≤ ys.length
  | [], _, _, _ => Nat.zero_le _
  | x :: xs, ys, h, k => by
    obtain ⟨h1, h2⟩ := List.nodup_cons.mp h
    have hx := k x List.mem_cons_self
    have := nodup_le xs (ys.erase x) h2 fun y hy => (List.mem_erase_of_ne (fun z => by subst z; exact h1 hy)).mpr (k y (List.mem_cons_of_mem _ hy))
    rw [List.length_erase_of_mem hx] at this
    have := List.length_pos_of_mem hx
    simp only [List.length_cons]
    omega
theorem filter_lt {α : Type} {p q : α → Bool} : ∀ (l : List α), (∀ x, p x = true → q x = true) → (∃ a ∈ l, q a = true ∧ p a = false) → (l.filter p).length < (l.filter q).length
  | [], _, ⟨a, h, _⟩ => by cases h
  | b :: l, hpq, ⟨a, h, h1, h2⟩ => by
    have hle : ∀ l : List α, (l.filter p).length ≤ (l.filter q).length := by
      intro l
      induction l with
      | nil => exact Nat.le_refl _
      | cons c l ih =>
        rw [List.filter_cons, List.filter_cons]
        cases e : p c with
        | true => rw [hpq c e]; simp; exact ih
        | false =>
          simp only [Bool.false_eq_true, ↓reduceIte]
          split
          · simp; omega
          · exact ih
    rw [List.filter_cons, List.filter_cons]
    rcases List.mem_cons.mp h with rfl | h
    · rw [h1, h2]
      simp only [Bool.false_eq_true, ↓reduceIte, List.length_cons]
      have := hle l
      omega
    · have ih := filter_lt l hpq ⟨a, h, h1, h2⟩
      cases e : p b with
      | true => rw [hpq b e]; simp; exact ih
      | false =>
        simp only [Bool.false_eq_true, ↓reduceIte]
        split
        · simp; omega
        · exact ih
structure Lev (n : Int) (D : Int → Int) (t : Int) (kvs : List (Key × V)) (edge : List Int) : Prop where
  nn : 0 ≤ t
  yes : ∀ v, hs n v → D v ≤ t → valV kvs (.inl v) = some (.int (D v))
  no : ∀ v, ¬ (hs n v ∧ D v ≤ t) → valV kvs (.inl v) = none
  edg : ∀ v, v ∈ edge ↔ hs n v ∧ D v = t
  nd : edge.Nodup
def newOf (es : Tr.Roads) (kvs : List (Key × V)) (h : Int) : List Int := (nb es h).filter fun y => !(valV kvs (.inl y)).isSome
/-- houses that are yet to be reached -/
def cnt (n : Int) (D : Int → Int) (t : Int) : Nat := ((rng n).filter fun v => decide (t ≤ D v)).length
section
variable {n : Int} {es : Tr.Roads} (T : IsTree n es) {s : Int} (hS : hs n s) {t : Int} {kvs : List (Key × V)} {edge : List Int}
include T hS in
theorem lev_start : Lev n (dist es s) 0 [(.inl s, .int 0)] [s] := by
  refine ⟨Int.le_refl _, fun v hv h => ?_, fun v h => ?_, fun v => ?_, by simp⟩
  · have h0 := Tr.dist_nn T hS hv
    have := (Tr.dist_zero T hS hv).mp (by omega)
    subst this
    rw [Tr.dist_self T hS]
    exact valV_pos rfl
  · rw [valV_neg (fun z => h (by cases z; exact ⟨hS, by rw [Tr.dist_self T hS]; omega⟩))]
    rfl
  · constructor
    · intro h
      rw [List.mem_singleton.mp h]
      exact ⟨hS, Tr.dist_self T hS⟩
    · rintro ⟨h1, h2⟩
      rw [(Tr.dist_zero T hS h1).mp h2]
      exact List.mem_singleton.mpr rfl
include T hS in
theorem lev_mem (L : Lev n (dist es s) t kvs edge) (v : Int) : v ∈ edge.flatMap (newOf es kvs) ↔ hs n v ∧ dist es s v = t + 1 := by
  constructor
  · intro h
    obtain ⟨u, hu, hv⟩ := List.mem_flatMap.mp h
    obtain ⟨h1, h2⟩ := List.mem_filter.mp hv
    have ad := mem_nb h1
    obtain ⟨q1, q2⟩ := (L.edg u).mp hu
    have hvs := (Tr.adj_hs T ad).2
    have := (Tr.dist_is T hS).edge u v q1 hvs ad
    refine ⟨hvs, ?_⟩
    have : ¬ dist es s v ≤ t := fun z => by rw [L.yes v hvs z] at h2; cases h2
    omega
  · rintro ⟨h1, h2⟩
    have := L.nn
    have hne : v ≠ s := fun z => by subst z; rw [Tr.dist_self T h1] at h2; omega
    obtain ⟨u, hu, ad, hd⟩ := (Tr.dist_is T hS).back v h1 hne
    refine List.mem_flatMap.mpr ⟨u, (L.edg u).mpr ⟨hu, by omega⟩, List.mem_filter.mpr ⟨nb_mem (Tr.adj_ne T ad) ad, ?_⟩⟩
    rw [L.no v (fun z => by omega)]
    rfl
include T hS in
theorem lev_next (L : Lev n (dist es s) t kvs edge) {kvs' : List (Key × V)} (h : ∀ v : Int, valV kvs' (.inl v) = if v ∈ edge.flatMap (newOf es kvs) then some (.int (t + 1)) else valV kvs (.inl v)) :
    Lev n (dist es s) (t + 1) kvs' (edge.flatMap (newOf es kvs)) := by
  have hm := lev_mem T hS L
  refine ⟨by have := L.nn; omega, fun v hv hd => ?_, fun v hv => ?_, hm, ?_⟩
  · rw [h]
    by_cases q : dist es s v = t + 1
    · rw [if_pos ((hm v).mpr ⟨hv, q⟩), q]
    · rw [if_neg (fun z => q ((hm v).mp z).2)]
      exact L.yes v hv (by omega)
  · rw [h, if_neg (fun z => hv ⟨((hm v).mp z).1, by have := ((hm v).mp z).2; omega⟩)]
    exact L.no v fun z => hv ⟨z.1, by omega⟩
  · refine List.pairwise_flatMap.mpr ⟨fun u _ => (nb_nodup T u).filter _, ?_⟩
    refine L.nd.imp_of_mem fun {a b} ha hb hne x hx y hy z => ?_
    subst z
    obtain ⟨a1, a2⟩ := (L.edg a).mp ha
    obtain ⟨b1, b2⟩ := (L.edg b).mp hb
    have hx2 := ((hm x).mp (List.mem_flatMap.mpr ⟨a, ha, hx⟩)).2
    exact hne (parent_uniq T hS a1 b1 (mem_nb (List.mem_filter.mp hx).1) (mem_nb (List.mem_filter.mp hy).1) (by omega) (by omega))
include T hS in
theorem lev_done (L : Lev n (dist es s) t kvs []) (v : Int) (hv : hs n v) : valV kvs (.inl v) = some (.int (dist es s v)) := by
  have key : ∀ (k : Nat) (v : Int), hs n v → dist es s v = t + (k : Int) → False := by
    intro k
    induction k with
    | zero =>
      intro v hv h
      have := (L.edg v).mpr ⟨hv, by omega⟩
      cases this
    | succ k ih =>
      intro v hv h
      have := L.nn
      have hne : v ≠ s := fun z => by subst z; rw [Tr.dist_self T hv] at h; omega
      obtain ⟨u, hu, ad, hd⟩ := (Tr.dist_is T hS).back v hv hne
      exact ih u hu (by omega)
  refine L.yes v hv ?_
  apply Classical.byContradiction
  intro q
  exact key (dist es s v - t).toNat v hv (by omega)
theorem lev_len {D : Int → Int} (L : Lev n D t kvs edge) : edge.length ≤ n.toNat := by
  have := nodup_le edge (rng n) L.nd fun x hx => mem_rng.mpr ((L.edg x).mp hx).1
  rwa [rng_len] at this
theorem cnt_lt {D : Int → Int} (L : Lev n D t kvs edge) (h : edge ≠ []) : cnt n D (t + 1) < cnt n D t := by
  obtain ⟨v, hv⟩ : ∃ v, v ∈ edge := by
    cases edge with
    | nil => exact absurd rfl h
    | cons a l => exact ⟨a, List.mem_cons_self⟩
  obtain ⟨h1, h2⟩ := (L.edg v).mp hv
  refine filter_lt _ (fun x hx => ?_) ⟨v, mem_rng.mpr h1, ?_, ?_⟩
  · have := of_decide_eq_true hx
    exact decide_eq_true (by omega)
  · exact decide_eq_true (by omega)
  · exact decide_eq_false (by omega)
theorem cnt_le {D : Int → Int} (t : Int) : cnt n D t ≤ n.toNat := by
  have := List.length_filter_le (fun v => decide (t ≤ D v)) (rng n)
  rwa [rng_len] at this
end
/-- rows of ways from one house on -/
def sp_steps (K : PySem.W.Frag) : Sp := fun vs H Q _ => ∃ (F : Hp) (b : V) (s n : Int) (es : Tr.Roads), vs = [b, .int s] ∧ Ex F H ∧ R K F b ((rng n).map (nb es)) ∧ IsTree n es ∧ n ≤ 60 ∧ hs n s ∧
  ∀ u F' H', Stp F H F' H' → R K F' u ((rng n).map (dist es s)) → Q u H'
/-- a village as it is made -/
def sp_vil (K : PySem.W.Frag) (C : Addr) : Sp := fun vs H Q _ => ∃ (F H0 : Hp) (x dx : Addr) (w : V) (n : Int) (es : Tr.Roads), vs = [.ref x, w] ∧ Ex F H0 ∧ Stp F H0 F H ∧ H0 x = none ∧ H x = some (.ins C dx []) ∧ R K F w es ∧ IsTree n es ∧ n ≤ 60 ∧
  ∀ F' H', Stp F H0 F' H' → R K F' (.ref x) (⟨C, n, held es⟩ : Vil) → Q .non H'
theorem ev_vil {K : PySem.W.Frag} {F G : Hp} {σ : L2.St} {ta : TE} {E : XK} {C : Addr} {n : Int} {es : Tr.Roads} (ha : EvX K F G σ ta es) (T : IsTree n es) (hn : n ≤ 60) :
    EvX K F G σ (tMake C (sp_vil K C) [] E (tCons ta tNil)) (⟨C, n, held es⟩ : Vil) := fun H e g Q k =>
  ha H e g _ fun v F1 H1 s1 r1 x dx hx hdx ne =>
    ⟨F1, H1, x, dx, v, n, es, rfl, s1.fh, ((Stp.refl s1.fh).own hdx).own (by rw [upd_ne (Ne.symm ne)]; exact hx), hx, upd_same, r1, T, hn, fun F2 H2 s2 r2 => ⟨rfl, k _ F2 H2 (s1.trans s2) r2⟩⟩
end L3
namespace L3
open PySem L2 PyProof.Rows
section
variable {X : Cx} {K : PySem.W.Frag} {o value e : Expr} {f : Str} {pos pos' : Pos} {ta tv te : TE}
theorem k_psfld (hK : X.K = K) (ha : PE X o ta) (hv : PE X value tv) (hs : swapsWith value (some (.Attribute o f pos')) pos.line X.env = pure false) : PS X (.Assign [.Attribute o f pos'] value pos) (sFld K ta tv f) := hK ▸ ps_fld ha hv hs
theorem k_revL {k : Nat} {p1 p2 p3 : Pos} (hK : X.K = K) (he : PE X e te) : PE X (.Subscript e (.Slice none none (some (.UnaryOp .USub (.Constant (.int 1) k p1) p2)) p3) pos) (tRevL K te) := hK ▸ pe_revL he
end
end L3

namespace L3
open PySem L2
open Evl (Ex ex_l ex_t fresh_back sz_of sz_lt ixN_nat)
open Rep (R)
open RepD (toD)
open Tr (adj hs IsTree TreeOn dist)
section
variable {K : PySem.W.Frag} {F F' G H H' : Hp} {σ : L2.St} {ta tb tc te tl tk tv : TE} {tt : TT} {E : XK} {D : Ends}
variable {α β γ δ : Type} [Rep α] [Rep β] [Rep γ] [Rep δ] {x : α} {y : β} {z : γ}
/-- a field of an object of ours that may change -/
theorem ev_fldC {o C dx : Addr} {fs : List (Str × V)} {f : Str} {i : Nat} {v : V} (hσ : σ[i]? = some (some (.ref o))) (h : G o = some (.ins C dx fs)) (hc : Cls K C) (hn : NoAttr K C f) (hf : fs.lookup f = some v) (r : R K F v x) :
    EvX K F G σ (tFld K (tVar i) f) x := fun H e g Q k => ⟨_, hσ, o, C, dx, fs, v, rfl, g _ _ h, hc, hn, hf, k v F H (Stp.refl e) r⟩
theorem ints_at {as : List Addr} {i : Int} {a : Addr} (h0 : 0 ≤ i) (h : as[i.toNat]? = some a) : atI (as.map V.ref) i = some (.ref a) := by
  have h1 : (as.map V.ref)[i.toNat]? = some (V.ref a) := by rw [List.getElem?_map, h]; rfl
  have h2 := atI_nat h1
  rwa [Int.toNat_of_nonneg h0] at h2
/-- o.f[x].append(y), a list of lists of ours -/
theorem app_bk {o C dx : Addr} {fs : List (Str × V)} {f : Str} {i j l : Nat} {p : Addr} {as : List Addr} {ls : List (List Int)} {x y : Int} {m : List Int} (hσ : σ[l]? = some (some (.ref o))) (hi : σ[i]? = some (some (.int x))) (hj : σ[j]? = some (some (.int y)))
    (h : H o = some (.ins C dx fs)) (hc : Cls K C) (hn : NoAttr K C f) (hf : fs.lookup f = some (.ref p)) (b : Bk F H p as ls) (h0 : 0 ≤ x) (hm : ls[x.toNat]? = some m) (hl : m.length < 100000)
    (k : ∀ a, as[x.toNat]? = some a → H a = some (.lst (m.map V.int)) → D.nx σ (upd H a (.lst ((m ++ [y]).map V.int)))) : tDrop (tBM K "list" rAppend (tIx K (tFld K (tVar l) f) (tVar i)) (tCons (tVar j) tNil)) D σ H := by
  obtain ⟨a, ha, q⟩ := b.it.get hm
  refine .inl ⟨_, hσ, o, C, dx, fs, _, rfl, h, hc, hn, hf, _, hi, .inl ⟨p, _, x, _, rfl, rfl, SqL.of b.at_, ints_at h0 ha, .inl ⟨rfl, _, SqL.of q⟩, _, hj, a, _, _, rfl, rfl, q, by rw [List.length_map]; exact sz_lt (show m.length < 100000 by omega), ?_⟩⟩
  have := k a ha q
  rwa [List.map_append] at this
/-- l[x].append(y), a list of lists of ours -/
theorem app_bkV {i j l : Nat} {p : Addr} {as : List Addr} {ls : List (List Int)} {x y : Int} {m : List Int} (hσ : σ[l]? = some (some (.ref p))) (hi : σ[i]? = some (some (.int x))) (hj : σ[j]? = some (some (.int y)))
    (b : Bk F H p as ls) (h0 : 0 ≤ x) (hm : ls[x.toNat]? = some m) (hl : m.length < 100000)
    (k : ∀ a, as[x.toNat]? = some a → H a = some (.lst (m.map V.int)) → D.nx σ (upd H a (.lst ((m ++ [y]).map V.int)))) : tDrop (tBM K "list" rAppend (tIx K (tVar l) (tVar i)) (tCons (tVar j) tNil)) D σ H := by
  obtain ⟨a, ha, q⟩ := b.it.get hm
  refine .inl ⟨_, hσ, _, hi, .inl ⟨p, _, x, _, rfl, rfl, SqL.of b.at_, ints_at h0 ha, .inl ⟨rfl, _, SqL.of q⟩, _, hj, a, _, _, rfl, rfl, q, by rw [List.length_map]; exact sz_lt (show m.length < 100000 by omega), ?_⟩⟩
  have := k a ha q
  rwa [List.map_append] at this
theorem ev_stepsF {n s : Int} {es : Tr.Roads} (ha : EvX K F G σ ta ((rng n).map (nb es))) (hb : EvX K F G σ tb s) (T : IsTree n es) (hn : n ≤ 60) (hS : hs n s) :
    EvX K F G σ (tCall (sp_steps K) [] E (tCons ta (tCons tb tNil))) ((rng n).map (dist es s)) := fun H e g Q k =>
  ha H e g _ fun v F1 H1 s1 r1 => (hb.up s1.ff) H1 s1.fh (g.trans s1.hh) _ fun w F2 H2 s2 r2 => by
    cases r2
    exact ⟨F2, v, s, n, es, rfl, s2.fh, Rep.mono s2.ff r1, T, hn, hS, fun u F3 H3 s3 r3 => k u F3 H3 ((s1.trans s2).trans s3) r3⟩
end
theorem rb_put (r b : V) : putF ("beside_held" : Str) b [(("roads_held" : Str), r)] = [(("roads_held" : Str), r), (("beside_held" : Str), b)] := by
  unfold putF; rw [if_neg rb_]; rfl
theorem rbs_put (r b s : V) : putF ("steps_held" : Str) s [(("roads_held" : Str), r), (("beside_held" : Str), b)] = vfs r b s := by
  unfold putF; rw [if_neg rs_]; unfold putF; rw [if_neg bs_]; rfl
theorem rb_b (r b : V) : ([(("roads_held" : Str), r), (("beside_held" : Str), b)] : List (Str × V)).lookup ("beside_held" : Str) = some b := by
  rw [look_cons, if_neg (Ne.symm rb_), look_cons, if_pos rfl]
theorem rb_r (r b : V) : ([(("roads_held" : Str), r), (("beside_held" : Str), b)] : List (Str × V)).lookup ("roads_held" : Str) = some r := by
  rw [look_cons, if_pos rfl]
/-! ### who hangs together -/
def putT (ps : List Int) (x y : Int) : List Int := ps.map fun p => if p = ps.getD y.toNat 0 then ps.getD x.toNat 0 else p
def Sep (es : Tr.Roads) (i : Nat) (ps : List Int) : Prop := ∀ (a b : Nat) (v : Int), ps[a]? = some v → ps[b]? = some v → ∀ A : Int → Bool, (∀ e ∈ es.take i, A e.1 = A e.2) → A a = A b
theorem sep_start {es : Tr.Roads} {n : Int} : Sep es 0 (rng n) := by
  intro a b v ha hb A _
  have h : ∀ (i : Nat), (rng n)[i]? = some v → v = (i : Int) := fun i hi => by
    have hl := (List.getElem?_eq_some_iff.mp hi).1
    rw [rng_len] at hl
    rw [rng_get hl] at hi
    exact (Option.some.inj hi).symm
  rw [← h a ha, ← h b hb]
section
variable {n : Int} {es : Tr.Roads} {i : Nat} {ps : List Int} {x y : Int}
theorem getD_at {ps : List Int} {k : Nat} (h : k < ps.length) : ps[k]? = some (ps.getD k 0) := by
  rw [List.getD_eq_getElem?_getD, List.getElem?_eq_getElem h]; rfl
theorem sep_ne (T : IsTree n es) (S : Sep es i ps) (he : es[i]? = some (x, y)) (hl : (ps.length : Int) = n) : ps.getD x.toNat 0 ≠ ps.getD y.toNat 0 := by
  intro z
  obtain ⟨hi, hx⟩ := List.getElem?_eq_some_iff.mp he
  have hes : es = es.take i ++ (x, y) :: es.drop (i + 1) := by
    rw [← hx]
    simp
  obtain ⟨A, h1, h2⟩ := T.tr.acyc _ _ _ hes
  have hr := T.tr.rng (x, y) (List.mem_of_getElem? he)
  obtain ⟨⟨a1, a2⟩, b1, b2⟩ := hr
  have q := S x.toNat y.toNat _ (getD_at (by omega)) (z ▸ getD_at (by omega)) A fun e he' => h2 e (List.mem_append_left _ he')
  rw [Int.toNat_of_nonneg a1, Int.toNat_of_nonneg b1] at q
  exact h1 q
theorem sep_step (S : Sep es i ps) (he : es[i]? = some (x, y)) (hx : hs ps.length x) (hy : hs ps.length y) : Sep es (i + 1) (putT ps x y) := by
  intro a b v ha hb A hA
  have hA1 : ∀ e ∈ es.take i, A e.1 = A e.2 := fun e h => hA e (by rw [List.take_add_one]; exact List.mem_append_left _ h)
  have hA2 : A x = A y := hA (x, y) (by rw [List.take_add_one, he]; simp)
  unfold putT at ha hb
  rw [List.getElem?_map] at ha hb
  obtain ⟨pa, ha1, ha2⟩ := Option.map_eq_some_iff.mp ha
  obtain ⟨pb, hb1, hb2⟩ := Option.map_eq_some_iff.mp hb
  have hx' := getD_at (ps := ps) (k := x.toNat) (by have := hx.1; have := hx.2; omega)
  have hy' := getD_at (ps := ps) (k := y.toNat) (by have := hy.1; have := hy.2; omega)
  have ex : ((x.toNat : Nat) : Int) = x := Int.toNat_of_nonneg hx.1
  have ey : ((y.toNat : Nat) : Int) = y := Int.toNat_of_nonneg hy.1
  split at ha2
  · rename_i q1
    have r1 : A a = A y := by have := S a y.toNat _ (q1 ▸ ha1) hy' A hA1; rwa [ey] at this
    split at hb2
    · rename_i q2
      have r2 : A b = A y := by have := S b y.toNat _ (q2 ▸ hb1) hy' A hA1; rwa [ey] at this
      rw [r1, r2]
    · have r2 : A b = A x := by have := S b x.toNat _ (by rw [hb1, hb2, ← ha2]) hx' A hA1; rwa [ex] at this
      rw [r1, r2, hA2]
  · split at hb2
    · rename_i q2
      have r1 : A a = A x := by have := S a x.toNat _ (by rw [ha1, ha2, ← hb2]) hx' A hA1; rwa [ex] at this
      have r2 : A b = A y := by have := S b y.toNat _ (q2 ▸ hb1) hy' A hA1; rwa [ey] at this
      rw [r1, r2, hA2]
    · exact S a b v (ha2 ▸ ha1) (hb2 ▸ hb1) A hA1
end
/-! ### next doors, road by road -/
theorem nb_snoc (es : Tr.Roads) (x y z : Int) : nb (es ++ [(x, y)]) z = nb es z ++ (if x = z then [y] else if y = z then [x] else []) := by
  unfold nb
  rw [List.filterMap_append]
  congr 1
  by_cases h : x = z
  · simp [h]
  · by_cases h2 : y = z
    · simp [h, h2]
    · simp [h, h2]
theorem set_map {α : Type} {n x : Int} (hx : hs n x) (f : Int → α) (v : α) : ((rng n).map f).set x.toNat v = (rng n).map fun z => if z = x then v else f z := by
  apply List.ext_getElem?
  intro k
  rw [List.getElem?_set, List.length_map, rng_len]
  by_cases h : x.toNat = k
  · subst h
    have hk : x.toNat < n.toNat := by have := hx.1; have := hx.2; omega
    rw [if_pos rfl, if_pos hk, List.getElem?_map, rng_get hk]
    simp [Int.toNat_of_nonneg hx.1]
  · rw [if_neg h, List.getElem?_map, List.getElem?_map]
    by_cases hk : k < n.toNat
    · rw [rng_get hk]
      have : ¬ ((k : Int) = x) := fun z => h (by omega)
      simp [this]
    · have : (rng n)[k]? = none := List.getElem?_eq_none (by rw [rng_len]; omega)
      rw [this]; rfl
theorem nb_set {n x y : Int} {es : Tr.Roads} (hx : hs n x) (hy : hs n y) (hne : x ≠ y) :
    (((rng n).map (nb es)).set x.toNat (nb es x ++ [y])).set y.toNat (nb es y ++ [x]) = (rng n).map (nb (es ++ [(x, y)])) := by
  rw [set_map hx, set_map hy]
  refine List.map_congr_left fun z _ => ?_
  rw [nb_snoc]
  by_cases h1 : z = y
  · subst h1
    rw [if_pos rfl, if_neg hne, if_pos rfl]
  · rw [if_neg h1]
    by_cases h2 : z = x
    · subst h2
      rw [if_pos rfl, if_pos rfl]
    · rw [if_neg h2, if_neg (Ne.symm h2), if_neg (Ne.symm h1), List.append_nil]
theorem map_at' {α : Type} {n x : Int} {f : Int → α} (h : hs n x) : ((rng n).map f)[x.toNat]? = some (f x) := by
  have hk : x.toNat < n.toNat := by have := h.1; have := h.2; omega
  rw [List.getElem?_map, rng_get hk]
  simp [Int.toNat_of_nonneg h.1]
theorem nb_len (es : Tr.Roads) (x : Int) : (nb es x).length ≤ es.length := List.length_filterMap_le _ _
theorem held_ok {n : Int} {es : Tr.Roads} (T : IsTree n es) (hn : n ≤ 60) (C : Addr) : VOk ⟨C, n, held es⟩ := by
  refine ⟨tree_held T, hn, sortP_sorted _, fun e he => ?_⟩
  have h1 := mem_sortP.mp he
  obtain ⟨e', he', q⟩ := List.mem_map.mp h1
  have hne := Tr.adj_ne T (a := e'.1) (b := e'.2) (.inl he')
  rw [← q]
  show min e'.1 e'.2 < max e'.1 e'.2
  omega
end L3
namespace L3
theorem flatMap_len {f : Int → List Int} {c : Nat} (h : ∀ x, (f x).length ≤ c) : ∀ l : List Int, (l.flatMap f).length ≤ l.length * c
  | [] => by simp
  | x :: l => by
    have h1 := flatMap_len h l
    have h2 := h x
    simp only [List.flatMap_cons, List.length_append, List.length_cons, Nat.succ_mul]
    omega
end L3

namespace L3
theorem nb_nil (n : Int) : (rng n).map (nb []) = List.replicate n.toNat [] := by
  show (rng n).map (fun _ => []) = _
  rw [List.map_const', rng_len]
theorem enu_at {α : Type} [Rep α] {xs : List α} {i : Nat} {p : Int × α} (h : (enu xs)[i]? = some p) : p.1 = (i : Int) ∧ xs[i]? = some p.2 := by
  have hl := (List.getElem?_eq_some_iff.mp h).1
  rw [enu_len] at hl
  have h1 := List.getElem?_eq_getElem hl
  rw [enu_get h1] at h
  have := Option.some.inj h
  subst this
  exact ⟨rfl, h1⟩
end L3

namespace L3
open PySem L2
theorem u_fld {K : PySem.W.Frag} {ta tv : TE} {f : Str} {tz : TS} {D : Ends} {σ : L2.St} {H : Hp} (h : tv σ H fun y H1 => ta σ H1 fun x H2 => ∃ a C dx fs, x = .ref a ∧ H2 a = some (.ins C dx fs) ∧ Cls K C ∧ NoAttr K C f ∧ fs.length < 1000 ∧ tz D σ (upd H2 a (.ins C dx (putF f y fs)))) : tSeq (sFld K ta tv f) tz D σ H := h
end L3

namespace L3
open PySem L2
open Evl (Ex ex_l ex_t fresh_back sz_of sz_lt ixN_nat)
open Rep (R)
open RepD (toD)
open Tr (adj hs IsTree TreeOn dist)
/-! ### the pot -/
def Pot (F H : Hp) (p : Addr) (n : Int) : Prop := F p = none ∧ ∃ a b c : Int, H p = some (.lst [.int a, .int b, .int c]) ∧ 0 ≤ b ∧ b < 2 ^ 62 ∧ 0 ≤ c ∧ c ≤ n
def potS (p : Addr) : Src where
  M := fun a => a = p
  I := fun n F H => Pot F H p n
  stp := fun {n F H F' H'} ⟨f, a, b, c, h, r⟩ s => ⟨s.fno h f, a, b, c, s.hh _ _ h, r⟩
  le := fun ⟨f, a, b, c, h, h1, h2, h3, h4⟩ q => ⟨f, a, b, c, h, h1, h2, h3, by omega⟩
  no := fun {n F H a} ⟨f, x, y, z, h, _⟩ q => by subst q; exact ⟨(by rw [h]; exact fun z => by cases z), f⟩
  upd_ok := fun {n F H a o u} ⟨f, x, y, z, h, r⟩ q _ _ => ⟨f, x, y, z, by rw [upd_ne (fun e => q e.symm)]; exact h, r⟩
  dn := fun ⟨f, r⟩ e => ⟨fresh_back e f, r⟩
  frz := fun {n F H a o} ⟨f, r⟩ q => ⟨by rw [upd_ne (fun e => q e.symm)]; exact f, r⟩
def sp_pdraw : Sp := fun vs H Q E => ∃ p, SpD (potS p) (.ref p) (10 ^ 9) vs H Q E
theorem draw_pot {p : Addr} : ∀ vs H Q E, SpD (potS p) (.ref p) (10 ^ 9) vs H Q E → sp_pdraw vs H Q E := fun vs H Q E h => ⟨p, h⟩
def sp_pot (K : PySem.W.Frag) : Sp := fun vs H Q _ => ∃ (F : Hp) (sc : V) (s : Scr) (k : Int), vs = [sc, .int k] ∧ Ex F H ∧ R K F sc s ∧ 0 ≤ k ∧ k ≤ 100 ∧ ∀ p H', Stp F H F H' → H p = none → Pot F H' p 0 → Q (.ref p) H'
section
variable {K : PySem.W.Frag} {S : Src} {n m l : Int} {F F0 H0 F' G H H' : Hp} {σ : L2.St} {ta tb tc te tl : TE} {tt : TT} {E : XK}
variable {α β γ δ : Type} [Rep α] [Rep β] [Rep γ] [Rep δ] {x : α} {y : β} {z : γ} {P P' : α → Prop}
theorem perm_pop {α : Type} {ys xs zs : List α} {j : Nat} {y : α} (p : (ys ++ xs).Perm zs) (h : xs[j]? = some y) : (ys ++ [y] ++ xs.eraseIdx j).Perm zs := by
  obtain ⟨hj, hy⟩ := List.getElem?_eq_some_iff.mp h
  have h1 : xs = xs.take j ++ y :: xs.drop (j + 1) := by rw [← hy]; simp
  have h2 : xs.eraseIdx j = xs.take j ++ xs.drop (j + 1) := by rw [List.eraseIdx_eq_take_drop_succ]
  rw [h2]
  refine List.Perm.trans ?_ p
  conv => rhs; rw [h1]
  rw [List.append_assoc]
  refine List.Perm.append_left ys ?_
  exact (show (y :: (xs.take j ++ xs.drop (j + 1))).Perm _ from List.perm_middle.symm)
/-- [left.pop(draw(.., len(left))) for .. in range(..)] -/
theorem lc_pops {sp : Sp} {a : V} {lim : Int} {jp jl jk : Nat} {vs : List Nat} {lo : Addr} {vs0 : List V} {xs : List α} {len : Int} (hsp : ∀ vs H Q E, SpD S a lim vs H Q E → sp vs H Q E) (hi : EvX K F H σ ta len) (e : Ex F H) (s0 : StpM S.M F0 H0 F H) (hI : S.I n F H)
    (hjp : ∀ x, ((wipe σ vs).set jk (some x))[jp]? = some (some a)) (hjl : ∀ x, ((wipe σ vs).set jk (some x))[jl]? = some (some (.ref lo))) (hw : ∀ x, wipe ((wipe σ vs).set jk (some x)) vs = wipe σ vs)
    (hl0 : H0 lo = none) (hlF : F lo = none) (hlM : ¬ S.M lo) (hl : H lo = some (.lst vs0)) (hv : All2 (R K F) vs0 xs) (hn0 : 0 ≤ len) (hn : len ≤ xs.length) (hx : xs.length ≤ 100000) (hlim : n + len ≤ lim) {Q : VK}
    (k : ∀ p us (ys : List α) vr (rest : List α) F' H', StpM S.M F0 H0 F' H' → H0 p = none → H p = none → F' p = none → ¬ S.M p → H' p = some (.lst us) → All2 (R K F') us ys → H' lo = some (.lst vr) → F' lo = none → All2 (R K F') vr rest → (ys ++ rest).Perm xs → (ys.length : Int) = len → S.I (n + len) F' H' → Ex F F' → p ≠ lo → Q (.ref p) H') :
    tLc (iRng1 (tCons ta tNil)) (gName jk) tYes (tBM K "list" rPopAt (tVar jl) (tCons (tCall sp [] E (tCons (tVar jp) (tCons (tCB (rLenA K) (tCons (tVar jl) tNil)) tNil))) tNil)) vs σ H Q :=
  hi.go e fun v F2 H2 s2 r2 => by
    cases r2
    refine ⟨len, rfl, by omega, by omega, fun D hD => ?_⟩
    have sA := s0.trans s2.m
    have hl2 := s2.hh _ _ hl
    have fl2 : F2 lo = none := s2.fno hl hlF
    have nM : ¬ S.M D := fun z => (S.no (S.stp hI s2) z).1 hD
    have f2D : F2 D = none := fresh_back s2.fh hD
    have hDl : D ≠ lo := fun z => by subst z; rw [hl2] at hD; cases hD
    refine lc_range (lo := 0) (n := len.toNat) (fun i H' => ∃ acc vr, ∃ ys rest : List α, StpM S.M F0 H0 F2 H' ∧ H' D = some (.lst acc) ∧ H' lo = some (.lst vr) ∧ All2 (R K F2) acc ys ∧ All2 (R K F2) vr rest ∧ (ys ++ rest).Perm xs ∧ ys.length = i ∧ S.I (n + (i : Int)) F2 H')
      ⟨[], vs0, [], xs, sA.own hD, upd_same, by rw [upd_ne (Ne.symm hDl)]; exact hl2, .nil, hv.imp fun _ _ => Rep.mono s2.ff, by simp, rfl, ?_⟩ ?_ ?_
    · have := S.stp (S.stp hI s2) ((Stp.refl s2.fh).own (o := .lst []) hD)
      exact S.le this (by omega)
    · rintro i H3 hin ⟨acc, vr, ys, rest, s3, h3, h4, a3, a4, p3, l3, i3⟩
      rw [Int.zero_add]
      refine ⟨hw _, ?_⟩
      simp only [tYes, ↓reduceIte]
      have h60 : (100001 : Int) ≤ 10 ^ 60 := by decide
      have hpl := p3.length_eq
      rw [List.length_append] at hpl
      have hrl : 0 < rest.length := by omega
      have hvl := a4.len
      refine ⟨_, hjl _, .inl ⟨rfl, _, SqL.of h4⟩, ?_⟩
      refine ⟨_, hjp _, _, hjl _, .inl ⟨_, vr.length, rfl, .inl ⟨_, SqL.of h4, rfl⟩, ?_⟩⟩
      refine hsp _ _ _ _ ⟨F2, _, (vr.length : Int), rfl, s3.fh, i3, by omega, by omega, Int.le_trans (by omega) h60, fun r H4 r0 r1 s4 i4 => ?_⟩
      obtain ⟨j, rfl⟩ : ∃ j : Nat, r = (j : Int) := ⟨r.toNat, by omega⟩
      have hj : j < vr.length := by omega
      have h5 := s4.hh _ _ hlM h4
      have hy : vr[j]? = some vr[j] := List.getElem?_eq_getElem hj
      obtain ⟨y, hy2, ry⟩ := a4.getl hy
      refine ⟨lo, vr, j, j, vr[j], rfl, rfl, h5, by omega, by omega, seqN hj, hy, ?_⟩
      have hI5 := S.upd_ok i4 hlM fl2 (o := .lst (vr.eraseIdx j)) h5
      have s5 := (s3.trans s4).mut (o := .lst (vr.eraseIdx j)) (.inr hl0) fl2 (fun z => by rw [h5] at z; cases z)
      have h6 : upd H4 lo (.lst (vr.eraseIdx j)) D = some (.lst acc) := by rw [upd_ne hDl]; exact s4.hh _ _ nM h3
      refine ⟨acc, h6, ?_, acc ++ [vr[j]], vr.eraseIdx j, ys ++ [y], rest.eraseIdx j, s5.mut (.inr (s0.dm _ (Ex.dom s2.hh hD))) f2D (fun z => by rw [h6] at z; cases z), upd_same, by rw [upd_ne (Ne.symm hDl)]; exact upd_same, a3.app (.cons ry .nil), a4.erase j, perm_pop p3 hy2, by simp [l3], ?_⟩
      · have := a3.len
        exact sz_lt (show acc.length < 100000 by omega)
      · have hI6 := S.upd_ok hI5 nM f2D (o := .lst (acc ++ [vr[j]])) h6
        exact S.le hI6 (by omega)
    · rintro H3 ⟨acc, vr, ys, rest, s3, h3, h4, a3, a4, p3, l3, i3⟩
      exact k D acc ys vr rest F2 H3 s3 (s0.dm _ (Ex.dom s2.hh hD)) (Ex.dom s2.hh hD) f2D nM h3 a3 h4 fl2 a4 p3 (by omega) (S.le i3 (by omega)) s2.ff hDl
end
/-! ### ways from one house, by a queue -/
section
variable {n : Int} {es : Tr.Roads} (T : IsTree n es)
include T in
theorem tree_edge {s : Int} {f : Int → Int} (nn : ∀ v, hs n v → 0 ≤ f v) (back : ∀ v, hs n v → v ≠ s → ∃ u, hs n u ∧ adj es u v ∧ f u + 1 = f v) {u v : Int} (a : adj es u v) : f v = f u + 1 ∨ f u = f v + 1 := by
  apply Classical.byContradiction
  intro hno
  have hno1 : ¬ f v = f u + 1 := fun z => hno (.inl z)
  have hno2 : ¬ f u = f v + 1 := fun z => hno (.inr z)
  have key : ∀ x y, (x, y) ∈ es → (f y = f x + 1 → False) → (f x = f y + 1 → False) → False := by
    intro x y he q1 q2
    obtain ⟨l1, l2, hes⟩ := List.append_of_mem he
    obtain ⟨A, h1, h2⟩ := T.tr.acyc l1 (x, y) l2 hes
    have c1 : ∀ w w', (w, w') ∈ es → ¬ (w = x ∧ w' = y) → A w = A w' := by
      intro w w' hw hq
      refine h2 (w, w') ?_
      rw [hes] at hw
      rcases List.mem_append.mp hw with z | z
      · exact List.mem_append_left _ z
      · rcases List.mem_cons.mp z with z | z
        · injection z with z1 z2; exact absurd ⟨z1, z2⟩ hq
        · exact List.mem_append_right _ z
    have c3 : ∀ (k : Nat) (w : Int), hs n w → f w = (k : Int) → A w = A s := by
      intro k
      induction k with
      | zero =>
        intro w hw q
        by_cases hne : w = s
        · rw [hne]
        · obtain ⟨p, hp, _, hd⟩ := back w hw hne
          have := nn p hp
          omega
      | succ k ih =>
        intro w hw q
        by_cases hne : w = s
        · rw [hne]
        · obtain ⟨p, hp, ad, hd⟩ := back w hw hne
          rw [← ih p hp (by omega)]
          rcases ad with ad | ad
          · exact (c1 p w ad (fun z => q1 (by rw [← z.1, ← z.2]; omega))).symm
          · exact c1 w p ad (fun z => q2 (by rw [← z.1, ← z.2]; omega))
    have hr := T.tr.rng (x, y) he
    have d1 := c3 (f x).toNat x hr.1 (by have := nn x hr.1; omega)
    have d2 := c3 (f y).toNat y hr.2 (by have := nn y hr.2; omega)
    exact h1 (d1.trans d2.symm)
  rcases a with a | a
  · exact key u v a hno1 hno2
  · exact key v u a hno2 hno1
include T in
theorem dist_edge {s u v : Int} (hS : hs n s) (a : adj es u v) : dist es s v = dist es s u + 1 ∨ dist es s u = dist es s v + 1 :=
  tree_edge T (s := s) (fun v hv => Tr.dist_nn T hS hv) (fun v hv hne => (Tr.dist_is T hS).back v hv hne) a
end
theorem rng_nodup (n : Int) : (rng n).Nodup := by
  unfold rng
  refine List.Pairwise.map _ (fun a b h => ?_) List.nodup_range
  intro z
  apply h
  omega
def kvsOf (ks : List Int) (f : Int → Int) : List (Key × V) := ks.map fun v => (.inl v, .int (f v))
theorem kvs_some {ks : List Int} {f : Int → Int} {v : Int} (h : v ∈ ks) : valV (kvsOf ks f) (.inl v) = some (.int (f v)) := by
  unfold kvsOf
  induction ks with
  | nil => cases h
  | cons a l ih =>
    rw [List.map_cons]
    by_cases q : a = v
    · subst q; exact valV_pos rfl
    · rw [valV_neg (fun z => q (by cases z; rfl))]
      exact ih ((List.mem_cons.mp h).resolve_left (fun z => q z.symm))
theorem kvs_none {ks : List Int} {f : Int → Int} {v : Int} (h : v ∉ ks) : valV (kvsOf ks f) (.inl v) = none := by
  unfold kvsOf
  induction ks with
  | nil => rfl
  | cons a l ih =>
    rw [List.map_cons, valV_neg (fun z => h (by cases z; exact List.mem_cons_self))]
    exact ih fun z => h (List.mem_cons_of_mem _ z)
theorem kvs_put {ks : List Int} {f : Int → Int} {y z : Int} (h : y ∉ ks) : putK (kvsOf ks f) (.inl y) (.int z) = kvsOf (ks ++ [y]) (fun v => if v = y then z else f v) := by
  have h0 : ((kvsOf ks f).any fun kv => decide (kv.1 = (.inl y : Key))) = false := by
    rw [List.any_eq_false]
    intro p hp q
    obtain ⟨v, hv, rfl⟩ := List.mem_map.mp hp
    have := of_decide_eq_true q
    cases this
    exact h hv
  unfold putK
  rw [h0, if_neg Bool.false_ne_true]
  unfold kvsOf
  rw [List.map_append]
  congr 1
  · refine List.map_congr_left fun v hv => ?_
    show _ = ((.inl v : Key), V.int (if v = y then z else f v))
    rw [if_neg (fun q : v = y => h (q ▸ hv))]
  · simp
structure Bfs (n : Int) (es : Tr.Roads) (s : Int) (t : Nat) (ks : List Int) (f : Int → Int) : Prop where
  nd : ks.Nodup
  rng : ∀ v ∈ ks, hs n v
  mem : s ∈ ks
  zero : f s = 0
  nn : ∀ v ∈ ks, 0 ≤ f v
  back : ∀ v ∈ ks, v ≠ s → ∃ u ∈ ks, adj es u v ∧ f u + 1 = f v
  done : ∀ i u y, i < t → ks[i]? = some u → adj es u y → y ∈ ks
  le : t ≤ ks.length
section
variable {n : Int} {es : Tr.Roads} (T : IsTree n es) {s : Int} {t : Nat} {ks : List Int} {f : Int → Int}
theorem bfs_start (hS : hs n s) : Bfs n es s 0 [s] (fun _ => 0) :=
  ⟨by simp, fun v h => by rw [List.mem_singleton.mp h]; exact hS, by simp, rfl, fun _ _ => Int.le_refl _, fun v h q => absurd (List.mem_singleton.mp h) q, fun i u y h => absurd h (Nat.not_lt_zero _), Nat.zero_le _⟩
include T in
theorem bfs_add (B : Bfs n es s t ks f) {u y : Int} (hu : u ∈ ks) (a : adj es u y) (hy : y ∉ ks) : Bfs n es s t (ks ++ [y]) (fun v => if v = y then f u + 1 else f v) := by
  have hne : ∀ v ∈ ks, v ≠ y := fun v hv z => hy (z ▸ hv)
  refine ⟨List.nodup_append.mpr ⟨B.nd, by simp, fun a ha b hb z => by simp at hb; subst hb; subst z; exact hy ha⟩, fun v hv => ?_, List.mem_append_left _ B.mem, ?_, fun v hv => ?_, fun v hv q => ?_, fun i w z hi hw ad => ?_, ?_⟩
  · rcases List.mem_append.mp hv with h | h
    · exact B.rng v h
    · rw [List.mem_singleton.mp h]; exact (Tr.adj_hs T a).2
  · show (if s = y then _ else _) = _
    rw [if_neg (hne s B.mem)]; exact B.zero
  · show 0 ≤ (if v = y then _ else _)
    split
    · have := B.nn u hu; omega
    · rename_i q
      rcases List.mem_append.mp hv with h | h
      · exact B.nn v h
      · exact absurd (List.mem_singleton.mp h) q
  · rcases List.mem_append.mp hv with h | h
    · obtain ⟨p, hp, ad, hd⟩ := B.back v h q
      refine ⟨p, List.mem_append_left _ hp, ad, ?_⟩
      show (if p = y then _ else _) + 1 = (if v = y then _ else _)
      rw [if_neg (hne p hp), if_neg (hne v h)]; exact hd
    · have hv' := List.mem_singleton.mp h
      subst hv'
      refine ⟨u, List.mem_append_left _ hu, a, ?_⟩
      show (if u = v then _ else _) + 1 = (if v = v then _ else _)
      rw [if_neg (hne u hu), if_pos rfl]
  · rw [List.getElem?_append_left (Nat.lt_of_lt_of_le hi B.le)] at hw
    exact List.mem_append_left _ (B.done i w z hi hw ad)
  · rw [List.length_append]; have := B.le; omega
theorem bfs_turn (B : Bfs n es s t ks f) {u : Int} (hu : ks[t]? = some u) (h : ∀ y, adj es u y → y ∈ ks) : Bfs n es s (t + 1) ks f :=
  ⟨B.nd, B.rng, B.mem, B.zero, B.nn, B.back, fun i w z hi hw ad => by
    by_cases q : i = t
    · subst q
      rw [hu] at hw
      cases hw
      exact h z ad
    · exact B.done i w z (by omega) hw ad, (List.getElem?_eq_some_iff.mp hu).1⟩
include T in
theorem bfs_closed (B : Bfs n es s t ks f) (h : ks.length ≤ t) (v : Int) (hv : hs n v) : v ∈ ks :=
  T.tr.conn (fun v => v ∈ ks) ⟨s, B.rng s B.mem, B.mem⟩ (fun u w _ _ a hu => by
    obtain ⟨i, hi, e⟩ := List.mem_iff_getElem.mp hu
    exact B.done i u w (Nat.lt_of_lt_of_le hi h) (by rw [List.getElem?_eq_getElem hi, e]) a) v hv
theorem bfs_len (B : Bfs n es s t ks f) : ks.length ≤ n.toNat := by
  have := nodup_le ks (rng n) B.nd fun x hx => mem_rng.mpr (B.rng x hx)
  rwa [rng_len] at this
include T in
theorem bfs_more (B : Bfs n es s t ks f) (ht : t < n.toNat) : t < ks.length := by
  apply Classical.byContradiction
  intro q
  have h := nodup_le (rng n) ks (rng_nodup n) fun x hx => bfs_closed T B (by omega) x (mem_rng.mp hx)
  rw [rng_len] at h
  omega
include T in
theorem bfs_all (B : Bfs n es s n.toNat ks f) (v : Int) (hv : hs n v) : v ∈ ks := bfs_closed T B (bfs_len B) v hv
include T in
theorem bfs_is (B : Bfs n es s n.toNat ks f) (v : Int) (hv : hs n v) : f v = dist es s v := by
  have hS := B.rng s B.mem
  have all := bfs_all T B
  have nn : ∀ v, hs n v → 0 ≤ f v := fun v hv => B.nn v (all v hv)
  have back : ∀ v, hs n v → v ≠ s → ∃ u, hs n u ∧ adj es u v ∧ f u + 1 = f v := fun v hv q => by
    obtain ⟨u, hu, a, h⟩ := B.back v (all v hv) q
    exact ⟨u, B.rng u hu, a, h⟩
  refine Tr.IsD1.uniq (es := es) ⟨B.zero, nn, back, fun u v _ _ a => ?_⟩ (Tr.dist_is T hS) hv
  rcases tree_edge T nn back a with h | h <;> omega
end
def sp_lsteps (K : PySem.W.Frag) : Sp := fun vs H Q _ => ∃ (F : Hp) (v : V) (n : Int) (es : Tr.Roads), vs = [v] ∧ Ex F H ∧ R K F v es ∧ IsTree n es ∧ n ≤ 60 ∧ ∀ u F' H', Stp F H F' H' → R K F' u (tab n (dist es)) → Q u H'
theorem ev_lsteps {K : PySem.W.Frag} {F G : Hp} {σ : L2.St} {ta : TE} {E : XK} {n : Int} {es : Tr.Roads} (ha : EvX K F G σ ta es) (T : IsTree n es) (hn : n ≤ 60) :
    EvX K F G σ (tCall (sp_lsteps K) [] E (tCons ta tNil)) (tab n (dist es)) := fun H e g Q k =>
  ha H e g _ fun v F1 H1 s1 r1 => ⟨F1, v, n, es, rfl, s1.fh, r1, T, hn, fun u F2 H2 s2 r2 => k u F2 H2 (s1.trans s2) r2⟩
end L3

namespace L3
open PySem L2
open Evl (Ex ex_l ex_t fresh_back sz_of sz_lt ixN_nat)
open Rep (R)
open RepD (toD)
open Tr (adj hs IsTree TreeOn dist)
section
variable {K : PySem.W.Frag} {S : Src} {n m l : Int} {F F0 H0 F' G H H' : Hp} {σ : L2.St} {ta tb tc te tl : TE} {tt : TT} {E : XK} {tr : TA}
variable {α β γ δ : Type} [Rep α] [Rep β] [Rep γ] [Rep δ] {x : α} {y : β} {z : γ} {P P' : α → Prop}
/-- parts that draw, from the left -/
def EvML (K : PySem.W.Frag) (S : Src) (n m : Int) (F : Hp) (σ : L2.St) (ta : TA) (P : List α → Prop) : Prop :=
  ∀ F1 H, Ex F F1 → Ex F1 H → S.I n F1 H → ∀ Q : List V → Hp → Prop, (∀ vs xs F' H', StpM S.M F1 H F' H' → S.I m F' H' → P xs → All2 (R K F') vs xs → Q vs H') → ta σ H Q
theorem eml_nil : EvML (α := α) K S n n F σ tNil (fun xs => xs = []) := fun F1 H e1 e2 i Q k => k [] [] F1 H (StpM.refl e2) i rfl .nil
theorem eml_cons {P2 : α → List α → Prop} (h : EvM K S n m F σ te P) (hr : ∀ x, P x → EvML K S m l F σ tr (P2 x)) : EvML K S n l F σ (tCons te tr) (fun xs => ∃ x ys, xs = x :: ys ∧ P x ∧ P2 x ys) := fun F1 H e1 e2 i Q k =>
  h F1 H e1 e2 i _ fun v x F2 H2 s2 i2 p2 r2 => hr x p2 F2 H2 (e1.trans s2.ff) s2.fh i2 _ fun vs xs F3 H3 s3 i3 p3 r3 =>
    k (v :: vs) (x :: xs) F3 H3 (s2.trans s3) i3 ⟨x, xs, rfl, p2, p3⟩ (.cons (Rep.mono s3.ff r2) r3)
theorem EvML.imp {P P' : List α → Prop} (h : EvML K S n m F σ tr P) (hp : ∀ x, P x → P' x) : EvML K S n m F σ tr P' := fun F1 H e1 e2 i Q k => h F1 H e1 e2 i Q fun v x F' H' s i' p r => k v x F' H' s i' (hp x p) r
theorem em_lst {P : List α → Prop} (h : EvML K S n m F σ tr P) (hl : ∀ xs, P xs → xs.length ≤ 100000) : EvM K S n m F σ (tLst tr) P := fun F1 H e1 e2 i Q k =>
  h F1 H e1 e2 i _ fun vs xs F2 H2 s2 i2 p2 r2 => ⟨by rw [r2.len]; exact sz_of (hl xs p2), fun q hq => by
    have nM : ¬ S.M q := fun z => (S.no i2 z).1 hq
    have fq : F2 q = none := fresh_back s2.fh hq
    exact k _ xs _ _ (s2.new hq) (S.frz (S.stp i2 ((Stp.refl s2.fh).own hq)) nM) p2 ⟨q, vs, rfl, upd_same, r2.imp fun _ _ => Rep.mono (Ex.new fq)⟩⟩
theorem em_max2 {P : Int → Prop} {P2 : Int → Int → Prop} (ha : EvM K S n m F σ ta P) (hb : ∀ x, P x → EvM K S m l F σ tb (P2 x)) : EvM K S n l F σ (tCB rMax2 (tCons ta (tCons tb tNil))) (fun z => ∃ x y, P x ∧ P2 x y ∧ z = max x y) := fun F1 H e1 e2 i Q k =>
  ha F1 H e1 e2 i _ fun v x F2 H2 s2 i2 p2 r2 => hb x p2 F2 H2 (e1.trans s2.ff) s2.fh i2 _ fun w y F3 H3 s3 i3 p3 r3 => by
    cases r2; cases r3
    refine ⟨x, y, rfl, k _ (max x y) F3 H3 (s2.trans s3) i3 ⟨x, y, p2, p3, rfl⟩ ?_⟩
    show V.int _ = V.int _
    congr 1
    omega
theorem em_if {Pb : Bool → Prop} (h : EvM K S n m F σ te Pb) (h1 : EvM K S m l F σ ta P) (h2 : EvM K S m l F σ tb P) : EvM K S n l F σ (tIf (tTest te) ta tb) P := fun F1 H e1 e2 i Q k =>
  h F1 H e1 e2 i _ fun v b F2 H2 s2 i2 p2 r2 => ⟨b, r2, by
    cases b with
    | true => exact h1 F2 H2 (e1.trans s2.ff) s2.fh i2 Q fun v x F3 H3 s3 i3 p3 r3 => k v x F3 H3 (s2.trans s3) i3 p3 r3
    | false => exact h2 F2 H2 (e1.trans s2.ff) s2.fh i2 Q fun v x F3 H3 s3 i3 p3 r3 => k v x F3 H3 (s2.trans s3) i3 p3 r3⟩
theorem eml_nilA {P : α → Prop} : EvML K S n n F σ tNil (fun xs : List α => xs.length = 0 ∧ ∀ x ∈ xs, P x) := EvML.imp eml_nil fun xs h => by subst h; simp
theorem eml_all {P : α → Prop} {c : Nat} (h : EvM K S n m F σ te P) (hr : EvML K S m l F σ tr (fun xs : List α => xs.length = c ∧ ∀ x ∈ xs, P x)) : EvML K S n l F σ (tCons te tr) (fun xs : List α => xs.length = c + 1 ∧ ∀ x ∈ xs, P x) :=
  EvML.imp (eml_cons h fun _ _ => hr) fun xs ⟨x, ys, e, p, q, r⟩ => by
    subst e
    refine ⟨by rw [List.length_cons, q], fun z hz => ?_⟩
    rcases List.mem_cons.mp hz with rfl | hz
    · exact p
    · exact r z hz
/-- the houses that a new one may hang on -/
theorem em_some {p : Addr} {k : Int} {E1 E2 : XK} {n : Int} (h0 : σ[0]? = some (some (.ref p))) (h6 : σ[6]? = some (some (.int k))) (hk : 0 < k) (hk2 : k ≤ 1000) (hn : n ≤ 2 * 10 ^ 8) : EvM K (potS p) n (n + 1 + 1) F σ
    (tLst (tCons (tOp (rI0 fun i j => .int (i - j)) (tVar 6) (tC (.int 1))) (tCons (tC (.int 0)) (tCons (tCall sp_pdraw [] E1 (tCons (tVar 0) (tCons (tVar 6) tNil))) (tCons (tCB rMax2 (tCons (tC (.int 0)) (tCons (tOp (rI0 fun i j => .int (i - j)) (tOp (rI0 fun i j => .int (i - j)) (tVar 6) (tC (.int 1)))
      (tCall sp_pdraw [] E2 (tCons (tVar 0) (tCons (tC (.int 3)) tNil)))) tNil))) tNil))))) (fun xs : List Int => xs.length = 4 ∧ ∀ x ∈ xs, 0 ≤ x ∧ x < k) := by
  have h60 : (1000 : Int) ≤ 10 ^ 60 := by decide
  have vk : ∀ {m : Int}, EvM K (potS p) m m F σ (tVar 6) (fun x => x = k) := em_pure (ev_var h6 rfl)
  have c1 : EvM K (potS p) n n F σ (tOp (rI0 fun i j => .int (i - j)) (tVar 6) (tC (.int 1))) (fun x => 0 ≤ x ∧ x < k) := EvM.imp (em_sub vk fun _ _ => em_int) fun x ⟨a, b, ha, hb, e⟩ => by subst ha hb e; omega
  have c2 : EvM K (potS p) n n F σ (tC (.int 0)) (fun x : Int => 0 ≤ x ∧ x < k) := EvM.imp em_int fun x e => by subst e; omega
  have c3 : EvM K (potS p) n (n + 1) F σ (tCall sp_pdraw [] E1 (tCons (tVar 0) (tCons (tVar 6) tNil))) (fun x : Int => 0 ≤ x ∧ x < k) := EvM.imp (em_draw h0 draw_pot vk (by omega) (fun i h => by subst h; omega)) fun x ⟨i, hi, a, b⟩ => by subst hi; omega
  have c4 : EvM K (potS p) (n + 1) (n + 1 + 1) F σ (tCall sp_pdraw [] E2 (tCons (tVar 0) (tCons (tC (.int 3)) tNil))) (fun x : Int => 0 ≤ x) := EvM.imp (em_draw h0 draw_pot em_int (by omega) (fun i h => by subst h; omega)) fun x ⟨i, hi, a, b⟩ => a
  have c5 : EvM K (potS p) (n + 1) (n + 1 + 1) F σ (tCB rMax2 (tCons (tC (.int 0)) (tCons (tOp (rI0 fun i j => .int (i - j)) (tOp (rI0 fun i j => .int (i - j)) (tVar 6) (tC (.int 1))) (tCall sp_pdraw [] E2 (tCons (tVar 0) (tCons (tC (.int 3)) tNil)))) tNil))) (fun x : Int => 0 ≤ x ∧ x < k) :=
    EvM.imp (em_max2 em_int fun _ _ => em_sub (em_sub vk fun _ _ => em_int) fun _ _ => c4) fun x ⟨a, b, ha, ⟨c, d, ⟨e, f, he, hf, hc⟩, hd, hb⟩, hx⟩ => by subst ha he hf hc hb hx; omega
  exact em_lst (eml_all c1 (eml_all c2 (eml_all c3 (eml_all c5 eml_nilA)))) fun xs h => by rw [h.1]; decide
/-- a pair, either way about -/
theorem em_pairD {p : Addr} {u v : Int} {vv : V} {E1 : XK} {n : Int} (h0 : σ[0]? = some (some (.ref p))) (h8 : σ[8]? = some (some vv)) (r : R K F vv [u, v]) (hn : n ≤ 2 * 10 ^ 8) : EvM K (potS p) n (n + 1) F σ
    (tIf (tTest (tOp (rEqA K) (tCall sp_pdraw [] E1 (tCons (tVar 0) (tCons (tC (.int 2)) tNil))) (tC (.int 0)))) (tTup (tCons (tIx K (tVar 8) (tC (.int 0))) (tCons (tIx K (tVar 8) (tC (.int 1))) tNil))) (tTup (tCons (tIx K (tVar 8) (tC (.int 1))) (tCons (tIx K (tVar 8) (tC (.int 0))) tNil))))
    (fun e : Int × Int => e = (u, v) ∨ e = (v, u)) := by
  have h60 : (1000 : Int) ≤ 10 ^ 60 := by decide
  have hu : EvX K F F σ (tIx K (tVar 8) (tC (.int 0))) u := ev_ix (ev_var h8 r) ev_int rfl
  have hv : EvX K F F σ (tIx K (tVar 8) (tC (.int 1))) v := ev_ix (ev_var h8 r) ev_int rfl
  exact em_if (em_eqI (em_draw h0 draw_pot em_int (by omega) (fun i h => by subst h; omega)) fun _ _ => em_int) (EvM.imp (em_pure (ev_pair hu hv)) fun e h => .inl h) (EvM.imp (em_pure (ev_pair hv hu)) fun e h => .inr h)
/-- a draw, of a number that the heap as it stands tells -/
theorem go_draw {sp : Sp} {a : V} {j : Nat} {lim i : Int} (hs : σ[j]? = some (some a)) (hsp : ∀ vs H Q E, SpD S a lim vs H Q E → sp vs H Q E) (hm : EvX K F H σ tb i) (e : Ex F H) (hI : S.I n F H) (hl : n ≤ lim) (h0 : 0 < i) (h1 : i ≤ 10 ^ 60) {Q : VK}
    (k : ∀ r F' H', 0 ≤ r → r < i → StpM S.M F H F' H' → S.I (n + 1) F' H' → Q (.int r) H') : tCall sp [] E (tCons (tVar j) (tCons tb tNil)) σ H Q :=
  ⟨a, hs, hm.go e fun v F1 H1 s1 r1 => by
    cases r1
    exact hsp _ _ _ _ ⟨F1, n, i, rfl, s1.fh, S.stp hI s1, hl, h0, h1, fun r H2 r0 r1 s2 i2 => k r F1 H2 r0 r1 (s1.m.trans s2) i2⟩⟩
theorem em_tup {P : β → Prop} {P2 : β → γ → Prop} (ha : EvM K S n m F σ ta P) (hb : ∀ x, P x → EvM K S m l F σ tb (P2 x)) : EvM K S n l F σ (tTup (tCons ta (tCons tb tNil))) (fun z : β × γ => P z.1 ∧ P2 z.1 z.2) := fun F1 H e1 e2 i Q k =>
  ha F1 H e1 e2 i _ fun v x F2 H2 s2 i2 p2 r2 => hb x p2 F2 H2 (e1.trans s2.ff) s2.fh i2 _ fun w y F3 H3 s3 i3 p3 r3 => ⟨by show 2 ≤ sizeLine; decide, fun q hq => by
    have nM : ¬ S.M q := fun z => (S.no i3 z).1 hq
    have fq : F3 q = none := fresh_back s3.fh hq
    exact k _ (x, y) _ _ ((s2.trans s3).new hq) (S.frz (S.stp i3 ((Stp.refl s3.fh).own hq)) nM) ⟨p2, p3⟩ ⟨q, v, w, rfl, upd_same, Rep.mono (s3.ff.trans (Ex.new fq)) r2, Rep.mono (Ex.new fq) r3⟩⟩
/-- the pot, as it is made -/
theorem en_pot {cell k : Int} {sc : V} (hk : 0 ≤ k) : EvN K F G [some sc, some (.int k), some (.int cell)] (tLst (tCons (tCB rMax2 (tCons (tC (.int 0)) (tCons (tOp (rI0 fun i j => .int (i - j)) (tCB rAbs (tCons (tVar 2) tNil)) (tOp rPowW (tC (.int 10)) (tC (.int 18)))) tNil)))
    (tCons (tOp rAddA (tOp (rI (fun _ j => 0 < j) fun i j => .int (i % j)) (tVar 2) (tC (.int 2305843009213693951))) (tOp (rI CMul fun i j => .int (i * j)) (tC (.int 6469693)) (tOp rAddA (tVar 1) (tC (.int 1))))) (tCons (tC (.int 0)) tNil))))
    [max 0 ((if cell < 0 then -cell else cell) - 10 ^ (18 : Int).toNat), cell % 2305843009213693951 + 6469693 * (k + 1), 0] :=
  en_lst (el_cons (ev_max2 ev_int (ev_sub (ev_abs (ev_var rfl rfl)) (ev_powI ev_int ev_int (pow_ok (k := 4) (n := 18) (by decide) (by decide) (by decide)))))
    (el_cons (ev_addI (ev_modI (ev_var rfl rfl) ev_int (by decide)) (ev_mulI ev_int (ev_addI (ev_var rfl rfl) ev_int) (.inl (by decide)))) (el_cons ev_int el_nil))) (by simp)
end
def sp_drawn (K : PySem.W.Frag) : Sp := fun vs H Q _ => ∃ (F : Hp) (p : Addr) (n most : Int), vs = [.ref p, .int most] ∧ Ex F H ∧ Pot F H p n ∧ n ≤ 10 ^ 8 ∧ 0 < most ∧ most ≤ 40 ∧
  ∀ v F' H' m (es : Tr.Roads), IsTree m es → m ≤ most → StpM (potS p).M F H F' H' → Pot F' H' p (n + 1000) → R K F' v es → Q v H'
theorem em_drawn {K : PySem.W.Frag} {p : Addr} {F : Hp} {σ : L2.St} {tb : TE} {E : XK} {j : Nat} {n m : Int} {P : Int → Prop} (hs : σ[j]? = some (some (.ref p))) (hm : EvM K (potS p) n m F σ tb P) (hl : m ≤ 10 ^ 8) (hp : ∀ i, P i → 0 < i ∧ i ≤ 40) :
    EvM K (potS p) n (m + 1000) F σ (tCall (sp_drawn K) [] E (tCons (tVar j) (tCons tb tNil))) (fun es : Tr.Roads => ∃ m, IsTree m es ∧ m ≤ 40) := fun F1 H e1 e2 i Q k =>
  ⟨_, hs, hm F1 H e1 e2 i _ fun v x F' H' s i' p' r => ⟨F', p, m, x, by rw [show v = V.int x from r]; rfl, s.fh, i', hl, (hp x p').1, (hp x p').2, fun u F2 H2 q es T hq s2 i2 r2 => k u es F2 H2 (s.trans s2) i2 ⟨q, T, Int.le_trans hq (hp x p').2⟩ r2⟩⟩
/-! ### names -/
def Vn (ns : List Int) (i : Nat) (x : Int) : Prop := ∃ j, j ≤ i ∧ ns[j]? = some x
theorem vn_zero {ns : List Int} {a : Int} (h : ns[0]? = some a) : TreeOn (Vn ns 0) [] :=
  (TreeOn.one a).iff fun x => ⟨fun e => ⟨0, Nat.le_refl _, by rw [h, e]⟩, fun ⟨j, hj, e⟩ => by
    have : j = 0 := by omega
    subst this
    rw [h] at e
    exact (Option.some.inj e).symm⟩
theorem vn_step {ns : List Int} {i j : Nat} {u v : Int} {es : Tr.Roads} (hn : ns.Nodup) (T : TreeOn (Vn ns i) es) (hj : j ≤ i) (hu : ns[j]? = some u) (hv : ns[i + 1]? = some v) (d : Nat) {e : Int × Int} (he : e = (u, v) ∨ e = (v, u)) :
    TreeOn (Vn ns (i + 1)) (es.take d ++ [e] ++ es.drop d) := by
  have hvn : ¬ Vn ns i v := fun ⟨j, hj, e⟩ => by
    have := nd_ix hn e hv
    omega
  have h1 : TreeOn (fun x => Vn ns i x ∨ x = v) (es.take d ++ (u, v) :: es.drop d) := TreeOn.leaf (by rw [List.take_append_drop]; exact T) ⟨j, hj, hu⟩ hvn
  have h2 : TreeOn (Vn ns (i + 1)) (es.take d ++ (u, v) :: es.drop d) := h1.iff fun x => by
    constructor
    · rintro (⟨j, hj, e⟩ | rfl)
      · exact ⟨j, by omega, e⟩
      · exact ⟨i + 1, Nat.le_refl _, hv⟩
    · rintro ⟨j, hj, e⟩
      by_cases q : j = i + 1
      · subst q
        rw [hv] at e
        exact .inr (Option.some.inj e).symm
      · exact .inl ⟨j, by omega, e⟩
  rw [List.append_assoc]
  show TreeOn (Vn ns (i + 1)) (es.take d ++ e :: es.drop d)
  rcases he with rfl | rfl
  · exact h2
  · exact h2.flip rfl
theorem vn_tree {ns : List Int} {m : Int} {es : Tr.Roads} (hp : ns.Perm (rng m)) (hm : 0 < m) (T : TreeOn (Vn ns (m.toNat - 1)) es) (hl : es.length = m.toNat - 1) : IsTree m es := by
  have hlen := hp.length_eq
  rw [rng_len] at hlen
  refine ⟨hm, by omega, T.iff fun x => ⟨fun ⟨j, hj, e⟩ => mem_rng.mp (hp.mem_iff.mp (List.mem_of_getElem? e)), fun h => ?_⟩⟩
  obtain ⟨j, hj, e⟩ := List.mem_iff_getElem.mp (hp.mem_iff.mpr (mem_rng.mpr h))
  exact ⟨j, by omega, by rw [List.getElem?_eq_getElem hj, e]⟩
end L3
namespace L3
open PySem L2
open Evl (Ex ex_l ex_t fresh_back sz_of sz_lt ixN_nat)
open Rep (R)
open Tr (adj hs IsTree TreeOn dist)
section
variable {K : PySem.W.Frag} {F F' G H H' : Hp} {σ : L2.St} {ta tb tc te tl : TE}
/-- list(d): its keys -/
theorem ev_listD {d : Addr} {ks : List Int} {f : Int → Int} (ha : EvX K F G σ ta (V.ref d)) (h : G d = some (.dK (kvsOf ks f))) : EvX K F G σ (tCB (rListA K) (tCons ta tNil)) ks :=
  ev_cb1 ha fun F1 u _ h1 H1 e1 g1 Q k => by
    cases h1
    refine .inr ⟨d, _, rfl, g1 _ _ h, fun q hq => k _ _ _ ((Stp.refl e1).new hq) ⟨q, _, rfl, upd_same, all2_ints.mpr ?_⟩⟩
    unfold kvsOf
    rw [List.map_map]
    rfl
theorem kvs_len (ks : List Int) (f : Int → Int) : (kvsOf ks f).length = ks.length := by unfold kvsOf; rw [List.length_map]
end
end L3

namespace L3
open PySem L2
open Evl (Ex ex_l ex_t fresh_back sz_of sz_lt ixN_nat)
open Rep (R)
open RepD (toD)
open Tr (adj hs IsTree TreeOn dist)
/-! ### tales -/
def stAt (st : List Int) (x : Int) : Int := st.getD x.toNat 0
structure Tale (n : Int) (es : Tr.Roads) (st : List Int) : Prop where
  len : st.length = n.toNat
  rng : ∀ x ∈ st, hs n x
  edge : ∀ x y, adj es x y → dist es (stAt st x) (stAt st y) ≤ 1
theorem stAt_map {n x : Int} {g : Int → Int} (h : hs n x) : stAt ((rng n).map g) x = g x := by
  unfold stAt
  rw [List.getD_eq_getElem?_getD, map_at' h]; rfl
theorem tale_map {n : Int} {es : Tr.Roads} (T : IsTree n es) {g : Int → Int} (h1 : ∀ x, hs n x → hs n (g x)) (h2 : ∀ x y, adj es x y → dist es (g x) (g y) ≤ 1) : Tale n es ((rng n).map g) := by
  refine ⟨by rw [List.length_map, rng_len], fun y hy => ?_, fun x y a => ?_⟩
  · obtain ⟨x, hx, rfl⟩ := List.mem_map.mp hy
    exact h1 x (mem_rng.mp hx)
  · obtain ⟨hx, hy⟩ := Tr.adj_hs T a
    rw [stAt_map hx, stAt_map hy]
    exact h2 x y a
section
variable {n : Int} {es : Tr.Roads} (T : IsTree n es) {st : List Int} {x y : Int}
theorem Tale.hs (A : Tale n es st) (h : hs n x) : hs n (stAt st x) := by
  refine A.rng _ ?_
  have hk : x.toNat < st.length := by have := h.1; have := h.2; have := A.len; omega
  unfold stAt
  rw [List.getD_eq_getElem?_getD, List.getElem?_eq_getElem hk]
  exact List.getElem_mem hk
theorem Tale.at (A : Tale n es st) (h : Tr.hs n x) : atI st x = some (stAt st x) := by
  have hk : x.toNat < st.length := by have := h.1; have := h.2; have := A.len; omega
  have h2 := atI_nat (getD_at (ps := st) hk)
  rw [Int.toNat_of_nonneg h.1] at h2
  exact h2
include T in
theorem adj_symm' (a : adj es x y) : adj es y x := a.symm
include T in
/-- each edge has its nearer end -/
theorem by_edge {s : Int} (hS : Tr.hs n s) {P : Int → Int → Prop} (sym : ∀ x y, P x y → P y x) (h : ∀ u v, adj es u v → dist es s u + 1 = dist es s v → P u v) (a : adj es x y) : P x y := by
  rcases dist_edge T hS a with q | q
  · exact h x y a q.symm
  · exact sym _ _ (h y x a.symm q.symm)
include T in
theorem toward_ok {s : Int} (hS : Tr.hs n s) {g : Int → Int} (hg : ∀ x, Tr.hs n x → (x = s ∧ g x = x) ∨ (x ≠ s ∧ adj es (g x) x ∧ dist es s (g x) + 1 = dist es s x)) (a : adj es x y) : dist es (g x) (g y) ≤ 1 := by
  have hh : ∀ x, Tr.hs n x → Tr.hs n (g x) := fun x hx => by
    rcases hg x hx with ⟨_, e⟩ | ⟨_, a, _⟩
    · rw [e]; exact hx
    · exact (Tr.adj_hs T a).1
  have key : ∀ u v, adj es u v → dist es s u + 1 = dist es s v → Tr.hs n u ∧ Tr.hs n v ∧ dist es (g u) (g v) ≤ 1 := fun u v a q => by
    obtain ⟨hu, hv⟩ := Tr.adj_hs T a
    refine ⟨hu, hv, ?_⟩
    have hvs : v ≠ s := fun z => by
      subst z
      rw [Tr.dist_self T hv] at q
      have := Tr.dist_nn T hv hu
      omega
    rcases hg v hv with ⟨z, _⟩ | ⟨_, av, dv⟩
    · exact absurd z hvs
    · have e := parent_uniq T hS (hh v hv) hu av a dv q
      rw [e]
      rcases hg u hu with ⟨_, e2⟩ | ⟨_, au, _⟩
      · rw [e2, Tr.dist_self T hu]; omega
      · exact Tr.dist_adj_le T (hh u hu) hu au
  refine (by_edge T hS (P := fun u v => Tr.hs n u ∧ Tr.hs n v ∧ dist es (g u) (g v) ≤ 1) (fun x y ⟨h1, h2, h3⟩ => ⟨h2, h1, by rw [Tr.dist_symm T (hh y h2) (hh x h1)]; exact h3⟩) key a).2.2
end
/-- a step toward a goal -/
noncomputable def towL (n : Int) (es : Tr.Roads) (goal x : Int) : List Int := (rng n).filter fun k => decide (dist es k x = 1) && decide (dist es k goal < dist es x goal)
noncomputable def towG (n : Int) (es : Tr.Roads) (goal x : Int) : Int := (towL n es goal x ++ [x]).headD 0
section
variable {n : Int} {es : Tr.Roads} (T : IsTree n es) {goal : Int} (hS : hs n goal)
include T hS in
theorem towG_ok (x : Int) (hx : hs n x) : (x = goal ∧ towG n es goal x = x) ∨ (x ≠ goal ∧ adj es (towG n es goal x) x ∧ dist es goal (towG n es goal x) + 1 = dist es goal x) := by
  have hm : ∀ k ∈ towL n es goal x, hs n k ∧ adj es k x ∧ dist es goal k + 1 = dist es goal x := fun k hk => by
    obtain ⟨h1, h2⟩ := List.mem_filter.mp hk
    have hkn := mem_rng.mp h1
    simp only [Bool.and_eq_true, decide_eq_true_eq] at h2
    have a := (Tr.dist_one T hkn hx).mp h2.1
    have h3 := h2.2
    rw [Tr.dist_symm T hkn hS, Tr.dist_symm T hx hS] at h3
    refine ⟨hkn, a, ?_⟩
    rcases dist_edge T hS a with q | q <;> omega
  unfold towG
  cases e : towL n es goal x with
  | nil =>
    left
    refine ⟨?_, rfl⟩
    apply Classical.byContradiction
    intro hne
    obtain ⟨u, hu, a, hd⟩ := (Tr.dist_is T hS).back x hx hne
    have : u ∈ towL n es goal x := List.mem_filter.mpr ⟨mem_rng.mpr hu, by
      simp only [Bool.and_eq_true, decide_eq_true_eq]
      rw [Tr.dist_symm T hu hS, Tr.dist_symm T hx hS]
      exact ⟨(Tr.dist_one T hu hx).mpr a, by omega⟩⟩
    rw [e] at this
    cases this
  | cons k l =>
    right
    obtain ⟨h1, h2, h3⟩ := hm k (by rw [e]; exact List.mem_cons_self)
    refine ⟨fun z => ?_, h2, h3⟩
    subst z
    rw [Tr.dist_self T hx] at h3
    have := Tr.dist_nn T hx h1
    omega
include T hS in
theorem towG_tale : Tale n es ((rng n).map (towG n es goal)) :=
  tale_map T (fun x hx => by
    rcases towG_ok T hS x hx with ⟨_, e⟩ | ⟨_, a, _⟩
    · rw [e]; exact hx
    · exact (Tr.adj_hs T a).1) fun x y a => toward_ok T hS (fun x hx => towG_ok T hS x hx) a
end
/-! ### houses by their way from a root -/
noncomputable def ordP (n : Int) (es : Tr.Roads) (s : Int) : List (Int × Int) := sortP ((rng n).map fun k => (dist es s k, k))
noncomputable def ahd (n : Int) (es : Tr.Roads) (s : Int) (p : Int × Int) : List Int := (rng n).filter fun k => decide (dist es k p.2 = 1) && decide (dist es s k < p.1)
noncomputable def ordL (n : Int) (es : Tr.Roads) (s : Int) : List (Int × List Int) := (ordP n es s).map fun p => (p.2, ahd n es s p)
section
variable {n : Int} {es : Tr.Roads} (T : IsTree n es) {s : Int} (hS : hs n s)
theorem ordP_mem {p : Int × Int} (h : p ∈ ordP n es s) : hs n p.2 ∧ p.1 = dist es s p.2 := by
  obtain ⟨k, hk, rfl⟩ := List.mem_map.mp (mem_sortP.mp h)
  exact ⟨mem_rng.mp hk, rfl⟩
theorem ordP_len : (ordP n es s).length = n.toNat := by
  unfold ordP
  rw [(sortP_perm _).length_eq, List.length_map, rng_len]
theorem ordP_all {k : Int} (hk : hs n k) : (dist es s k, k) ∈ ordP n es s := mem_sortP.mpr (List.mem_map.mpr ⟨k, mem_rng.mpr hk, rfl⟩)
/-- the nearer ones stand ahead -/
theorem ordP_ahead {i : Nat} {p : Int × Int} (hi : (ordP n es s)[i]? = some p) {k : Int} (hk : hs n k) (h : dist es s k < p.1) : ∃ j, j < i ∧ (ordP n es s)[j]? = some (dist es s k, k) := by
  obtain ⟨j, hj, e⟩ := List.mem_iff_getElem.mp (ordP_all (es := es) (s := s) hk)
  refine ⟨j, ?_, by rw [List.getElem?_eq_getElem hj, e]⟩
  apply Classical.byContradiction
  intro q
  obtain ⟨hi', e'⟩ := List.getElem?_eq_some_iff.mp hi
  by_cases hij : i = j
  · subst hij
    rw [e'] at e
    rw [e] at h
    exact absurd h (Int.lt_irrefl _)
  · have := List.pairwise_iff_getElem.mp (sortP_sorted ((rng n).map fun k => (dist es s k, k))) i j hi' hj (by omega)
    have e1 : (sortP ((rng n).map fun k => (dist es s k, k)))[i] = p := e'
    have e2 : (sortP ((rng n).map fun k => (dist es s k, k)))[j] = (dist es s k, k) := e
    rw [e1, e2] at this
    unfold leP at this
    simp only at this
    omega
theorem ordP_le {i j : Nat} {p q : Int × Int} (hi : (ordP n es s)[i]? = some p) (hj : (ordP n es s)[j]? = some q) (h : j < i) : q.1 ≤ p.1 := by
  obtain ⟨hi', e'⟩ := List.getElem?_eq_some_iff.mp hi
  obtain ⟨hj', e⟩ := List.getElem?_eq_some_iff.mp hj
  have := List.pairwise_iff_getElem.mp (sortP_sorted ((rng n).map fun k => (dist es s k, k))) j i hj' hi' h
  have e1 : (sortP ((rng n).map fun k => (dist es s k, k)))[i] = p := e'
  have e2 : (sortP ((rng n).map fun k => (dist es s k, k)))[j] = q := e
  rw [e1, e2] at this
  unfold leP at this
  omega
theorem ordP_nodup : ((ordP n es s).map Prod.snd).Nodup := by
  have p : ((ordP n es s).map Prod.snd).Perm (((rng n).map fun k => (dist es s k, k)).map Prod.snd) := (sortP_perm _).map _
  rw [List.map_map] at p
  have : (rng n).map (Prod.snd ∘ fun k => (dist es s k, k)) = rng n := by
    show (rng n).map (fun k => k) = rng n
    exact List.map_id' _
  rw [this] at p
  exact p.nodup_iff.mpr (rng_nodup n)
theorem ordP_new {i : Nat} {p : Int × Int} (hi : (ordP n es s)[i]? = some p) : p.2 ∉ ((ordP n es s).take i).map Prod.snd := by
  intro h
  obtain ⟨q, hq, e⟩ := List.mem_map.mp h
  obtain ⟨j, hj, e2⟩ := List.mem_iff_getElem.mp hq
  have hj2 : j < i := by rw [List.length_take] at hj; omega
  have h1 : (ordP n es s)[j]? = some q := by
    have := List.getElem?_eq_getElem hj
    rw [e2, List.getElem?_take] at this
    rw [if_pos hj2] at this
    exact this
  have a : ((ordP n es s).map Prod.snd)[i]? = some p.2 := by rw [List.getElem?_map, hi]; rfl
  have b : ((ordP n es s).map Prod.snd)[j]? = some p.2 := by rw [List.getElem?_map, h1, ← e]; rfl
  have := nd_ix ordP_nodup a b
  omega
include T hS in
/-- who stands next door ahead: the parent -/
theorem ahd_mem {p : Int × Int} (hp : p ∈ ordP n es s) {k : Int} : k ∈ ahd n es s p ↔ adj es k p.2 ∧ dist es s k + 1 = dist es s p.2 := by
  obtain ⟨h1, h2⟩ := ordP_mem hp
  constructor
  · intro hk
    obtain ⟨q1, q2⟩ := List.mem_filter.mp hk
    have hkn := mem_rng.mp q1
    simp only [Bool.and_eq_true, decide_eq_true_eq] at q2
    have a := (Tr.dist_one T hkn h1).mp q2.1
    refine ⟨a, ?_⟩
    have := q2.2
    rcases dist_edge T hS a with q | q <;> omega
  · rintro ⟨a, hd⟩
    have hkn := (Tr.adj_hs T a).1
    refine List.mem_filter.mpr ⟨mem_rng.mpr hkn, ?_⟩
    simp only [Bool.and_eq_true, decide_eq_true_eq]
    exact ⟨(Tr.dist_one T hkn h1).mpr a, by omega⟩
end
/-- houses put somewhere, next doors never more than next doors apart -/
structure Put (n : Int) (es : Tr.Roads) (ks : List Int) (f : Int → Int) : Prop where
  rng : ∀ x ∈ ks, hs n (f x)
  edge : ∀ x ∈ ks, ∀ u ∈ ks, adj es u x → dist es (f x) (f u) ≤ 1
theorem put_add {n : Int} {es : Tr.Roads} (T : IsTree n es) {ks : List Int} {f : Int → Int} (P : Put n es ks f) {h w : Int} (hn : h ∉ ks) (hw : hs n w) (hd : ∀ u ∈ ks, adj es u h → dist es w (f u) ≤ 1) : Put n es (ks ++ [h]) (fun v => if v = h then w else f v) := by
  have hne : ∀ v ∈ ks, v ≠ h := fun v hv z => hn (z ▸ hv)
  refine ⟨fun x hx => ?_, fun x hx u hu a => ?_⟩
  · show hs n (if x = h then w else f x)
    split
    · exact hw
    · rename_i q
      exact P.rng x ((List.mem_append.mp hx).resolve_right fun z => q (List.mem_singleton.mp z))
  · show dist es (if x = h then w else f x) (if u = h then w else f u) ≤ 1
    rcases List.mem_append.mp hx with hx1 | hx1 <;> rcases List.mem_append.mp hu with hu1 | hu1
    · rw [if_neg (hne x hx1), if_neg (hne u hu1)]
      exact P.edge x hx1 u hu1 a
    · have := List.mem_singleton.mp hu1
      subst this
      rw [if_neg (hne x hx1), if_pos rfl, Tr.dist_symm T (P.rng x hx1) hw]
      exact hd x hx1 a.symm
    · have := List.mem_singleton.mp hx1
      subst this
      rw [if_neg (hne u hu1), if_pos rfl]
      exact hd u hu1 a
    · have h1 := List.mem_singleton.mp hx1
      have h2 := List.mem_singleton.mp hu1
      subst h1
      subst h2
      exact absurd rfl (Tr.adj_ne T a)
theorem put_tale {n : Int} {es : Tr.Roads} (T : IsTree n es) {ks : List Int} {f : Int → Int} (P : Put n es ks f) (h : ∀ x, hs n x → x ∈ ks) : Tale n es ((rng n).map f) :=
  tale_map T (fun x hx => P.rng x (h x hx)) fun x y a => by
    obtain ⟨hx, hy⟩ := Tr.adj_hs T a
    exact P.edge x (h x hx) y (h y hy) a.symm
/-- a def that draws a tale -/
def sp_tale (K : PySem.W.Frag) : Sp := fun vs H Q _ => ∃ (F : Hp) (p : Addr) (m n : Int) (es : Tr.Roads) (w : V), vs = [.ref p, w] ∧ Ex F H ∧ Pot F H p m ∧ m ≤ 2 * 10 ^ 8 ∧ R K F w (tab n (dist es)) ∧ IsTree n es ∧ n ≤ 60 ∧
  ∀ v F' H' st, Tale n es st → StpM (potS p).M F H F' H' → Pot F' H' p (m + 1000) → R K F' v st → Q v H'
def sp_tale3 (K : PySem.W.Frag) (lim c : Int) : Sp := fun vs H Q _ => ∃ (F : Hp) (p : Addr) (m n : Int) (es : Tr.Roads) (w l : V), vs = [.ref p, w, l] ∧ Ex F H ∧ Pot F H p m ∧ m ≤ lim ∧ R K F w (tab n (dist es)) ∧ R K F l es ∧ IsTree n es ∧ n ≤ 60 ∧
  ∀ v F' H' st, Tale n es st → StpM (potS p).M F H F' H' → Pot F' H' p (m + c) → R K F' v st → Q v H'
def sp_order (K : PySem.W.Frag) : Sp := fun vs H Q _ => ∃ (F : Hp) (p : Addr) (m n : Int) (es : Tr.Roads) (w : V), vs = [.ref p, w] ∧ Ex F H ∧ Pot F H p m ∧ m ≤ 3 * 10 ^ 8 ∧ R K F w (tab n (dist es)) ∧ IsTree n es ∧ n ≤ 60 ∧
  ∀ v F' H' s, hs n s → StpM (potS p).M F H F' H' → Pot F' H' p (m + 1) → R K F' v (ordL n es s) → Q v H'
theorem tab_len {n : Int} (h : 0 < n) (D : Int → Int → Int) : ((tab n D).length : Int) = n := by
  unfold tab
  rw [List.length_map, rng_len]
  omega
section
variable {K : PySem.W.Frag} {F F' G H H' : Hp} {σ : L2.St} {ta tb tc te tl : TE}
theorem ev_lenT {n : Int} {D : Int → Int → Int} (h : 0 < n) (ha : EvX K F G σ ta (tab n D)) : EvX K F G σ (tCB (rLenA K) (tCons ta tNil)) n := (ev_len ha).is (tab_len h D)
/-- xs + ys, lists -/
theorem ev_cat {α : Type} [Rep α] {xs ys : List α} (ha : EvX K F G σ ta xs) (hb : EvX K F G σ tb ys) (hl : xs.length + ys.length ≤ 100000) : EvX K F G σ (tOp rAddA ta tb) (xs ++ ys) :=
  ev_op ha hb fun F1 u w _ h1 h2 H1 e1 _ Q k => by
    obtain ⟨a, vs, rfl, hs1, hv1⟩ := h1
    obtain ⟨b, ws, rfl, hs2, hv2⟩ := h2
    refine .inr (.inr ?_)
    refine ⟨a, b, vs, ws, rfl, rfl, e1 _ _ hs1, e1 _ _ hs2, sz_of (by rw [hv1.len, hv2.len]; exact hl), fun q hq => ?_⟩
    exact k _ _ _ ((Stp.refl e1).new hq) ⟨q, _, rfl, upd_same, (hv1.app hv2).imp fun _ _ => Rep.mono (Ex.new (fresh_back e1 hq))⟩
end
end L3

namespace L3
open PySem L2
open Evl (Ex ex_l ex_t fresh_back sz_of sz_lt ixN_nat)
open Rep (R)
open RepD (toD)
open Tr (adj hs IsTree TreeOn dist)
section
variable {K : PySem.W.Frag} {S : Src} {n m l : Int} {F F0 H0 F' G H H' : Hp} {σ : L2.St} {ta tb tc te tl : TE} {tt : TT} {E : XK} {tr : TA} {D : Ends} {tz tu : TS}
variable {α β γ δ : Type} [Rep α] [Rep β] [Rep γ] [Rep δ] {x : α} {y : β} {z : γ} {P P' : List α → Prop}
/-- a loop over a list that was drawn -/
theorem x_forM {g : TG} {B : Hp → α → L2.St → L2.St → Prop} (h : EvM K S n m F σ tl P) (e : Ex F H) (i : S.I n F H) (hg : Tgt K g B)
    (k : ∀ xs F1 H1, StpM S.M F H F1 H1 → S.I m F1 H1 → P xs → ∃ Inv : Nat → Hp → L2.St → Hp → Prop, Inv 0 F1 σ H1 ∧ (∀ i F' σ' H', Inv i F' σ' H' → Ex F1 F' ∧ Ex F' H') ∧
      (∀ i x F' σ' H', xs[i]? = some x → Inv i F' σ' H' → ∀ F2 H2, Stp F' H' F2 H2 → ∀ σ2, B F2 x σ' σ2 →
        tu { D with nx := fun σ H => ∃ F, Inv (i + 1) F σ H, ct := fun σ H => ∃ F, Inv (i + 1) F σ H, bk := tz D } σ2 H2) ∧
      (∀ F' σ' H', Inv xs.length F' σ' H' → tz D σ' H')) : tSeq (tFor (iList K tl) g tu) tz D σ H :=
  h.go e i fun v xs F1 H1 s1 i1 p1 r1 => by
    have ev : EvX K F1 H1 σ (fun _ H Q => Q v H) xs := fun H e g Q k => k v F1 H (Stp.refl e) r1
    refine x_for (it_list ev) s1.fh hg fun F2 H2 s2 => k xs F2 H2 (s1.trans s2.m) (S.stp i1 s2) p1
/-- while the dict is read it is locked -/
theorem ev_lock {d : Addr} {u : HO} {t : TE} (hd : G d = some u) (mu : Mut (some u)) (fd : F d = none) (h : ∀ od, EvX K F (upd G d (.frz od u)) σ t x) : EvX K F G σ (tLockE t) x := fun H e g Q k =>
  ⟨d, u, g _ _ hd, mu, fun od => by
    have g2 : Ex (upd G d (.frz od u)) (upd H d (.frz od u)) := fun a o q => by
      by_cases ha : a = d
      · subst ha; rw [upd_same] at q ⊢; exact q
      · rw [upd_ne ha] at q ⊢; exact g a o q
    refine h od (upd H d (.frz od u)) (Ex.mut e fd) g2 _ fun v F' H' s r => ?_
    have hd2 : H' d = some (.frz od u) := s.hh _ _ upd_same
    have fd2 : F' d = none := s.fno (p := d) upd_same fd
    refine ⟨hd2, k v F' _ ⟨s.ff, Ex.mut s.fh fd2, fun a o q => ?_, fun a o q => ?_⟩ r⟩
    · by_cases ha : a = d
      · subst ha; rw [upd_same]; rw [g _ _ hd] at q; exact q
      · rw [upd_ne ha]; exact s.hh a o (by rw [upd_ne ha]; exact q)
    · by_cases ha : a = d
      · subst ha; exact s.nw a _ upd_same
      · exact s.nw a o (by rw [upd_ne ha]; exact q)⟩
/-- [k for k in d if ..], a dict of ours -/
theorem ev_keysF {d : Addr} {ks : List Int} {f : Int → Int} {i j : Nat} {vs : List Nat} (p : Int → Bool) (hd : G d = some (.dK (kvsOf ks f))) (fd : F d = none) (hσ : σ[j]? = some (some (.ref d))) (hks : ks.length ≤ 1000)
    (hw : ∀ x, wipe ((wipe σ vs).set i (some x)) vs = wipe σ vs) (hv : ∀ x, ((wipe σ vs).set i (some x))[i]? = some (some x))
    (ht : ∀ x ∈ ks, ∀ G', EvT F G' ((wipe σ vs).set i (some (.int x))) tt (p x)) : EvX K F G σ (tLockE (tLc (iKeys (tVar j)) (gName i) tt (tVar i) vs)) (ks.filter p) := fun H e g Q k =>
  ⟨d, .dK (kvsOf ks f), g _ _ hd, True.intro, fun od => ⟨_, hσ, d, od, rfl, .inl ⟨kvsOf ks f, upd_same, fun D hD => by
    have hdD : D ≠ d := fun z => by subst z; rw [upd_same] at hD; cases hD
    have e1 : Ex F (upd H d (.frz od (.dK (kvsOf ks f)))) := Ex.mut e fd
    have hlen : (kvsOf ks f).length = ks.length := kvs_len ks f
    refine lc_it (walk_keys (d := d) (o := od) (kvs := kvsOf ks f)) (fun i H' => Ex (upd H d (.frz od (.dK (kvsOf ks f)))) H' ∧ H' D = some (.lst (((ks.take i).filter p).map V.int))) ⟨Ex.new hD, by rw [upd_same]; rfl⟩
      (fun i H' _ ⟨q, _⟩ => q _ _ upd_same) ?_ ?_
    · rintro i x H2 H3 hi ⟨q1, q2⟩ ⟨rfl, kk, v, hk, rfl⟩
      unfold kvsOf at hk
      rw [List.getElem?_map] at hk
      obtain ⟨z, hz, ez⟩ := Option.map_eq_some_iff.mp hk
      injection ez with ez1 ez2
      subst ez1
      refine ⟨hw _, ?_⟩
      refine ht z (List.mem_of_getElem? hz) H3 H3 (e1.trans q1) (Ex.refl _) _ fun H4 e4 => ?_
      have hD4 := e4 _ _ q2
      cases hp : p z with
      | true =>
        rw [if_pos rfl]
        refine ⟨_, hv _, _, hD4, ?_, Ex.mut (q1.trans e4) hD, ?_⟩
        · rw [List.length_map]
          have h1 := List.length_filter_le p (ks.take i)
          have h2 : (ks.take i).length ≤ ks.length := by rw [List.length_take]; exact Nat.min_le_right _ _
          exact sz_lt (show _ < 100000 by omega)
        · rw [upd_same, List.take_add_one, hz, List.filter_append, List.map_append]
          simp [hp, kV]
      | false =>
        rw [if_neg Bool.false_ne_true]
        refine ⟨q1.trans e4, ?_⟩
        rw [List.take_add_one, hz, List.filter_append]
        simpa [hp] using hD4
    · rintro H2 ⟨q1, q2⟩
      rw [hlen, List.take_length] at q2
      have hd2 := q1 _ _ (upd_same (H := H) (a := d) (o := HO.frz od (.dK (kvsOf ks f))))
      have fD : F D = none := fresh_back e1 hD
      refine ⟨hd2, k (.ref D) (upd F D (.lst ((ks.filter p).map V.int))) _ ⟨Ex.new fD, fun a o q => ?_, fun a o q => ?_, fun a o q => ?_⟩ ⟨D, _, rfl, upd_same, all2_ints.mpr rfl⟩⟩
      · by_cases ha : a = D
        · subst ha
          rw [upd_same] at q
          rw [upd_ne hdD, ← q]
          exact q2
        · rw [upd_ne ha] at q
          have had : a ≠ d := fun z => by subst z; rw [fd] at q; cases q
          rw [upd_ne had]
          exact q1 _ _ (e1 _ _ q)
      · by_cases ha : a = d
        · subst ha
          rw [upd_same]
          rw [g _ _ hd] at q
          exact q
        · rw [upd_ne ha]
          exact q1 _ _ (by rw [upd_ne ha]; exact q)
      · have ha : a ≠ D := fun z => by
          subst z
          rw [upd_ne hdD, q] at hD
          cases hD
        rw [upd_ne ha]⟩⟩⟩
theorem em_spots {p : Addr} {k : Nat} {vv : V} {xs : List Int} {E1 E2 : XK} (h0 : σ[0]? = some (some (.ref p))) (hk : σ[k]? = some (some vv)) (r : R K F vv xs) (hx : 0 < xs.length) (hx2 : xs.length ≤ 1000) (hn : n ≤ 5 * 10 ^ 8) : EvM K (potS p) n (n + 1 + 1) F σ
    (tLst (tCons (tCall sp_pdraw [] E1 (tCons (tVar 0) (tCons (tCB (rLenA K) (tCons (tVar k) tNil)) tNil))) (tCons (tC (.int 0)) (tCons (tOp (rI0 fun i j => .int (i - j)) (tCB (rLenA K) (tCons (tVar k) tNil)) (tC (.int 1))) (tCons (tCall sp_pdraw [] E2 (tCons (tVar 0) (tCons (tCB (rLenA K) (tCons (tVar k) tNil)) tNil))) tNil)))))
    (fun l : List Int => l.length = 4 ∧ ∀ x ∈ l, 0 ≤ x ∧ x < (xs.length : Int)) := by
  have h60 : (1000 : Int) ≤ 10 ^ 60 := by decide
  have vl : ∀ {m : Int}, EvM K (potS p) m m F σ (tCB (rLenA K) (tCons (tVar k) tNil)) (fun x => x = (xs.length : Int)) := em_pure (ev_len (ev_var hk r))
  have c1 : ∀ {m : Int} {E1 : XK}, m ≤ 6 * 10 ^ 8 → EvM K (potS p) m (m + 1) F σ (tCall sp_pdraw [] E1 (tCons (tVar 0) (tCons (tCB (rLenA K) (tCons (tVar k) tNil)) tNil))) (fun x : Int => 0 ≤ x ∧ x < (xs.length : Int)) := fun hm => EvM.imp (em_draw h0 draw_pot vl (by omega) (fun i h => by subst h; omega)) fun x ⟨i, hi, a, b⟩ => by subst hi; omega
  have c2 : EvM K (potS p) (n + 1) (n + 1) F σ (tC (.int 0)) (fun x : Int => 0 ≤ x ∧ x < (xs.length : Int)) := EvM.imp em_int fun x e => by subst e; omega
  have c3 : EvM K (potS p) (n + 1) (n + 1) F σ (tOp (rI0 fun i j => .int (i - j)) (tCB (rLenA K) (tCons (tVar k) tNil)) (tC (.int 1))) (fun x : Int => 0 ≤ x ∧ x < (xs.length : Int)) := EvM.imp (em_sub vl fun _ _ => em_int) fun x ⟨a, b, ha, hb, e⟩ => by subst ha hb e; omega
  exact em_lst (eml_all (c1 (by omega)) (eml_all c2 (eml_all c3 (eml_all (c1 (by omega)) eml_nilA)))) fun xs h => by rw [h.1]; decide
theorem em_pick {p : Addr} {v6 v7 : V} {xs sp : List Int} {lot : Int} {E1 : XK} (h0 : σ[0]? = some (some (.ref p))) (h2 : σ[2]? = some (some (.int lot))) (h6 : σ[6]? = some (some v6)) (h7 : σ[7]? = some (some v7)) (r6 : R K F v6 xs) (r7 : R K F v7 sp) (hl : 0 ≤ lot ∧ lot < 4) (hs4 : sp.length = 4) (hsp : ∀ x ∈ sp, 0 ≤ x ∧ x < (xs.length : Int)) (hn : n ≤ 5 * 10 ^ 8) :
    EvM K (potS p) n (n + 1) F σ (tIx K (tVar 6) (tIx K (tVar 7) (tIf (tTest (tOp (rI0 fun i j => .bl (decide (j < i))) (tCall sp_pdraw [] E1 (tCons (tVar 0) (tCons (tC (.int 5)) tNil))) (tC (.int 0)))) (tVar 2) (tC (.int 0))))) (fun w : Int => w ∈ xs) := by
  have h60 : (1000 : Int) ≤ 10 ^ 60 := by decide
  have c1 : EvM K (potS p) n (n + 1) F σ (tIf (tTest (tOp (rI0 fun i j => .bl (decide (j < i))) (tCall sp_pdraw [] E1 (tCons (tVar 0) (tCons (tC (.int 5)) tNil))) (tC (.int 0)))) (tVar 2) (tC (.int 0))) (fun x : Int => 0 ≤ x ∧ x < 4) :=
    em_if (em_cmp (f := fun i j => decide (j < i)) (em_draw h0 draw_pot em_int (by omega) (fun i h => by subst h; omega)) fun _ _ => em_int) (EvM.imp (em_pure (ev_var (x := lot) h2 rfl)) fun x e => by subst e; exact hl) (EvM.imp em_int fun x e => by subst e; decide)
  have c2 : EvM K (potS p) n (n + 1) F σ (tIx K (tVar 7) (tIf (tTest (tOp (rI0 fun i j => .bl (decide (j < i))) (tCall sp_pdraw [] E1 (tCons (tVar 0) (tCons (tC (.int 5)) tNil))) (tC (.int 0)))) (tVar 2) (tC (.int 0)))) (fun x : Int => 0 ≤ x ∧ x < (xs.length : Int)) :=
    EvM.imp (em_ix (em_pure (ev_var h7 r7)) (fun _ _ => c1) fun ys i e h => by subst e; omega) fun x ⟨ys, i, e, h, hq⟩ => by subst e; exact hsp x (List.mem_of_getElem? hq)
  exact EvM.imp (em_ix (em_pure (ev_var h6 r6)) (fun _ _ => c2) fun ys i e h => by subst e; exact h) fun x ⟨ys, i, e, h, hx⟩ => by subst e; exact List.mem_of_getElem? hx
theorem em_draw_ix {p : Addr} {j : Nat} {vv : V} {E1 : XK} {xs : List α} (h0 : σ[0]? = some (some (.ref p))) (hj : σ[j]? = some (some vv)) (r : R K F vv xs) (hx : 0 < xs.length) (hx2 : xs.length ≤ 1000) (hn : n ≤ 5 * 10 ^ 8) :
    EvM K (potS p) n (n + 1) F σ (tIx K (tVar j) (tCall sp_pdraw [] E1 (tCons (tVar 0) (tCons (tCB (rLenA K) (tCons (tVar j) tNil)) tNil)))) (fun w : α => w ∈ xs) := by
  have h60 : (1000 : Int) ≤ 10 ^ 60 := by decide
  refine EvM.imp (em_ix (em_pure (ev_var hj r)) (fun ys e => em_draw h0 draw_pot (em_pure (ev_len (ev_var hj r))) (by omega) (fun i h => by subst h; omega)) fun ys i e ⟨z, hz, a, b⟩ => ?_) fun x ⟨ys, i, e, _, hq⟩ => by subst e; exact List.mem_of_getElem? hq
  subst e hz
  exact ⟨a, b⟩
theorem em_order {p : Addr} {w : V} {E1 : XK} {es : Tr.Roads} {k : Int} (h0 : σ[0]? = some (some (.ref p))) (h1 : σ[1]? = some (some w)) (r : R K F w (tab n (dist es))) (T : IsTree n es) (hn6 : n ≤ 60) (hk : k ≤ 3 * 10 ^ 8) :
    EvM K (potS p) k (k + 1) F σ (tCall (sp_order K) [] E1 (tCons (tVar 0) (tCons (tVar 1) tNil))) (fun l : List (Int × List Int) => ∃ s, hs n s ∧ l = ordL n es s) := fun F1 H e1 e2 i Q kk =>
  ⟨_, h0, _, h1, F1, p, k, n, es, w, rfl, e2, i, hk, Rep.mono e1 r, T, hn6, fun v F2 H2 s hS s2 i2 r2 => kk v _ F2 H2 s2 i2 ⟨s, hS, rfl⟩ r2⟩
theorem em_taleF {p : Addr} {w : V} {E1 : XK} {es : Tr.Roads} {k : Int} (h0 : σ[0]? = some (some (.ref p))) (h1 : σ[1]? = some (some w)) (r : R K F w (tab n (dist es))) (T : IsTree n es) (hn6 : n ≤ 60) (hk : k ≤ 2 * 10 ^ 8) :
    EvM K (potS p) k (k + 1000) F σ (tCall (sp_tale K) [] E1 (tCons (tVar 0) (tCons (tVar 1) tNil))) (fun l : List Int => Tale n es l) := fun F1 H e1 e2 i Q kk =>
  ⟨_, h0, _, h1, F1, p, k, n, es, w, rfl, e2, i, hk, Rep.mono e1 r, T, hn6, fun v F2 H2 st hS s2 i2 r2 => kk v st F2 H2 s2 i2 hS r2⟩
theorem em_tale3 {p : Addr} {w l : V} {j1 j2 : Nat} {jp : Nat} {E1 : XK} {es : Tr.Roads} {k lim c : Int} (h0 : σ[jp]? = some (some (.ref p))) (h1 : σ[j1]? = some (some w)) (h2 : σ[j2]? = some (some l)) (r : R K F w (tab n (dist es))) (r2 : R K F l es) (T : IsTree n es) (hn6 : n ≤ 60) (hk : k ≤ lim) :
    EvM K (potS p) k (k + c) F σ (tCall (sp_tale3 K lim c) [] E1 (tCons (tVar jp) (tCons (tVar j1) (tCons (tVar j2) tNil)))) (fun l : List Int => Tale n es l) := fun F1 H e1 e2 i Q kk =>
  ⟨_, h0, _, h1, _, h2, F1, p, k, n, es, w, l, rfl, e2, i, hk, Rep.mono e1 r, Rep.mono e1 r2, T, hn6, fun v F2 H2 st hS s2 i2 r2 => kk v st F2 H2 s2 i2 hS r2⟩
theorem at_head {l : List α} {x d : α} : atI (l ++ [x]) 0 = some ((l ++ [x]).headD d) := by
  have h : (l ++ [x])[0]? = some ((l ++ [x]).headD d) := by cases l <;> rfl
  exact atI_nat h
theorem at_hd {l : List α} {d : α} (h : l ≠ []) : atI l 0 = some (l.headD d) := by
  have h : l[0]? = some (l.headD d) := by cases l with
    | nil => exact absurd rfl h
    | cons a l => rfl
  exact atI_nat h
theorem hd_mem {l : List α} {d : α} (h : l ≠ []) : l.headD d ∈ l := by
  cases l with
  | nil => exact absurd rfl h
  | cons a l => exact List.mem_cons_self
end
end L3
namespace L3
open PySem L2
open Evl (Ex ex_l ex_t fresh_back sz_of sz_lt ixN_nat)
open Rep (R)
open Tr (adj hs IsTree TreeOn dist)
noncomputable def hidT (es : Tr.Roads) (ah : List Int) (f : Int → Int) (k : Int) : Bool := decide (ah = []) || decide (dist es k (f (ah.headD 0)) < 2)
section
variable {n : Int} {es : Tr.Roads} (T : IsTree n es) {s : Int} (hS : hs n s)
theorem ord_ks {i : Nat} {p : Int × Int} (hi : (ordP n es s)[i]? = some p) {k : Int} (hk : hs n k) (h : dist es s k < p.1) : k ∈ ((ordP n es s).take i).map Prod.snd := by
  obtain ⟨j, hj, e⟩ := ordP_ahead hi hk h
  refine List.mem_map.mpr ⟨(dist es s k, k), List.mem_iff_getElem?.mpr ⟨j, ?_⟩, rfl⟩
  rw [List.getElem?_take, if_pos hj]; exact e
theorem ks_le {i : Nat} {p : Int × Int} (hi : (ordP n es s)[i]? = some p) {k : Int} (h : k ∈ ((ordP n es s).take i).map Prod.snd) : hs n k ∧ dist es s k ≤ p.1 := by
  obtain ⟨q, hq, rfl⟩ := List.mem_map.mp h
  obtain ⟨j, hj⟩ := List.mem_iff_getElem?.mp hq
  rw [List.getElem?_take] at hj
  split at hj
  · rename_i hlt
    have h1 := ordP_mem (List.mem_of_getElem? hj)
    have h2 := ordP_le hi hj hlt
    exact ⟨h1.1, by rw [← h1.2]; exact h2⟩
  · cases hj
theorem ks_succ {i : Nat} {p : Int × Int} (hi : (ordP n es s)[i]? = some p) : ((ordP n es s).take (i + 1)).map Prod.snd = ((ordP n es s).take i).map Prod.snd ++ [p.2] := by
  rw [List.take_add_one, hi, List.map_append]; rfl
theorem ks_all {x : Int} (hx : hs n x) : x ∈ ((ordP n es s).take (ordP n es s).length).map Prod.snd := by
  rw [List.take_length]
  exact List.mem_map.mpr ⟨_, ordP_all hx, rfl⟩
include T hS in
theorem hid_step {i : Nat} {p : Int × Int} (hi : (ordP n es s)[i]? = some p) {f : Int → Int} (P : Put n es (((ordP n es s).take i).map Prod.snd) f) :
    (∀ a ∈ ahd n es s p, a ∈ ((ordP n es s).take i).map Prod.snd) ∧ (∃ w, hs n w ∧ hidT es (ahd n es s p) f w = true) ∧ ∀ w, hs n w → hidT es (ahd n es s p) f w = true → Put n es (((ordP n es s).take (i + 1)).map Prod.snd) (fun v => if v = p.2 then w else f v) := by
  have hp := List.mem_of_getElem? hi
  obtain ⟨hx, hd⟩ := ordP_mem hp
  have hin : ∀ a ∈ ahd n es s p, a ∈ ((ordP n es s).take i).map Prod.snd := fun a ha => by
    obtain ⟨h1, h2⟩ := (ahd_mem T hS hp).mp ha
    exact ord_ks hi (Tr.adj_hs T h1).1 (by omega)
  refine ⟨hin, ?_, fun w hw ht => ?_⟩
  · by_cases e : ahd n es s p = []
    · exact ⟨p.2, hx, by unfold hidT; rw [decide_eq_true e]; rfl⟩
    · have ha := hd_mem (d := 0) e
      have hf := P.rng _ (hin _ ha)
      refine ⟨f ((ahd n es s p).headD 0), hf, ?_⟩
      unfold hidT
      rw [Tr.dist_self T hf]
      simp
  · rw [ks_succ hi]
    refine put_add T P (ordP_new hi) hw fun u hu a => ?_
    obtain ⟨hun, hul⟩ := ks_le hi hu
    have hpar : dist es s u + 1 = dist es s p.2 := by
      rcases dist_edge T hS a with q | q <;> omega
    have hua : u ∈ ahd n es s p := (ahd_mem T hS hp).mpr ⟨a, hpar⟩
    have hne : ahd n es s p ≠ [] := List.ne_nil_of_mem hua
    have ha := (ahd_mem T hS hp).mp (hd_mem (d := 0) hne)
    have e := parent_uniq T hS hun (Tr.adj_hs T ha.1).1 a ha.1 hpar ha.2
    unfold hidT at ht
    rw [decide_eq_false hne, Bool.false_or, ← e] at ht
    have := of_decide_eq_true ht
    omega
end
section
variable {K : PySem.W.Frag} {td ty tv : TE} {D : Ends} {σ : L2.St} {H : Hp}
theorem u_dput (h : tv σ H fun v H1 => td σ H1 fun x H2 => ty σ H2 fun y H3 => ∃ a H4, x = .ref a ∧ DPut H3 a y v H4 ∧ D.nx σ H4) : sDPut td ty tv D σ H := h
theorem u_drop {te : TE} (h : te σ H fun _ H1 => D.nx σ H1) : tDrop te D σ H := h
end
theorem mem_sorted {L : List Int} {g : Int → Int} {x : Int} : x ∈ (sortP (L.map fun k => (g k, k))).map Prod.snd ↔ x ∈ L := by
  constructor
  · intro h
    obtain ⟨p, hp, rfl⟩ := List.mem_map.mp h
    obtain ⟨k, hk, rfl⟩ := List.mem_map.mp (mem_sortP.mp hp)
    exact hk
  · intro h
    exact List.mem_map.mpr ⟨(g x, x), mem_sortP.mpr (List.mem_map.mpr ⟨x, h, rfl⟩), rfl⟩
theorem len_sorted {L : List Int} {g : Int → Int} : ((sortP (L.map fun k => (g k, k))).map Prod.snd).length = L.length := by
  rw [List.length_map, (sortP_perm _).length_eq, List.length_map]
end L3

namespace L3
open Tr (adj hs IsTree TreeOn dist)
structure Swp (n : Int) (es : Tr.Roads) (h0 t0 : Int) (i : Nat) (ks : List Int) (f : Int → Int) : Prop where
  h : h0 ∈ ks
  t : t0 ∈ ks
  put : Put n es ks f
  len : ks.length ≤ 2 + i
  rng : ∀ x ∈ ks, hs n x
  done : ∀ j q, j < i → (ordP n es h0)[j]? = some q → q.2 ∈ ks
  old : ∀ x ∈ ks, x = h0 ∨ x = t0 ∨ ∃ j q, j < i ∧ (ordP n es h0)[j]? = some q ∧ q.2 = x
section
variable {n : Int} {es : Tr.Roads} (T : IsTree n es) {h0 t0 : Int} (a0 : adj es h0 t0)
include T a0 in
theorem swp_start : Swp n es h0 t0 0 [h0, t0] (fun v => if v = t0 then h0 else t0) := by
  obtain ⟨hh, ht⟩ := Tr.adj_hs T a0
  have hne := Tr.adj_ne T a0
  refine ⟨by simp, by simp, ⟨fun x hx => ?_, fun x hx u hu a => ?_⟩, by simp, fun x hx => ?_, fun j q h => absurd h (Nat.not_lt_zero _), fun x hx => ?_⟩
  · show hs n (if x = t0 then h0 else t0)
    split
    · exact hh
    · exact ht
  · show dist es (if x = t0 then h0 else t0) (if u = t0 then h0 else t0) ≤ 1
    have d1 := Tr.dist_adj_le T hh ht a0
    have d2 := Tr.dist_adj_le T ht hh a0.symm
    split <;> split
    · rw [Tr.dist_self T hh]; omega
    · exact d1
    · exact d2
    · rw [Tr.dist_self T ht]; omega
  · simp only [List.mem_cons, List.not_mem_nil, or_false] at hx
    rcases hx with rfl | rfl
    · exact hh
    · exact ht
  · simp only [List.mem_cons, List.not_mem_nil, or_false] at hx
    rcases hx with rfl | rfl
    · exact .inl rfl
    · exact .inr (.inl rfl)
variable {i : Nat} {ks : List Int} {f : Int → Int} {p : Int × Int}
theorem swp_skip (S : Swp n es h0 t0 i ks f) (hi : (ordP n es h0)[i]? = some p) (hx : p.2 ∈ ks) : Swp n es h0 t0 (i + 1) ks f :=
  ⟨S.h, S.t, S.put, Nat.le_trans S.len (by omega), S.rng, fun j q hj e => by
    by_cases z : j = i
    · subst z
      rw [hi] at e
      cases e
      exact hx
    · exact S.done j q (by omega) e, fun x h => by
    rcases S.old x h with h | h | ⟨j, q, hj, e⟩
    · exact .inl h
    · exact .inr (.inl h)
    · exact .inr (.inr ⟨j, q, by omega, e⟩)⟩
include T a0 in
theorem swp_new (S : Swp n es h0 t0 i ks f) (hi : (ordP n es h0)[i]? = some p) (hx : p.2 ∉ ks) :
    ks.filter (fun k => decide (dist es k p.2 = 1)) ≠ [] ∧ (ks.filter fun k => decide (dist es k p.2 = 1)).headD 0 ∈ ks ∧
    ∀ w, hs n w → dist es w (f ((ks.filter fun k => decide (dist es k p.2 = 1)).headD 0)) < 2 → Swp n es h0 t0 (i + 1) (ks ++ [p.2]) (fun v => if v = p.2 then w else f v) := by
  obtain ⟨hh, ht⟩ := Tr.adj_hs T a0
  obtain ⟨hp, hd⟩ := ordP_mem (List.mem_of_getElem? hi)
  have hne : p.2 ≠ h0 := fun z => hx (z ▸ S.h)
  obtain ⟨u0, hu0, au0, hd0⟩ := (Tr.dist_is T hh).back p.2 hp hne
  have hin : u0 ∈ ks := by
    obtain ⟨j, hj, e⟩ := ordP_ahead hi hu0 (by omega)
    exact S.done j _ hj e
  have hA : ks.filter (fun k => decide (dist es k p.2 = 1)) ≠ [] := List.ne_nil_of_mem (List.mem_filter.mpr ⟨hin, decide_eq_true ((Tr.dist_one T hu0 hp).mpr au0)⟩)
  have par : ∀ u ∈ ks, adj es u p.2 → u = u0 := fun u hu a => by
    refine parent_uniq T hh (S.rng u hu) hu0 a au0 ?_ hd0
    rcases dist_edge T hh a with q | q
    · omega
    · exfalso
      rcases S.old u hu with rfl | rfl | ⟨j, q', hj, e, rfl⟩
      · rw [Tr.dist_self T hh] at q
        have := Tr.dist_nn T hh hp
        omega
      · rw [(Tr.dist_one T hh ht).mpr a0] at q
        have := (Tr.dist_zero T hh hp).mp (by omega)
        exact hne this
      · have h1 := (ordP_mem (List.mem_of_getElem? e)).2
        have h2 := ordP_le hi e hj
        omega
  obtain ⟨h1, h2⟩ := List.mem_filter.mp (hd_mem (d := 0) hA)
  generalize (ks.filter fun k => decide (dist es k p.2 = 1)).headD 0 = a at h1 h2
  have ha := (Tr.dist_one T (S.rng a h1) hp).mp (of_decide_eq_true h2)
  refine ⟨hA, h1, fun w hw hwd => ?_⟩
  have hau := par a h1 ha
  refine ⟨List.mem_append_left _ S.h, List.mem_append_left _ S.t, put_add T S.put hx hw fun u hu au => ?_, by rw [List.length_append]; have := S.len; simp; omega, fun x h => ?_, fun j q hj e => ?_, fun x h => ?_⟩
  · rw [par u hu au, ← hau]
    omega
  · rcases List.mem_append.mp h with h | h
    · exact S.rng x h
    · rw [List.mem_singleton.mp h]; exact hp
  · by_cases z : j = i
    · subst z
      rw [hi] at e
      cases e
      simp
    · exact List.mem_append_left _ (S.done j q (by omega) e)
  · rcases List.mem_append.mp h with h | h
    · rcases S.old x h with h | h | ⟨j, q, hj, e⟩
      · exact .inl h
      · exact .inr (.inl h)
      · exact .inr (.inr ⟨j, q, by omega, e⟩)
    · exact .inr (.inr ⟨i, p, by omega, hi, (List.mem_singleton.mp h).symm⟩)
theorem swp_all (S : Swp n es h0 t0 (ordP n es h0).length ks f) {x : Int} (hx : hs n x) : x ∈ ks := by
  obtain ⟨j, hj⟩ := List.mem_iff_getElem?.mp (ordP_all (es := es) (s := h0) hx)
  exact S.done j _ (List.getElem?_eq_some_iff.mp hj).1 hj
end
end L3

namespace L3
open PySem L2
open Evl (Ex ex_l ex_t fresh_back sz_of sz_lt ixN_nat)
open Rep (R)
open RepD (toD)
/-! ### found as it is due -/
theorem walk_zipT {K : PySem.W.Frag} {a b : Addr} {xs ys : List V} {n : Nat} (hn : n = min xs.length ys.length) : Walk (RZ.ItzT K a b) n (fun H => SqT K H a xs ∧ SqT K H b ys) (YPair (fun i => xs[i]?) (fun i => ys[i]?)) := by
  subst hn
  refine ⟨fun i _ hi q => ?_, fun _ q => ⟨xs, ys, q.1, q.2, by omega⟩, fun i H v H' _ q y => ?_⟩
  · have h1 : i < xs.length := by omega
    have h2 : i < ys.length := by omega
    exact ⟨xs, ys, xs[i], ys[i], q.1, q.2, by simp [h1], by simp [h2]⟩
  · obtain ⟨T, x, z, h1, h2, h3, h4, h5⟩ := y
    exact ⟨T, x, z, h1, h2, h3, h4 _ q.1, h5 _ q.2⟩
section
variable {K : PySem.W.Frag} {F F' G H H' : Hp} {σ : L2.St} {ta tb tc te tl : TE} {tt : TT} {E : XK}
theorem it_zipP {d : PyData} {l : List PyData} (hd : d = .list l ∨ d = .tuple l) (ha : EvX K F G σ ta d) (hb : EvX K F G σ tb d) : IT K F G σ (RZ.iZipA K (tCons ta (tCons tb tNil))) (l.zip l) := fun H e g Rr k =>
  ha H e g _ fun v F1 H1 s1 r1 => (hb.up s1.ff) H1 s1.fh (g.trans s1.hh) _ fun w F2 H2 s2 r2 => by
    have r1 := Rep.mono s2.ff r1
    have yl : ∀ {vs ws : List V} {Y : Nat → Hp → V → Hp → Prop}, DpAll K F2 vs l → DpAll K F2 ws l → ∀ i H2 v H3, Ex F2 H2 → YPair (fun i => vs[i]?) (fun i => ws[i]?) i H2 v H3 → ∃ x, (l.zip l)[i]? = some x ∧ ∃ F', Stp F2 H2 F' H3 ∧ R K F' v x := by
      intro vs ws Y d1 d2 i H2 v H3 e2 y
      obtain ⟨T, u, w, rfl, hT, rfl, q1, q2⟩ := y
      obtain ⟨x, hx, r⟩ := (dpAll_all2 d1).getl q1
      obtain ⟨y, hy, r'⟩ := (dpAll_all2 d2).getl q2
      exact ⟨(x, y), by rw [List.getElem?_zip_eq_some]; exact ⟨hx, hy⟩, _, (Stp.refl e2).new hT, T, u, w, rfl, upd_same, Rep.mono (α := PyData) (Ex.new (fresh_back e2 hT)) r, Rep.mono (α := PyData) (Ex.new (fresh_back e2 hT)) r'⟩
    rcases hd with rfl | rfl
    · cases r1 with
      | lst h1 d1 =>
        rename_i a vs
        cases r2 with
        | lst h2 d2 =>
          rename_i b ws
          have l1 := (dpAll_all2 d1).len
          have l2 := (dpAll_all2 d2).len
          exact ⟨a, b, vs, ws, rfl, .inl ⟨ex_l s2.fh h1, ex_l s2.fh h2, k _ F2 H2 (s1.trans s2) ⟨fun H => SqL K H a vs ∧ SqL K H b ws, _, walk_zip (by rw [List.length_zip, l1, l2]), fun H2 e2 => ⟨ex_l e2 h1, ex_l e2 h2⟩, fun i H2 v H3 e2 _ y => yl (Y := fun _ _ _ _ => True) d1 d2 i H2 v H3 e2 y⟩⟩⟩
    · cases r1 with
      | tup h1 d1 =>
        rename_i a vs
        cases r2 with
        | tup h2 d2 =>
          rename_i b ws
          have l1 := (dpAll_all2 d1).len
          have l2 := (dpAll_all2 d2).len
          exact ⟨a, b, vs, ws, rfl, .inr ⟨ex_t s2.fh h1, ex_t s2.fh h2, k _ F2 H2 (s1.trans s2) ⟨fun H => SqT K H a vs ∧ SqT K H b ws, _, walk_zipT (by rw [List.length_zip, l1, l2]), fun H2 e2 => ⟨ex_t e2 h1, ex_t e2 h2⟩, fun i H2 v H3 e2 _ y => yl (Y := fun _ _ _ _ => True) d1 d2 i H2 v H3 e2 y⟩⟩⟩
theorem kit2 {t A B : String} {a b : Bool} (h1 : kitB t A = some a) (h2 : kitB t B = some b) : PySem.W.kitAny K (.type t) [.type A, .type B] = some (a || b) :=
  kitAny_cons (kit_ty h1) (fun e => by
    subst e
    exact kitAny_cons (kit_ty h2) (fun e => by subst e; rfl) (fun e => by subst e; rfl)) (fun e => by subst e; rfl)
theorem ev_isiT {d : PyData} {A B : String} (ka : KB A) (kb : KB B) (ha : EvX K F G σ ta d) : EvX K F G σ (tCB (rIsiT K) (tCons ta (tCons (tTup (tCons (tC (.ty A)) (tCons (tC (.ty B)) tNil))) tNil))) (isK d A || isK d B) := fun H e g Q k =>
  ha H e g _ fun u F1 H1 s1 r1 => ⟨by show 2 ≤ sizeLine; decide, fun q hq => ⟨u, q, _, .type (kindOf d), [.type A, .type B], _, rfl, upd_same, .cons (.ty A) (.cons (.ty B) .nil), tyx_of (dp_mono (s1.fh.trans (Ex.new hq)) r1), kit2 (kitB_some ka d) (kitB_some kb d), k _ F1 _ (s1.own hq) rfl⟩⟩
end
section
open PyProof.Rows
variable {X : Cx} {K : PySem.W.Frag}
theorem k_zipA {e e2 : Expr} {ta : TA} {p pos tpos : Pos} {elts : List Expr} {kk : Nat} (hK : X.K = K) (hg : Gl X "zip") (hm : X.mg "zip" = none) (ha : PA X [e, e2] ta)
    (hs : starEach [e, e2] X.env = (false, eval e X.env) :: starEach [e2] X.env := by rfl) (hpl : (backTo pos (starEach [e2] X.env)).any (·.1) = false := by rfl) :
    PI X (.Tuple elts kk tpos) (.Call (.Name "zip" p) [e, e2] [] pos) (RZ.iZipA K ta) := hK ▸ RZ.pi_zipA hg hm ha hs hpl
end
def sp_same (K : PySem.W.Frag) (n : Nat) : Sp := Pu2 K (fun (a b : PyData) => a = b ∧ b.depth < n ∧ noD b = true ∧ dsz b ≤ 100000 ∧ b.canLay0 = true) (fun _ _ => true)
end L3
namespace L3
open PySem
theorem canLay_mem : ∀ {m : List PyData} {b : PyData}, PyData.canLayAll0 m = true → b ∈ m → b.canLay0 = true
  | a :: m, b, h, hb => by
    simp only [PyData.canLayAll0, Bool.and_eq_true] at h
    rcases List.mem_cons.mp hb with rfl | hb
    · exact h.1
    · exact canLay_mem h.2 hb
theorem zip_self {α : Type} {l : List α} {p : α × α} (h : p ∈ l.zip l) : p.1 = p.2 ∧ p.1 ∈ l := by
  obtain ⟨i, hi⟩ := List.mem_iff_getElem?.mp h
  rw [List.getElem?_zip_eq_some] at hi
  exact ⟨Option.some.inj (hi.1.symm.trans hi.2), List.mem_of_getElem? hi.1⟩
theorem eqv_flat {d : PyData} (h : ∀ l, d ≠ .list l ∧ d ≠ .tuple l ∧ d ≠ .dict []) (hn : noD d = true) : PyData.eqv d d = true := by
  cases d with
  | list l => exact absurd rfl (h l).1
  | tuple l => exact absurd rfl (h l).2.1
  | dict l => simp [noD] at hn
  | _ => simp [PyData.eqv]
end L3

namespace L3
open PySem L2
open Evl (Ex ex_l ex_t fresh_back sz_of sz_lt ixN_nat)
open Rep (R)
open RepD (toD)
open Tr (adj hs IsTree TreeOn dist)
/-! ### tales, as the program has them -/
noncomputable def isT (v : Vil) (st : List Int) : Bool := decide (st.length = v.n.toNat) && v.es.all fun e => decide (dist v.es (stAt st e.1) (stAt st e.2) ≤ 1)
/-- a list whose places are houses -/
def stA (st : List Int) (x : Int) (n : Int) : Prop := atI st x = some (stAt st x) ∧ hs n (stAt st x)
theorem stA_of {st : List Int} {n x : Int} (h1 : ∀ y ∈ st, hs n y) (h2 : hs st.length x) : stA st x n := by
  have hk : x.toNat < st.length := by have := h2.1; have := h2.2; omega
  have h3 := atI_nat (getD_at (ps := st) hk)
  rw [Int.toNat_of_nonneg h2.1] at h3
  refine ⟨h3, h1 _ ?_⟩
  unfold stAt
  rw [List.getD_eq_getElem?_getD, List.getElem?_eq_getElem hk]
  exact List.getElem_mem hk
theorem tale_held {n : Int} {es : Tr.Roads} {st : List Int} (A : Tale n es st) : Tale n (held es) st :=
  ⟨A.len, A.rng, fun x y a => by rw [dist_held]; exact A.edge x y ((adj_held es x y).mp a)⟩
theorem tale_isT {v : Vil} {st : List Int} (A : Tale v.n v.es st) : isT v st = true := by
  unfold isT
  rw [decide_eq_true A.len, Bool.true_and, List.all_eq_true]
  intro e he
  exact decide_eq_true (A.edge e.1 e.2 (.inl he))
def pw (g : Int → Int) : Nat → Int → Int
  | 0, x => x
  | k + 1, x => pw g k (g x)
theorem pw_add (g : Int → Int) : ∀ (a b : Nat) (x : Int), pw g b (pw g a x) = pw g (a + b) x
  | 0, b, x => by rw [Nat.zero_add]; rfl
  | a + 1, b, x => by
    rw [Nat.add_right_comm]
    exact pw_add g a b (g x)
theorem pw_one (g : Int → Int) (x : Int) : pw g 1 x = g x := rfl
theorem pw_succ (g : Int → Int) (k : Nat) (x : Int) : pw g (k + 1) x = g (pw g k x) := by
  rw [← pw_add g k 1 x]; rfl
theorem pw_hs {n : Int} {g : Int → Int} (h : ∀ x, hs n x → hs n (g x)) : ∀ (k : Nat) (x : Int), hs n x → hs n (pw g k x)
  | 0, x, hx => hx
  | k + 1, x, hx => pw_hs h k (g x) (h x hx)
theorem st_map {n : Int} {st : List Int} (h : st.length = n.toNat) : st = (rng n).map (stAt st) := by
  apply List.ext_getElem?
  intro k
  by_cases hk : k < n.toNat
  · rw [List.getElem?_map, rng_get hk]
    show _ = some (stAt st (k : Int))
    unfold stAt
    rw [Int.toNat_natCast, List.getD_eq_getElem?_getD, List.getElem?_eq_getElem (by omega)]
    rfl
  · rw [List.getElem?_eq_none (by omega), List.getElem?_eq_none (by rw [List.length_map, rng_len]; omega)]
/-- gone on with so many times -/
def gone (n : Int) (st : List Int) (k : Nat) : List Int := (rng n).map (pw (stAt st) k)
theorem gone_bhd {n : Int} {g : Int → Int} (h : ∀ x, hs n x → hs n (g x)) (a b : Nat) : ((rng n).map (pw g a)).map (stAt ((rng n).map (pw g b))) = (rng n).map (pw g (a + b)) := by
  rw [List.map_map]
  refine List.map_congr_left fun x hx => ?_
  show stAt ((rng n).map (pw g b)) (pw g a x) = _
  rw [stAt_map (pw_hs h a x (mem_rng.mp hx)), pw_add]
section
variable (K : PySem.W.Frag) {α β γ δ : Type} [Rep α] [Rep β] [Rep γ] [Rep δ]
def PuL3 (pre : α → β → γ → Prop) (f : α → β → γ → List δ) : Sp := fun vs H Q _ => ∃ F x y z v w t, vs = [v, w, t] ∧ Ex F H ∧ R K F v x ∧ R K F w y ∧ R K F t z ∧ pre x y z ∧ ∀ p us F' H', Stp F H F' H' → H p = none → F' p = none → H' p = some (.lst us) → All2 (R K F') us (f x y z) → Q (.ref p) H'
end
section
variable {K : PySem.W.Frag} {F F' G H H' : Hp} {σ : L2.St} {ta tb tc te tl : TE}
variable {α β γ δ : Type} [Rep α] [Rep β] [Rep γ] [Rep δ] {x : α} {y : β} {z : γ} {E : XK}
theorem en_callL3 {pre : α → β → γ → Prop} {f : α → β → γ → List δ} (ha : EvX K F G σ ta x) (hb : EvX K F G σ tb y) (hc : EvX K F G σ tc z) (hp : pre x y z) : EvN K F G σ (tCall (PuL3 K pre f) [] E (tCons ta (tCons tb (tCons tc tNil)))) (f x y z) := fun H e g Q k =>
  ha H e g _ fun v F1 H1 s1 r1 => (hb.up s1.ff) H1 s1.fh (g.trans s1.hh) _ fun w F2 H2 s2 r2 => (hc.up (s1.ff.trans s2.ff)) H2 s2.fh ((g.trans s1.hh).trans s2.hh) _ fun t F3 H3 s3 r3 =>
    ⟨F3, x, y, z, v, w, t, rfl, s3.fh, Rep.mono (s2.ff.trans s3.ff) r1, Rep.mono s3.ff r2, r3, hp, fun p us F4 H4 s4 n0 n1 h2 r4 => k p us F4 H4 (((s1.trans s2).trans s3).trans s4) (Ex.dom ((s1.hh.trans s2.hh).trans s3.hh) n0) n1 h2 r4⟩
/-- three arguments by name, the last ahead -/
theorem en_callLK3 {pre : α → β → γ → Prop} {f : α → β → γ → List δ} (ha : EvX K F G σ ta x) (hb : EvX K F G σ tb y) (hc : EvX K F G σ tc z) (hp : pre x y z) : EvN K F G σ (tCallKw (PuL3 K pre f) 3 List.reverse E (tCons tc (tCons tb (tCons ta tNil)))) (f x y z) := fun H e g Q k =>
  hc H e g _ fun t F1 H1 s1 r1 => (hb.up s1.ff) H1 s1.fh (g.trans s1.hh) _ fun w F2 H2 s2 r2 => (ha.up (s1.ff.trans s2.ff)) H2 s2.fh ((g.trans s1.hh).trans s2.hh) _ fun v F3 H3 s3 r3 =>
    ⟨rfl, F3, x, y, z, v, w, t, rfl, s3.fh, r3, Rep.mono s3.ff r2, Rep.mono (s2.ff.trans s3.ff) r1, hp, fun p us F4 H4 s4 n0 n1 h2 r4 => k p us F4 H4 (((s1.trans s2).trans s3).trans s4) (Ex.dom ((s1.hh.trans s2.hh).trans s3.hh) n0) n1 h2 r4⟩
end
end L3
namespace L3
open Tr (adj hs IsTree TreeOn dist)
theorem pw_odd {a b l q t : Nat} (h : a + b * l = t) (hl : l = 2 * q + 1) : (a + b) + (b + b) * q = t := by
  subst hl
  rw [Nat.mul_add, Nat.mul_one, Nat.mul_left_comm] at h
  rw [Nat.add_mul]
  omega
theorem pw_even {a b l q t : Nat} (h : a + b * l = t) (hl : l = 2 * q) : a + (b + b) * q = t := by
  subst hl
  rw [Nat.mul_left_comm] at h
  rw [Nat.add_mul]
  omega
theorem pw_in {n : Int} {g : Int → Int} (hn : 0 < n) (h : ∀ x, hs n x → hs n (g x)) (a b : Nat) : ∀ x ∈ (rng n).map (pw g a), hs ((rng n).map (pw g b)).length x := fun y hy => by
  obtain ⟨x, hx, rfl⟩ := List.mem_map.mp hy
  have := pw_hs h a x (mem_rng.mp hx)
  rw [List.length_map, rng_len]
  exact ⟨this.1, by have := this.2; omega⟩
end L3
namespace L3
open PySem L2
open Evl (Ex ex_l ex_t fresh_back sz_of sz_lt ixN_nat)
open Rep (R)
open RepD (toD)
open Tr (adj hs IsTree TreeOn dist)
section
variable {K : PySem.W.Frag} {F : Hp} {σ : L2.St} {n : Int}
theorem em_many {p : Addr} {E1 E2 E3 : XK} (h0 : σ[0]? = some (some (.ref p))) (hn : n ≤ 5 * 10 ^ 8) : EvM K (potS p) n (n + 1 + 1 + 1) F σ
    (tIx K (tLst (tCons (tCall sp_pdraw [] E1 (tCons (tVar 0) (tCons (tC (.int 5)) tNil))) (tCons (tCall sp_pdraw [] E2 (tCons (tVar 0) (tCons (tC (.int 101)) tNil))) tNil))) (tCall sp_pdraw [] E3 (tCons (tVar 0) (tCons (tC (.int 2)) tNil)))) (fun x : Int => 0 ≤ x ∧ x < 101) := by
  have h60 : (1000 : Int) ≤ 10 ^ 60 := by decide
  have c : ∀ {m k : Int} {E1 : XK}, m ≤ 6 * 10 ^ 8 → 0 < k → k ≤ 101 → EvM K (potS p) m (m + 1) F σ (tCall sp_pdraw [] E1 (tCons (tVar 0) (tCons (tC (.int k)) tNil))) (fun x : Int => 0 ≤ x ∧ x < 101) := fun hm k0 k1 => EvM.imp (em_draw h0 draw_pot em_int (by omega) (fun i h => by subst h; omega)) fun x ⟨i, hi, a, b⟩ => by subst hi; omega
  refine EvM.imp (em_ix (em_lst (eml_all (c (by omega) (by decide) (by decide)) (eml_all (c (by omega) (by decide) (by decide)) eml_nilA)) fun xs h => by rw [h.1]; decide) (fun xs hx => em_draw h0 draw_pot em_int (by omega) (fun i h => by subst h; omega)) fun xs i hx ⟨z, hz, a, b⟩ => ?_) fun x ⟨xs, i, hx, _, hq⟩ => hx.2 x (List.mem_of_getElem? hq)
  subst hz
  rw [hx.1]
  omega
theorem em_lines {p : Addr} {E1 E2 : XK} (h0 : σ[0]? = some (some (.ref p))) (hn : n ≤ 10 ^ 7) : EvM K (potS p) n (n + 1 + 1000) F σ
    (tCall (sp_drawn K) [] E1 (tCons (tVar 0) (tCons (tIx K (tLst (tCons (tC (.int 3)) (tCons (tC (.int 9)) (tCons (tC (.int 40)) tNil)))) (tCall sp_pdraw [] E2 (tCons (tVar 0) (tCons (tC (.int 3)) tNil)))) tNil))) (fun es : Tr.Roads => ∃ m, IsTree m es ∧ m ≤ 40) := by
  have h60 : (1000 : Int) ≤ 10 ^ 60 := by decide
  refine em_drawn h0 (em_ix (em_pure (ev_lst (xs := [(3 : Int), 9, 40]) (el_cons ev_int (el_cons ev_int (el_cons ev_int el_nil))) (by decide))) (fun _ _ => em_draw h0 draw_pot em_int (by omega) (fun i h => by subst h; omega)) fun xs i h ⟨j, hj, a, b⟩ => ?_) (by omega) fun i ⟨xs, j, e, ⟨z, hz, a, b⟩, hg⟩ => ?_
  · subst h hj
    exact ⟨a, b⟩
  · subst e hz
    rcases list3 a b hg with rfl | rfl | rfl <;> decide
theorem same_ints (xs : List Int) (h : xs.length ≤ 1000) : toD xs = toD xs ∧ (toD xs).depth < 4 ∧ noD (toD xs) = true ∧ dsz (toD xs) ≤ 100000 ∧ (toD xs).canLay0 = true :=
  ⟨rfl, Nat.lt_of_le_of_lt (RepD.dep_le xs) (by decide), ints_noD xs, Nat.le_trans (ints_dsz xs) (by omega), Lay.lay xs⟩
end
def sp_right (K : PySem.W.Frag) : Sp := fun vs H Q _ => ∃ (F : Hp) (p : Addr) (n : Int), vs = [.ref p] ∧ Ex F H ∧ Pot F H p n ∧ n ≤ 10 ^ 7 ∧ ∀ F' H', StpM (potS p).M F H F' H' → Pot F' H' p (n + 10000) → Q (.bl true) H'
end L3

namespace L3
open PySem L2
open Evl (Ex ex_l ex_t fresh_back sz_of sz_lt ixN_nat)
open Rep (R)
open RepD (toD)
open Tr (adj hs IsTree TreeOn dist)
/-! ### who changed -/
section
variable {n : Int} {es : Tr.Roads} (T : IsTree n es)
include T in
/-- two roads seen crosswise are one -/
theorem cross {x y u v : Int} (a1 : adj es x y) (a2 : adj es u v) {a : Int} (h1 : dist es u y = a) (h2 : dist es u x = a + 1) (h3 : dist es v x = a) (h4 : dist es v y = a + 1) : u = y ∧ v = x := by
  obtain ⟨hx, hy⟩ := Tr.adj_hs T a1
  obtain ⟨hu, hv⟩ := Tr.adj_hs T a2
  have h0 := Tr.dist_nn T hu hy
  by_cases ha : a = 0
  · subst ha
    exact ⟨((Tr.dist_zero T hu hy).mp h1).symm, ((Tr.dist_zero T hv hx).mp h3).symm⟩
  · exfalso
    have hne : u ≠ y := fun z => by subst z; rw [Tr.dist_self T hu] at h1; omega
    obtain ⟨p, hp, ap, hd⟩ := (Tr.dist_is T hy).back u hu hne
    rw [Tr.dist_symm T hy hu, h1] at hd
    have e1 := Tr.dist_symm T hx hu
    have e2 := Tr.dist_symm T hx hv
    have e3 := Tr.dist_symm T hy hv
    have t1 := Tr.dist_tri T hx hy hp
    have t2 := Tr.dist_adj_le T hx hy a1
    have hpx : dist es x p + 1 = dist es x u := by
      rcases dist_edge T hx ap with q | q
      · omega
      · omega
    have := parent_uniq T hx hp hv ap a2.symm hpx (by omega)
    subst this
    omega
variable {st : List Int} (A : Tale n es st)
include T A in
theorem tale_short {x y : Int} (hx : hs n x) (hy : hs n y) : dist es (stAt st x) (stAt st y) ≤ dist es x y :=
  Tr.short_map T T (fun x hx => A.hs hx) (fun x y h => A.edge x y (.inl h)) hx hy
theorem max_in {P : Int → Prop} {g : Int → Int} {b : Int} (h : ∃ x, P x) (hb : ∀ x, P x → g x ≤ b) (h0 : ∀ x, P x → 0 ≤ g x) : ∃ x, P x ∧ ∀ y, P y → g y ≤ g x := by
  obtain ⟨k, ⟨x, hx, e⟩, hk⟩ := Tr.exists_least (p := fun k : Nat => ∃ x, P x ∧ b - g x = (k : Int)) (by
    obtain ⟨x, hx⟩ := h
    exact ⟨(b - g x).toNat, x, hx, by have := hb x hx; omega⟩)
  refine ⟨x, hx, fun y hy => ?_⟩
  have := hk (b - g y).toNat ⟨y, hy, by have := hb y hy; omega⟩
  have := hb y hy
  omega
include T in
theorem dist_lt {x y : Int} (hx : hs n x) (hy : hs n y) : dist es x y ≤ n := by
  have key : ∀ (k : Nat) (v : Int), hs n v → dist es x v = (k : Int) → ∃ l : List Int, l.Nodup ∧ (∀ z ∈ l, hs n z ∧ dist es x z ≤ (k : Int)) ∧ l.length = k + 1 := by
    intro k
    induction k with
    | zero =>
      intro v hv e
      exact ⟨[v], by simp, fun z hz => by rw [List.mem_singleton.mp hz]; exact ⟨hv, by omega⟩, rfl⟩
    | succ k ih =>
      intro v hv e
      have hne : v ≠ x := fun z => by subst z; rw [Tr.dist_self T hv] at e; omega
      obtain ⟨u, hu, _, hd⟩ := (Tr.dist_is T hx).back v hv hne
      obtain ⟨l, h1, h2, h3⟩ := ih u hu (by omega)
      refine ⟨v :: l, List.nodup_cons.mpr ⟨fun z => by have := (h2 v z).2; omega, h1⟩, fun z hz => ?_, by simp [h3]⟩
      rcases List.mem_cons.mp hz with rfl | hz
      · exact ⟨hv, by omega⟩
      · exact ⟨(h2 z hz).1, by have := (h2 z hz).2; omega⟩
  obtain ⟨l, h1, h2, h3⟩ := key (dist es x y).toNat y hy (by have := Tr.dist_nn T hx hy; omega)
  have := nodup_le l (rng n) h1 fun z hz => mem_rng.mpr (h2 z hz).1
  rw [rng_len] at this
  have := hx.1
  have := hx.2
  omega
include T A in
/-- nobody at home: two next doors have changed -/
theorem two_changed (hno : ∀ x, hs n x → stAt st x ≠ x) : ∃ x y, adj es x y ∧ stAt st x = y ∧ stAt st y = x := by
  have hs0 : hs n 0 := ⟨Int.le_refl _, T.pos⟩
  have step : ∀ x, hs n x → ∃ y, hs n y ∧ adj es y x ∧ dist es (stAt st x) y + 1 = dist es (stAt st x) x := fun x hx =>
    (Tr.dist_is T (A.hs hx)).back x hx (Ne.symm (hno x hx))
  -- away from house 0
  obtain ⟨x, ⟨hx, y, hy, ay, dy, up⟩, hmax⟩ := max_in (P := fun x => hs n x ∧ ∃ y, hs n y ∧ adj es y x ∧ dist es (stAt st x) y + 1 = dist es (stAt st x) x ∧ dist es 0 y = dist es 0 x + 1) (g := dist es 0) (b := n) (by
      obtain ⟨y, hy, a, d⟩ := step 0 hs0
      refine ⟨0, hs0, y, hy, a, d, ?_⟩
      rw [Tr.dist_self T hs0, (Tr.dist_one T hs0 hy).mpr a.symm]
      rfl) (fun x h => dist_lt T hs0 h.1) (fun x h => Tr.dist_nn T hs0 h.1)
  obtain ⟨z, hz, az, dz⟩ := step y hy
  have hzx : z = x := by
    rcases dist_edge T hs0 az with q | q
    · exact parent_uniq T hs0 hz hx az ay.symm (by omega) (by omega)
    · have := hmax y ⟨hy, z, hz, az, dz, q⟩
      omega
  subst hzx
  have hsx := A.hs hx
  have hsy := A.hs hy
  have e1 := A.edge z y ay.symm
  have t1 := Tr.dist_tri T hsy hsx hy
  have t2 := Tr.dist_tri T hsx hsy hx
  have e2 := Tr.dist_symm T hsx hsy
  have hne : dist es (stAt st z) (stAt st y) = 1 := by
    have h0 := Tr.dist_nn T hsx hsy
    by_cases q : dist es (stAt st z) (stAt st y) = 0
    · have := (Tr.dist_zero T hsx hsy).mp q
      rw [this] at dz
      omega
    · omega
  have a2 := (Tr.dist_one T hsx hsy).mp hne
  obtain ⟨q1, q2⟩ := cross T (x := z) (y := y) (u := stAt st z) (v := stAt st y) ay.symm a2 (a := dist es (stAt st z) y) rfl (by omega) (by omega) (by omega)
  exact ⟨z, y, ay.symm, q1, q2⟩
include T A in
/-- no other two have -/
theorem changed_uniq {x y u v : Int} (a1 : adj es x y) (a2 : adj es u v) (h1 : stAt st x = y) (h2 : stAt st y = x) (h3 : stAt st u = v) (h4 : stAt st v = u) : (u = x ∧ v = y) ∨ (u = y ∧ v = x) := by
  obtain ⟨hx, hy⟩ := Tr.adj_hs T a1
  obtain ⟨hu, hv⟩ := Tr.adj_hs T a2
  -- nearest ends first
  have main : ∀ x y u v, adj es x y → adj es u v → stAt st x = y → stAt st y = x → stAt st u = v → stAt st v = u → dist es x u + 1 = dist es x v → dist es u x + 1 = dist es u y → u = x ∧ v = y := by
    intro x y u v a1 a2 h1 h2 h3 h4 d1 d2
    obtain ⟨hx, hy⟩ := Tr.adj_hs T a1
    obtain ⟨hu, hv⟩ := Tr.adj_hs T a2
    have s1 := tale_short T A hx hu
    rw [h1, h3] at s1
    have e1 := Tr.dist_symm T hx hu
    have e2 := Tr.dist_symm T hy hu
    have e3 := Tr.dist_symm T hx hv
    have e4 := Tr.dist_symm T hy hv
    have := cross T (x := x) (y := y) (u := v) (v := u) a1 a2.symm (a := dist es u x) (by
      rcases dist_edge T hy a2 with q | q <;> omega) (by omega) rfl (by omega)
    exact ⟨this.2, this.1⟩
  rcases dist_edge T hx a2 with q | q
  · rcases dist_edge T hu a1 with r | r
    · exact .inl (main x y u v a1 a2 h1 h2 h3 h4 (by omega) (by omega))
    · -- y is nearer to u
      have e1 := Tr.dist_symm T hx hu
      have e2 := Tr.dist_symm T hy hu
      rcases dist_edge T hy a2 with w | w
      · have := main y x u v a1.symm a2 h2 h1 h3 h4 (by omega) (by omega)
        exact .inr this
      · have e3 := Tr.dist_symm T hx hv
        have e4 := Tr.dist_symm T hy hv
        exfalso
        rcases dist_edge T hv a1 with z | z <;> omega
  · have e1 := Tr.dist_symm T hx hu
    have e2 := Tr.dist_symm T hy hu
    have e3 := Tr.dist_symm T hx hv
    have e4 := Tr.dist_symm T hy hv
    rcases dist_edge T hv a1 with r | r
    · have := main x y v u a1 a2.symm h1 h2 h4 h3 (by omega) (by omega)
      exact .inr ⟨this.2, this.1⟩
    · rcases dist_edge T hy a2 with w | w
      · exfalso
        rcases dist_edge T hu a1 with z | z <;> omega
      · have := main y x v u a1.symm a2.symm h2 h1 h4 h3 (by omega) (by omega)
        exact .inl ⟨this.2, this.1⟩
end
end L3
namespace L3
open PySem
open Tr (adj hs IsTree TreeOn dist)
def homes (st : List Int) : List Int := ((enu st).filter fun p => decide (p.1 = p.2)).map Prod.fst
def changed (v : Vil) (st : List Int) : Option (Int × Int) := if homes st = [] then some ((v.es.filter fun e => decide (stAt st e.1 = e.2) && decide (stAt st e.2 = e.1)).headD (0, 0)) else none
theorem enu_map {n : Int} {f : Int → Int} : enu ((rng n).map f) = (rng n).map fun i => (i, f i) := by
  apply List.ext_getElem?
  intro k
  by_cases hk : k < n.toNat
  · have h1 : ((rng n).map f)[k]? = some (f (k : Int)) := by rw [List.getElem?_map, rng_get hk]; rfl
    rw [enu_get h1, List.getElem?_map, rng_get hk]; rfl
  · rw [List.getElem?_eq_none (by rw [enu_len, List.length_map, rng_len]; omega), List.getElem?_eq_none (by rw [List.length_map, rng_len]; omega)]
section
variable {n : Int} {es : Tr.Roads} {st : List Int}
theorem homes_eq (h : st.length = n.toNat) : homes st = (rng n).filter fun x => decide (stAt st x = x) := by
  have e := st_map h
  unfold homes
  conv => lhs; rw [e]
  rw [enu_map, List.filter_map, List.map_map]
  have : (Prod.fst ∘ fun i => (i, stAt st i)) = (id : Int → Int) := rfl
  rw [this, List.map_id]
  refine List.filter_congr fun x hx => ?_
  show decide (x = stAt st x) = decide (stAt st x = x)
  exact decide_eq_decide.mpr ⟨fun z => z.symm, fun z => z.symm⟩
theorem homes_no (h : st.length = n.toNat) (hn : homes st = []) (x : Int) (hx : hs n x) : stAt st x ≠ x := fun z => by
  rw [homes_eq h] at hn
  have : x ∈ (rng n).filter fun x => decide (stAt st x = x) := List.mem_filter.mpr ⟨mem_rng.mpr hx, decide_eq_true z⟩
  rw [hn] at this
  cases this
theorem changed_ne (T : IsTree n es) (A : Tale n es st) (hn : homes st = []) : (es.filter fun e => decide (stAt st e.1 = e.2) && decide (stAt st e.2 = e.1)) ≠ [] := by
  obtain ⟨x, y, a, h1, h2⟩ := two_changed T A (homes_no A.len hn)
  rcases a with a | a
  · exact List.ne_nil_of_mem (List.mem_filter.mpr ⟨a, by simp [h1, h2]⟩)
  · exact List.ne_nil_of_mem (List.mem_filter.mpr ⟨a, by simp [h1, h2]⟩)
/-- the law's own pairs: those of the program -/
theorem changed_law {C : Addr} (T : IsTree n es) (A : Tale n es st) (hn : homes st = []) {l : List (Int × Int)} (hl : ∀ e, e ∈ l ↔ ∃ e0 ∈ es, e = normR e0 ∧ stAt st e0.1 = e0.2 ∧ stAt st e0.2 = e0.1) :
    l ≠ [] ∧ changed ⟨C, n, held es⟩ st = some (l.headD (0, 0)) := by
  have Th := tree_held T
  have Ah := tale_held A
  obtain ⟨x, y, a, h1, h2⟩ := two_changed T A (homes_no A.len hn)
  have hne : l ≠ [] := by
    rcases a with a | a
    · exact List.ne_nil_of_mem ((hl _).mpr ⟨_, a, rfl, h1, h2⟩)
    · exact List.ne_nil_of_mem ((hl _).mpr ⟨_, a, rfl, h2, h1⟩)
  refine ⟨hne, ?_⟩
  unfold changed
  rw [if_pos hn]
  congr 1
  have q1 := hd_mem (d := ((0, 0) : Int × Int)) (changed_ne Th Ah hn)
  have q2 := hd_mem (d := ((0, 0) : Int × Int)) hne
  show ((held es).filter fun e => decide (stAt st e.1 = e.2) && decide (stAt st e.2 = e.1)).headD (0, 0) = _
  generalize ((held es).filter fun e => decide (stAt st e.1 = e.2) && decide (stAt st e.2 = e.1)).headD (0, 0) = e1 at q1
  generalize l.headD (0, 0) = e2 at q2
  obtain ⟨m1, m2⟩ := List.mem_filter.mp q1
  simp only [Bool.and_eq_true, decide_eq_true_eq] at m2
  obtain ⟨e0, he0, r0, r1, r2⟩ := (hl e2).mp q2
  obtain ⟨e3, he3, r3⟩ := List.mem_map.mp (mem_sortP.mp m1)
  -- e1 = normR e3
  have ne3 := Tr.adj_ne T (a := e3.1) (b := e3.2) (.inl he3)
  have ne0 := Tr.adj_ne T (a := e0.1) (b := e0.2) (.inl he0)
  have b1 : stAt st e3.1 = e3.2 ∧ stAt st e3.2 = e3.1 := by
    unfold normR at r3
    rcases Int.le_total e3.1 e3.2 with z | z
    · rw [Int.min_eq_left z, Int.max_eq_right z] at r3
      rw [← r3] at m2
      exact m2
    · rw [Int.min_eq_right z, Int.max_eq_left z] at r3
      rw [← r3] at m2
      exact ⟨m2.2, m2.1⟩
  rw [← r3, r0]
  rcases changed_uniq T A (x := e0.1) (y := e0.2) (u := e3.1) (v := e3.2) (.inl he0) (.inl he3) r1 r2 b1.1 b1.2 with ⟨w1, w2⟩ | ⟨w1, w2⟩
  · unfold normR
    rw [w1, w2]
  · unfold normR
    rw [w1, w2, Int.min_comm, Int.max_comm]
end
end L3

namespace L3
open PySem L2
open Rep (R)
/-! ### min, max of a pair -/
section
variable {X : Cx}
def rMinT (K : PySem.W.Frag) : List V → Hp → VK → Prop := fun xs H Q => ∃ a i j, xs = [.ref a] ∧ SqT K H a [.int i, .int j] ∧ Q (.int (min i j)) H
def rMaxT (K : PySem.W.Frag) : List V → Hp → VK → Prop := fun xs H Q => ∃ a i j, xs = [.ref a] ∧ SqT K H a [.int i, .int j] ∧ Q (.int (max i j)) H
theorem alike2 (i j : Int) : PySem.W.AlikeAll [.int i, .int j] := by
  refine ⟨fun x hx y hy => ?_, fun x hx => ?_⟩
  · simp only [List.mem_cons, List.not_mem_nil, or_false] at hx hy
    rcases hx with rfl | rfl <;> rcases hy with rfl | rfl <;> simp [PySem.W.alike]
  · simp only [List.mem_cons, List.not_mem_nil, or_false] at hx
    rcases hx with rfl | rfl <;> simp
theorem cr_minT {k : Nat} (hc : X.calm = true) (hr : Room k X.A) : CallR X (.builtin "min") (rMinT X.K) := by
  intro pins s σ H vs us Q I r h
  obtain ⟨a, i, j, rfl, hs, q⟩ := h
  obtain ⟨its, rv, ht, _⟩ := I.tuple hs
  rw [Vals.ref1 r]
  obtain ⟨u1, u2, rfl, r1, r2⟩ := vals2 rv
  obtain ⟨t1, rfl⟩ := r1
  obtain ⟨t2, rfl⟩ := r2
  refine PySem.W.min_tuple_data (x := .int i) (xs := [.int j]) (I.ok.hd hc) (by obtain ⟨o, e1, e2, e3⟩ := ht; exact ⟨o, e1, e2, e3⟩) (.cons (.int i t1) (.cons (.int j t2) .nil)) (alike2 i j) (by
    have := hr.un
    simp only [PyData.depthAll, PyData.depth]
    omega) fun n v h' tk bs hv hR hk => ?_
  have e := PySem.W.minD_ints i [j]
  rw [show [PyData.int j] = [j].map PyData.int from rfl, e] at hR
  cases hR with
  | int _ t => exact ⟨.int _, H, I.kept hk, ⟨_, rfl⟩, q⟩
theorem cr_maxT {k : Nat} (hc : X.calm = true) (hr : Room k X.A) : CallR X (.builtin "max") (rMaxT X.K) := by
  intro pins s σ H vs us Q I r h
  obtain ⟨a, i, j, rfl, hs, q⟩ := h
  obtain ⟨its, rv, ht, _⟩ := I.tuple hs
  rw [Vals.ref1 r]
  obtain ⟨u1, u2, rfl, r1, r2⟩ := vals2 rv
  obtain ⟨t1, rfl⟩ := r1
  obtain ⟨t2, rfl⟩ := r2
  refine PySem.W.max_tuple_data (x := .int i) (xs := [.int j]) (I.ok.hd hc) (by obtain ⟨o, e1, e2, e3⟩ := ht; exact ⟨o, e1, e2, e3⟩) (.cons (.int i t1) (.cons (.int j t2) .nil)) (alike2 i j) (by
    have := hr.un
    simp only [PyData.depthAll, PyData.depth]
    omega) fun n v h' tk bs hv hR hk => ?_
  have e := PySem.W.maxD_ints i [j]
  rw [show [PyData.int j] = [j].map PyData.int from rfl, e] at hR
  cases hR with
  | int _ t => exact ⟨.int _, H, I.kept hk, ⟨_, rfl⟩, q⟩
def rMinA (K : PySem.W.Frag) : List V → Hp → VK → Prop := fun xs H Q => rMin K xs H Q ∨ rMinT K xs H Q
def rMaxA (K : PySem.W.Frag) : List V → Hp → VK → Prop := fun xs H Q => rMax K xs H Q ∨ rMaxT K xs H Q
theorem k_minA {K : PySem.W.Frag} {k : Nat} (hK : X.K = K) (hc : X.calm = true) (hr : Room k X.A) : CallR X (.builtin "min") (rMinA K) := hK ▸ CallR.or (cr_min hc) (cr_minT hc hr)
theorem k_maxA {K : PySem.W.Frag} {k : Nat} (hK : X.K = K) (hc : X.calm = true) (hr : Room k X.A) : CallR X (.builtin "max") (rMaxA K) := hK ▸ CallR.or (cr_max hc) (cr_maxT hc hr)
end
section
variable {K : PySem.W.Frag} {F G H : Hp} {σ : L2.St} {ta : TE}
theorem ev_minP {x : Int × Int} (ha : EvX K F G σ ta x) : EvX K F G σ (tCB (rMinA K) (tCons ta tNil)) (min x.1 x.2) :=
  ev_cb1 ha fun F1 u _ h1 H1 e1 _ Q k => by
    obtain ⟨a, u, w, rfl, h2, h3, h4⟩ := h1
    cases h3; cases h4
    exact .inr ⟨a, _, _, rfl, SqT.of (e1 _ _ h2), k _ F1 H1 (Stp.refl e1) rfl⟩
theorem ev_maxP {x : Int × Int} (ha : EvX K F G σ ta x) : EvX K F G σ (tCB (rMaxA K) (tCons ta tNil)) (max x.1 x.2) :=
  ev_cb1 ha fun F1 u _ h1 H1 e1 _ Q k => by
    obtain ⟨a, u, w, rfl, h2, h3, h4⟩ := h1
    cases h3; cases h4
    exact .inr ⟨a, _, _, rfl, SqT.of (e1 _ _ h2), k _ F1 H1 (Stp.refl e1) rfl⟩
end
end L3
namespace L3
open PySem L2
open Evl (Ex ex_l ex_t fresh_back sz_of sz_lt ixN_nat)
open Rep (R)
open RepD (toD)
section
variable {K : PySem.W.Frag} {F G H : Hp} {σ : L2.St} {ta tb tc : TE} {E : XK}
variable {α β γ δ : Type} [Rep α] [Rep β] [Rep γ] [Rep δ] {x : α} {y : β} {z : γ}
/-- two arguments by name, the last ahead -/
theorem en_callLK2 {pre : α → β → Prop} {f : α → β → List δ} (ha : EvX K F G σ ta x) (hb : EvX K F G σ tb y) (hp : pre x y) : EvN K F G σ (tCallKw (PuL2 K pre f) 2 List.reverse E (tCons tb (tCons ta tNil))) (f x y) := fun H e g Q k =>
  hb H e g _ fun w F1 H1 s1 r1 => (ha.up s1.ff) H1 s1.fh (g.trans s1.hh) _ fun v F2 H2 s2 r2 =>
    ⟨rfl, F2, x, y, v, w, rfl, s2.fh, r2, Rep.mono s2.ff r1, hp, fun p us F3 H3 s3 n0 n1 h2 r3 => k p us F3 H3 ((s1.trans s2).trans s3) (Ex.dom (s1.hh.trans s2.hh) n0) n1 h2 r3⟩
theorem ev_callK2 {pre : α → β → Prop} {f : α → β → δ} (ha : EvX K F G σ ta x) (hb : EvX K F G σ tb y) (hp : pre x y) : EvX K F G σ (tCallKw (Pu2 K pre f) 2 List.reverse E (tCons tb (tCons ta tNil))) (f x y) := fun H e g Q k =>
  hb H e g _ fun w F1 H1 s1 r1 => (ha.up s1.ff) H1 s1.fh (g.trans s1.hh) _ fun v F2 H2 s2 r2 =>
    ⟨rfl, F2, x, y, v, w, rfl, s2.fh, r2, Rep.mono s2.ff r1, hp, fun u F3 H3 s3 r3 => k u F3 H3 ((s1.trans s2).trans s3) r3⟩
end
theorem same_hd (xs : List Int) (o : Option (Int × Int)) (h : xs.length ≤ 1000) : (PyData.list [toD xs, toD o]) = PyData.list [toD xs, toD o] ∧ (PyData.list [toD xs, toD o]).depth < 4 ∧ noD (PyData.list [toD xs, toD o]) = true ∧ dsz (PyData.list [toD xs, toD o]) ≤ 100000 ∧ (PyData.list [toD xs, toD o]).canLay0 = true := by
  have h1 : (toD xs).depth ≤ 1 := RepD.dep_le xs
  have h2 := ints_noD xs
  have h3 := ints_dsz xs
  have h4 : (toD xs).canLay0 = true := Lay.lay xs
  have o1 : (toD o).depth ≤ 1 := RepD.dep_le o
  have o2 : noD (toD o) = true ∧ dsz (toD o) ≤ 100 := by
    cases o with
    | none => exact ⟨rfl, by decide⟩
    | some p => exact ⟨rfl, by show dsz (PyData.tuple [.int p.1, .int p.2]) ≤ 100; simp [dsz, dszAll]⟩
  have o4 : (toD o).canLay0 = true := Lay.lay o
  refine ⟨rfl, ?_, ?_, ?_, ?_⟩
  · simp only [PyData.depth, PyData.depthAll]; omega
  · simp [noD, noDAll, h2, o2.1]
  · simp only [dsz, dszAll]; omega
  · simp [PyData.canLay0, PyData.canLayAll0, h4, o4]
end L3

namespace L3
open Tr (hs)
theorem pw_per {g : Int → Int} {p : Nat} {u : Int} (h : pw g p u = u) : ∀ m, pw g (p * m) u = u
  | 0 => rfl
  | m + 1 => by rw [Nat.mul_succ, ← pw_add, pw_per h m, h]
theorem pw_rep {g : Int → Int} {x : Int} {i j k : Nat} (hij : i < j) (hjk : j ≤ k) (h : pw g i x = pw g j x) : pw g (j - i) (pw g k x) = pw g k x := by
  have e : k = i + (k - i) := by omega
  have e2 : k - i + (j - i) = (j - i) + (k - i) := by omega
  rw [e, ← pw_add g i (k - i), pw_add g (k - i) (j - i), e2, ← pw_add g (j - i) (k - i), pw_add g i (j - i) x, show i + (j - i) = j by omega, ← h]
theorem meet_bound {n : Int} {g : Int → Int} (h : ∀ x, hs n x → hs n (g x)) {x z : Int} (hx : hs n x) (hz : hs n z) {K : Nat} (hK : pw g K x = pw g K z) (hmin : ∀ j, j < K → pw g j x ≠ pw g j z) : K ≤ n.toNat := by
  cases K with
  | zero => exact Nat.zero_le _
  | succ k =>
    have dist : ∀ y, hs n y → (∀ i j, i < j → j ≤ k → pw g i y ≠ pw g j y) → k + 1 ≤ n.toNat := by
      intro y hy hd
      have := nodup_le ((List.range (k + 1)).map fun i => pw g i y) (rng n) (List.pairwise_map.mpr (List.Pairwise.imp_of_mem (fun {a b} _ hb hab => hd a b hab (by have := List.mem_range.mp hb; omega)) List.pairwise_lt_range)) fun v hv => by
        obtain ⟨i, _, rfl⟩ := List.mem_map.mp hv
        exact mem_rng.mpr (pw_hs h i y hy)
      rw [List.length_map, List.length_range, rng_len] at this
      exact this
    apply Classical.byContradiction
    intro hno
    have rep : ∀ y, hs n y → ∃ p, 0 < p ∧ pw g p (pw g k y) = pw g k y := by
      intro y hy
      apply Classical.byContradiction
      intro q
      exact hno (dist y hy fun i j hij hj e => q ⟨j - i, by omega, pw_rep hij hj e⟩)
    obtain ⟨p, p0, hp⟩ := rep x hx
    obtain ⟨r, r0, hr⟩ := rep z hz
    have a := pw_per hp r
    have b := pw_per hr p
    have hm : 0 < p * r := Nat.mul_pos p0 r0
    obtain ⟨m, hm2⟩ : ∃ m, p * r = m + 1 := ⟨p * r - 1, by omega⟩
    rw [Nat.mul_comm] at b
    rw [hm2] at a b
    apply hmin k (Nat.lt_succ_self k)
    rw [← a, ← b]
    show pw g m (g (pw g k x)) = pw g m (g (pw g k z))
    rw [← pw_succ g k x, ← pw_succ g k z, hK]
end L3
namespace L3
open PySem L2
open Evl (Ex ex_l ex_t fresh_back sz_of sz_lt ixN_nat)
open Rep (R)
open RepD (toD)
open Tr (adj hs IsTree TreeOn dist)
open Classical in
/-- behind how many times two live in one house -/
noncomputable def meets (g : Int → Int) (x z : Int) : Option Int := if h : ∃ k, pw g k x = pw g k z then some ((Tr.exists_least h).choose : Int) else none
theorem meets_at {g : Int → Int} {x z : Int} {k : Nat} (h : pw g k x = pw g k z) (hm : ∀ j, j < k → pw g j x ≠ pw g j z) : meets g x z = some (k : Int) := by
  have e : ∃ k, pw g k x = pw g k z := ⟨k, h⟩
  unfold meets
  rw [dif_pos e]
  obtain ⟨h1, h2⟩ := (Tr.exists_least e).choose_spec
  have a := h2 k h
  have b : ¬ (Tr.exists_least e).choose < k := fun q => hm _ q h1
  congr 1
  omega
theorem meets_no {g : Int → Int} {x z : Int} (h : ∀ k, pw g k x ≠ pw g k z) : meets g x z = none := by
  unfold meets
  rw [dif_neg (fun ⟨k, e⟩ => h k e)]
def sp_meet (K : PySem.W.Frag) (C : Addr) : Sp := fun vs H Q _ => ∃ (F : Hp) (v : Vil) (st : List Int) (x z : Int) (vv vs' : V), vs = [vv, vs', .int x, .int z] ∧ Ex F H ∧ R K F vv v ∧ R K F vs' st ∧ v.C = C ∧ Tale v.n v.es st ∧ hs v.n x ∧ hs v.n z ∧
  ∀ u F' H', Stp F H F' H' → R K F' u (meets (stAt st) x z) → Q u H'
end L3

namespace L3
open PySem L2
open Evl (Ex ex_l ex_t fresh_back sz_of sz_lt ixN_nat)
open Rep (R)
open RepD (toD)
open Tr (adj hs IsTree TreeOn dist)
/-- a comprehension within another one's item -/
theorem lookup_cf {c : Str → NameKind → Bool} {x : Str} : ∀ {names : List (Str × NameKind)}, (match names.lookup x with | some .cell => true | some .free => true | _ => false) = true →
    (match (names.map fun (n, k) => if c n k = true then (n, NameKind.cell) else (n, k)).lookup x with | some .cell => true | some .free => true | _ => false) = true
  | [], h => by simp at h
  | (n, k) :: r, h => by
    have ih := @lookup_cf c x r
    rw [List.map_cons]
    show (match List.lookup x ((if c n k = true then (n, NameKind.cell) else (n, k)) :: _) with | some .cell => true | some .free => true | _ => false) = true
    cases hx : x == n with
    | true =>
      simp only [List.lookup, hx] at h
      cases hc : c n k with
      | true => simp [List.lookup, hx]
      | false => simpa [List.lookup, hx] using h
    | false =>
      simp only [List.lookup, hx] at h
      cases hc : c n k with
      | true => simpa [List.lookup, hx] using ih h
      | false => simpa [List.lookup, hx] using ih h
theorem k_blkN {Y : Cx} {s : Shared} {H : Hp} {sc0 scope : Scope} {cl : List (Str × Addr)} {C : Addr} {env : Env} {fp : List Addr} {N : List Str} {own : List (Str × Nat)} (hN : (Y.blk s H sc0 (compEnvC sc0 cl C env) fp).N = N) (h : blkC N sc0 scope own = true) :
    BlkOk (Y.blk s H sc0 (compEnvC sc0 cl C env) fp).N (Y.blk s H sc0 (compEnvC sc0 cl C env) fp).env.scope scope own := by
  subst hN
  refine blkOk_by ?_
  unfold blkC at h ⊢
  simp only [Bool.and_eq_true, List.all_eq_true] at h ⊢
  obtain ⟨h1, h2⟩ := h
  refine ⟨h1, fun y hy => ?_⟩
  have q := h2 y hy
  split at q
  · exact lookup_cf (c := fun n k => k == NameKind.free && env.scope.kind == .function && env.kindOf n == some .cell) q
  · exact q
  · exact q
  · rfl
theorem of_dec {p : Prop} {i : Decidable p} (h : @decide p i = true) : p := @of_decide_eq_true p i h
theorem of_decN {p : Prop} {i : Decidable p} (h : @decide p i = false) : ¬ p := @of_decide_eq_false p i h
theorem meets_rep {g : Int → Int} {x z : Int} {i j : Nat} (hij : j < i) (hx : pw g j x = pw g i x) (hz : pw g j z = pw g i z) (hno : ∀ k, k < i → pw g k x ≠ pw g k z) : ∀ k, pw g k x ≠ pw g k z := by
  intro k hk
  obtain ⟨m, hm, hl⟩ := Tr.exists_least (p := fun j => pw g j x = pw g j z) ⟨k, hk⟩
  have him : i ≤ m := by
    by_cases q : i ≤ m
    · exact q
    · exact absurd hm (hno m (by omega))
  have e : ∀ y, pw g j y = pw g i y → pw g (j + (m - i)) y = pw g m y := fun y hy => by
    rw [← pw_add, hy, pw_add]
    congr 1
    omega
  have := hl (j + (m - i)) (by rw [e x hx, e z hz]; exact hm)
  omega
theorem meets_symm (g : Int → Int) (x z : Int) : meets g z x = meets g x z := by
  by_cases h : ∃ k, pw g k x = pw g k z
  · obtain ⟨k, hk, hl⟩ := Tr.exists_least h
    have hn : ∀ j, j < k → pw g j x ≠ pw g j z := fun j hj e => by have := hl j e; omega
    rw [meets_at hk hn, meets_at hk.symm fun j hj e => hn j hj e.symm]
  · rw [meets_no fun k e => h ⟨k, e⟩, meets_no fun k e => h ⟨k, e.symm⟩]
theorem meets_self (g : Int → Int) (x : Int) : meets g x x = some 0 := meets_at (k := 0) rfl fun j hj => absurd hj (Nat.not_lt_zero _)
def sp_due (K : PySem.W.Frag) : Sp := fun vs H Q _ => ∃ (F : Hp) (n : Int) (es : Tr.Roads) (st : List Int) (x z : Int) (vs' : V), vs = [vs', .int x, .int z] ∧ Ex F H ∧ R K F vs' st ∧ Tale n es st ∧ 0 < n ∧ n ≤ 60 ∧ hs n x ∧ hs n z ∧
  ∀ u F' H', Stp F H F' H' → R K F' u (meets (stAt st) x z) → Q u H'
section
variable {K : PySem.W.Frag} {F G H : Hp} {σ : L2.St} {ta tb tc td : TE} {E : XK} {C : Addr} {v : Vil} {st : List Int} {x z : Int}
theorem ev_meet (ha : EvX K F G σ ta v) (hb : EvX K F G σ tb st) (hc : EvX K F G σ tc x) (hd : EvX K F G σ td z) (hC : v.C = C) (hst : Tale v.n v.es st) (hx : hs v.n x) (hz : hs v.n z) :
    EvX K F G σ (tCall (sp_meet K C) [] E (tCons ta (tCons tb (tCons tc (tCons td tNil))))) (meets (stAt st) x z) := fun H e g Q k =>
  ha H e g _ fun u1 F1 H1 s1 r1 => (hb.up s1.ff) H1 s1.fh (g.trans s1.hh) _ fun u2 F2 H2 s2 r2 =>
    (hc.up (s1.ff.trans s2.ff)) H2 s2.fh ((g.trans s1.hh).trans s2.hh) _ fun u3 F3 H3 s3 r3 =>
    (hd.up ((s1.ff.trans s2.ff).trans s3.ff)) H3 s3.fh (((g.trans s1.hh).trans s2.hh).trans s3.hh) _ fun u4 F4 H4 s4 r4 => by
      cases r3; cases r4
      exact ⟨F4, v, st, x, z, u1, u2, rfl, s4.fh, Rep.mono (s2.ff.trans (s3.ff.trans s4.ff)) r1, Rep.mono (s3.ff.trans s4.ff) r2, hC, hst, hx, hz, fun u F5 H5 s5 r5 => k u F5 H5 ((((s1.trans s2).trans s3).trans s4).trans s5) r5⟩
theorem ev_meetK (ha : EvX K F G σ ta v) (hb : EvX K F G σ tb st) (hc : EvX K F G σ tc x) (hd : EvX K F G σ td z) (hC : v.C = C) (hst : Tale v.n v.es st) (hx : hs v.n x) (hz : hs v.n z) :
    EvX K F G σ (tCallKw (sp_meet K C) 4 List.reverse E (tCons td (tCons tc (tCons tb (tCons ta tNil))))) (meets (stAt st) x z) := fun H e g Q k =>
  hd H e g _ fun u1 F1 H1 s1 r1 => (hc.up s1.ff) H1 s1.fh (g.trans s1.hh) _ fun u2 F2 H2 s2 r2 =>
    (hb.up (s1.ff.trans s2.ff)) H2 s2.fh ((g.trans s1.hh).trans s2.hh) _ fun u3 F3 H3 s3 r3 =>
    (ha.up ((s1.ff.trans s2.ff).trans s3.ff)) H3 s3.fh (((g.trans s1.hh).trans s2.hh).trans s3.hh) _ fun u4 F4 H4 s4 r4 => by
      cases r1; cases r2
      exact ⟨rfl, F4, v, st, x, z, u4, u3, rfl, s4.fh, r4, Rep.mono s4.ff r3, hC, hst, hx, hz, fun u F5 H5 s5 r5 => k u F5 H5 ((((s1.trans s2).trans s3).trans s4).trans s5) r5⟩
theorem ev_due {n : Int} {es : Tr.Roads} (hb : EvX K F G σ tb st) (hc : EvX K F G σ tc x) (hd : EvX K F G σ td z) (hst : Tale n es st) (h0 : 0 < n) (h6 : n ≤ 60) (hx : hs n x) (hz : hs n z) :
    EvX K F G σ (tCall (sp_due K) [] E (tCons tb (tCons tc (tCons td tNil)))) (meets (stAt st) x z) := fun H e g Q k =>
  hb H e g _ fun u2 F2 H2 s2 r2 =>
    (hc.up s2.ff) H2 s2.fh (g.trans s2.hh) _ fun u3 F3 H3 s3 r3 =>
    (hd.up (s2.ff.trans s3.ff)) H3 s3.fh ((g.trans s2.hh).trans s3.hh) _ fun u4 F4 H4 s4 r4 => by
      cases r3; cases r4
      exact ⟨F4, n, es, st, x, z, u2, rfl, s4.fh, Rep.mono (s3.ff.trans s4.ff) r2, hst, h0, h6, hx, hz, fun u F5 H5 s5 r5 => k u F5 H5 (((s2.trans s3).trans s4).trans s5) r5⟩
end
theorem u_par {D : Ends} {tz : TS} {ta : TA} {σ : L2.St} {H : Hp} {i j : Nat} (h : ta σ H fun vs H1 => ∃ v w, vs = [v, w] ∧ tz D ((σ.set i (some v)).set j (some w)) H1) : tSeq (tPar i j ta) tz D σ H := h
theorem same_opts (o : Option Int) : toD [o, o, o] = toD [o, o, o] ∧ (toD [o, o, o]).depth < 4 ∧ noD (toD [o, o, o]) = true ∧ dsz (toD [o, o, o]) ≤ 100000 ∧ (toD [o, o, o]).canLay0 = true := by
  refine ⟨rfl, ?_, ?_, ?_, Lay.lay _⟩
  · cases o <;> (show PyData.depth (PyData.list _) < _) <;> simp [PyData.depth, PyData.depthAll, RepD.toD]
  · cases o <;> rfl
  · cases o <;> (show dsz (PyData.list _) ≤ _) <;> simp [dsz, dszAll, RepD.toD]
end L3

namespace L3
open PySem L2
open Evl (Ex ex_l ex_t fresh_back sz_of sz_lt ixN_nat)
open Rep (R)
open RepD (toD)
open Tr (adj hs IsTree TreeOn dist)
theorem meets_none {g : Int → Int} {x z : Int} (h : meets g x z = none) (k : Nat) : pw g k x ≠ pw g k z := fun e => by
  have q : ∃ k, pw g k x = pw g k z := ⟨k, e⟩
  unfold meets at h
  rw [dif_pos q] at h
  cases h
theorem meets_some {g : Int → Int} {x z i : Int} (h : meets g x z = some i) : ∃ m : Nat, i = (m : Int) ∧ pw g m x = pw g m z ∧ ∀ j, j < m → pw g j x ≠ pw g j z := by
  by_cases q : ∃ k, pw g k x = pw g k z
  · obtain ⟨m, hm, hl⟩ := Tr.exists_least q
    have hn : ∀ j, j < m → pw g j x ≠ pw g j z := fun j hj e => by have := hl j e; omega
    rw [meets_at hm hn] at h
    exact ⟨m, (Option.some.inj h).symm, hm, hn⟩
  · rw [meets_no fun k e => q ⟨k, e⟩] at h
    cases h
theorem pw_eq_on {g : Int → Int} {x z : Int} {m : Nat} (h : pw g m x = pw g m z) (r : Nat) : pw g (m + r) x = pw g (m + r) z := by
  rw [← pw_add, h, pw_add]
theorem gone_at {n : Int} {st : List Int} {k : Nat} {x : Int} (h : hs n x) : atI (gone n st k) x = some (pw (stAt st) k x) := by
  unfold gone
  have h1 := rng_get (n := n) (i := x.toNat) (by have := h.1; have := h.2; omega)
  have h2 : ((rng n).map (pw (stAt st) k))[x.toNat]? = some (pw (stAt st) k x) := by
    rw [List.getElem?_map, h1, Int.toNat_of_nonneg h.1]; rfl
  have h3 := atI_nat h2
  rwa [Int.toNat_of_nonneg h.1] at h3
theorem gone_len {n : Int} {st : List Int} {k : Nat} : (gone n st k).length = n.toNat := by
  unfold gone
  rw [List.length_map, rng_len]
theorem stAt_gone {n : Int} {st : List Int} {k : Nat} {x : Int} (h : hs n x) : stAt (gone n st k) x = pw (stAt st) k x := stAt_map h
section
variable {n : Int} {es : Tr.Roads} {st : List Int} (T : IsTree n es) (A : Tale n es st)
include T A in
theorem pw_short {x y : Int} (hx : hs n x) (hy : hs n y) : ∀ k, dist es (pw (stAt st) k x) (pw (stAt st) k y) ≤ dist es x y
  | 0 => Int.le_refl _
  | k + 1 => by
    rw [pw_succ, pw_succ]
    exact Int.le_trans (tale_short T A (pw_hs (fun x hx => A.hs hx) k x hx) (pw_hs (fun x hx => A.hs hx) k y hy)) (pw_short hx hy k)
include T A in
theorem pw_nearer {x y : Int} (hx : hs n x) (hy : hs n y) {a b : Nat} (h : a ≤ b) : dist es (pw (stAt st) b x) (pw (stAt st) b y) ≤ dist es (pw (stAt st) a x) (pw (stAt st) a y) := by
  have := pw_short T A (pw_hs (fun x hx => A.hs hx) a x hx) (pw_hs (fun x hx => A.hs hx) a y hy) (b - a)
  rw [pw_add, pw_add, show a + (b - a) = b by omega] at this
  exact this
include T A in
theorem gone_tale (k : Nat) : Tale n es (gone n st k) := tale_map T (fun x hx => pw_hs (fun x hx => A.hs hx) k x hx) fun x y a => by
  obtain ⟨hx, hy⟩ := Tr.adj_hs T a
  have := pw_short T A hx hy k
  have e := (Tr.dist_one T hx hy).mpr a
  omega
end
/-- behind as many times as there are houses one goes round -/
theorem pw_round {n : Int} {g : Int → Int} (h : ∀ x, hs n x → hs n (g x)) {x : Int} (hx : hs n x) {k : Nat} (hk : n.toNat ≤ k) : ∃ p, 0 < p ∧ pw g p (pw g k x) = pw g k x := by
  apply Classical.byContradiction
  intro q
  have hd : ∀ i j, i < j → j ≤ k → pw g i x ≠ pw g j x := fun i j hij hj e => q ⟨j - i, by omega, pw_rep hij hj e⟩
  have := nodup_le ((List.range (k + 1)).map fun i => pw g i x) (rng n) (List.pairwise_map.mpr (List.Pairwise.imp_of_mem (fun {a b} _ hb hab => hd a b hab (by have := List.mem_range.mp hb; omega)) List.pairwise_lt_range)) fun v hv => by
    obtain ⟨i, _, rfl⟩ := List.mem_map.mp hv
    exact mem_rng.mpr (pw_hs h i x hx)
  rw [List.length_map, List.length_range, rng_len] at this
  omega
theorem settled {n : Int} {es : Tr.Roads} {st : List Int} (T : IsTree n es) (A : Tale n es st) {x y : Int} (hx : hs n x) (hy : hs n y) (r : Nat) :
    dist es (pw (stAt st) (n.toNat + r) x) (pw (stAt st) (n.toNat + r) y) = dist es (pw (stAt st) n.toNat x) (pw (stAt st) n.toNat y) := by
  have hg : ∀ x, hs n x → hs n (stAt st x) := fun x hx => A.hs hx
  obtain ⟨p, p0, hp⟩ := pw_round hg hx (Nat.le_refl _)
  obtain ⟨q, q0, hq⟩ := pw_round hg hy (Nat.le_refl _)
  have a := pw_per hp (q * r)
  have b := pw_per hq (p * r)
  have e : q * (p * r) = p * (q * r) := Nat.mul_left_comm q p r
  rw [e] at b
  have hle : n.toNat + r ≤ n.toNat + p * (q * r) := by
    have h1 : r ≤ q * r := Nat.le_mul_of_pos_left r q0
    have h2 : q * r ≤ p * (q * r) := Nat.le_mul_of_pos_left (q * r) p0
    omega
  have h1 := pw_nearer T A hx hy hle
  have h2 := pw_nearer T A hx hy (a := n.toNat) (b := n.toNat + r) (by omega)
  rw [← pw_add, ← pw_add, a, b] at h1
  exact Int.le_antisymm h2 h1
section
variable {K : PySem.W.Frag} {S : Src} {n m l : Int} {F F' G H H' : Hp} {σ : L2.St} {ta tb tc te tl : TE} {tt : TT} {E : XK} {tr : TA} {D : Ends} {tz tu tw : TS}
variable {α β γ δ : Type} [Rep α] [Rep β] [Rep γ] [Rep δ] {x : α} {y : β} {z : γ}
/-- two known arguments, the third one drawn -/
theorem em_callL3 {pre : α → β → γ → Prop} {f : α → β → γ → List δ} {P : γ → Prop} (ha : EvX K F F σ ta x) (hb : EvX K F F σ tb y) (hc : EvM K S n m F σ tc P) (hp : ∀ z, P z → pre x y z) :
    EvM K S n m F σ (tCall (PuL3 K pre f) [] E (tCons ta (tCons tb (tCons tc tNil)))) (fun xs => ∃ z, P z ∧ xs = f x y z) := fun F0 H e1 e2 i Q k =>
  (ha.up e1) H e2 (e1.trans e2) _ fun v F1 H1 s1 r1 => (hb.up (e1.trans s1.ff)) H1 s1.fh ((e1.trans e2).trans s1.hh) _ fun w F2 H2 s2 r2 =>
    hc F2 H2 (e1.trans (s1.ff.trans s2.ff)) s2.fh (S.stp (S.stp i s1) s2) _ fun t z F3 H3 s3 i3 p3 r3 =>
      ⟨F3, x, y, z, v, w, t, rfl, s3.fh, Rep.mono (s2.ff.trans s3.ff) r1, Rep.mono s3.ff r2, r3, hp z p3, fun p us F4 H4 s4 n0 n1 h2 r4 => by
        have nM : ¬ S.M p := fun q => (S.no i3 q).1 n0
        have s5 := s4.frz n0 n1 h2
        refine k _ _ _ H4 (((s1.m.trans s2.m).trans s3).trans s5.m) (S.stp i3 s5) ⟨z, p3, rfl⟩ ⟨p, us, rfl, upd_same, r4.imp fun _ _ => Rep.mono (Ex.new n1)⟩⟩
theorem it_tupL {xs : List α} (h : EvL K F G σ tr xs) (hl : xs.length ≤ 1000) : IT K F G σ (iTup K (tTup tr)) xs := fun H e g Rr k =>
  h H e g _ fun vs F1 H1 s1 r1 => ⟨by rw [r1.len]; exact sz_of (by omega), fun p hp => by
    have hq : upd F1 p (.tup vs) p = some (.tup vs) := upd_same
    have s2 := s1.new (o := .tup vs) hp
    refine ⟨p, rfl, ⟨vs, SqT.of upd_same⟩, k _ _ _ s2 ⟨fun H => SqT K H p vs, YAt vs, by rw [← r1.len]; exact walk_tup, fun H2 e2 => SqT.of (e2 _ _ hq), fun i H2 v H3 e2 _ y => ?_⟩⟩
    obtain ⟨rfl, hv⟩ := y
    obtain ⟨x, hx, r⟩ := r1.getl hv
    exact ⟨x, hx, _, Stp.refl e2, Rep.mono (Ex.new (fresh_back s1.fh hp)) r⟩⟩
/-- if not .. where that is a truth drawn -/
theorem y_ifNM (h : EvM K S n m F σ te (fun b : Bool => b = true)) (e : Ex F H) (i : S.I n F H) (k : ∀ F' H', StpM S.M F H F' H' → S.I m F' H' → tw D σ H') : tIfS (tNot (tB te)) tu tw D σ H :=
  h.go e i fun v b F' H' s i' p r => ⟨true, by rw [← p]; exact r, k F' H' s i'⟩
end
def sp_pair (K : PySem.W.Frag) (C : Addr) : Sp := fun vs H Q _ => ∃ (F : Hp) (p : Addr) (m : Int) (v : Vil) (st : List Int) (x z : Int) (vv vs' : V), vs = [.ref p, vv, vs', .int x, .int z] ∧ Ex F H ∧ Pot F H p m ∧ m ≤ 10 ^ 8 ∧ R K F vv v ∧ R K F vs' st ∧ v.C = C ∧ Tale v.n v.es st ∧ hs v.n x ∧ hs v.n z ∧
  ∀ F' H', StpM (potS p).M F H F' H' → Pot F' H' p (m + 2) → Q (.bl true) H'
section
variable {K : PySem.W.Frag} {F : Hp} {σ : L2.St} {ta tb tc td : TE}
theorem em_pair {p : Addr} {C : Addr} {v : Vil} {st : List Int} {vv vs' : V} {E E1 E2 : XK} {m : Int} (h0 : σ[0]? = some (some (.ref p))) (h3 : σ[3]? = some (some vv)) (h4 : σ[4]? = some (some vs')) (rv : R K F vv v) (rs : R K F vs' st) (hC : v.C = C) (hst : Tale v.n v.es st) (hp : 0 < v.n) (hn : v.n ≤ 60)
    (hl : EvX K F F σ ta v.n) (hm : m ≤ 5 * 10 ^ 7) : EvM K (potS p) m (m + 4) F σ (tCall (sp_pair K C) [] E (tCons (tVar 0) (tCons (tVar 3) (tCons (tVar 4) (tCons (tCall sp_pdraw [] E1 (tCons (tVar 0) (tCons ta tNil))) (tCons (tCall sp_pdraw [] E2 (tCons (tVar 0) (tCons ta tNil))) tNil)))))) (fun b : Bool => b = true) := fun F1 H e1 e2 i Q k => by
  have h60 : (1000 : Int) ≤ 10 ^ 60 := by decide
  have d1 : EvM K (potS p) m (m + 1) F σ (tCall sp_pdraw [] E1 (tCons (tVar 0) (tCons ta tNil))) _ := em_draw h0 draw_pot (em_pure hl) (by omega) (fun i h => by subst h; omega)
  have d2 : EvM K (potS p) (m + 1) (m + 1 + 1) F σ (tCall sp_pdraw [] E2 (tCons (tVar 0) (tCons ta tNil))) _ := em_draw h0 draw_pot (em_pure hl) (by omega) (fun i h => by subst h; omega)
  refine ⟨_, h0, _, h3, _, h4, d1 F1 H e1 e2 i _ fun w1 x F2 H2 s2 i2 p2 r2 => d2 F2 H2 (e1.trans s2.ff) s2.fh i2 _ fun w2 z F3 H3 s3 i3 p3 r3 => ?_⟩
  cases r2; cases r3
  obtain ⟨_, q1, a1, b1⟩ := p2
  obtain ⟨_, q2, a2, b2⟩ := p3
  subst q1; subst q2
  have e3 := e1.trans (s2.ff.trans s3.ff)
  exact ⟨F3, p, m + 1 + 1, v, st, x, z, vv, vs', rfl, s3.fh, i3, by omega, Rep.mono e3 rv, Rep.mono e3 rs, hC, hst, ⟨a1, b1⟩, ⟨a2, b2⟩, fun F4 H4 s4 i4 => k _ true F4 H4 ((s2.trans s3).trans s4) ((potS p).le i4 (by omega)) rfl rfl⟩
end
end L3

namespace L3
open PySem L2
open Evl (Ex ex_l ex_t fresh_back sz_of sz_lt ixN_nat)
open Rep (R)
open RepD (toD)
open Tr (adj hs IsTree TreeOn dist)
/-- one's way, house by house -/
def trail (g : Int → Int) (x : Int) (t : Nat) : List Int := (List.range t).map fun j => pw g j x
theorem trail_succ (g : Int → Int) (x : Int) (t : Nat) : trail g x (t + 1) = trail g x t ++ [pw g t x] := by
  unfold trail
  rw [List.range_succ, List.map_append]; rfl
theorem trail_len (g : Int → Int) (x : Int) (t : Nat) : (trail g x t).length = t := by
  unfold trail
  rw [List.length_map, List.length_range]
theorem trail_get {g : Int → Int} {x : Int} {t j : Nat} (h : j < t) : (trail g x t)[j]? = some (pw g j x) := by
  unfold trail
  simp [h]
theorem mem_trail {g : Int → Int} {x v : Int} {t : Nat} : v ∈ trail g x t ↔ ∃ j, j < t ∧ pw g j x = v := by
  unfold trail
  simp only [List.mem_map, List.mem_range]
theorem trail_small {n : Int} {g : Int → Int} (h : ∀ x, hs n x → hs n (g x)) {x : Int} (hx : hs n x) {t : Nat} (hd : ∀ i j, i < j → j < t → pw g i x ≠ pw g j x) : t ≤ n.toNat := by
  have := nodup_le (trail g x t) (rng n) (List.pairwise_map.mpr (List.Pairwise.imp_of_mem (fun {a b} _ hb hab => hd a b hab (List.mem_range.mp hb)) List.pairwise_lt_range)) fun v hv => by
    obtain ⟨i, _, rfl⟩ := mem_trail.mp hv
    exact mem_rng.mpr (pw_hs h i x hx)
  rw [trail_len, rng_len] at this
  exact this
theorem pw_laps {g : Int → Int} {x : Int} {j t many : Nat} (hjt : j < t) (h : pw g j x = pw g t x) (hm : t ≤ many) : pw g (j + (many - j) % (t - j)) x = pw g many x := by
  have hp : pw g (t - j) (pw g j x) = pw g j x := by
    rw [pw_add, show j + (t - j) = t by omega, ← h]
  have e := pw_per hp ((many - j) / (t - j))
  have hd := Nat.div_add_mod (many - j) (t - j)
  calc pw g (j + (many - j) % (t - j)) x = pw g ((many - j) % (t - j)) (pw g j x) := (pw_add _ _ _ _).symm
    _ = pw g ((many - j) % (t - j)) (pw g ((t - j) * ((many - j) / (t - j))) (pw g j x)) := by rw [e]
    _ = pw g many x := by
      rw [pw_add, pw_add]
      congr 1
      omega
def sp_there (K : PySem.W.Frag) : Sp := fun vs H Q _ => ∃ (F : Hp) (n : Int) (es : Tr.Roads) (st : List Int) (x many : Int) (vs' : V), vs = [vs', .int x, .int many] ∧ Ex F H ∧ R K F vs' st ∧ Tale n es st ∧ 0 < n ∧ n ≤ 60 ∧ hs n x ∧ 0 ≤ many ∧
  ∀ u F' H', Stp F H F' H' → R K F' u (pw (stAt st) many.toNat x) → Q u H'
section
variable {K : PySem.W.Frag} {F G H : Hp} {σ : L2.St} {ta tb tc td : TE} {E : XK} {st : List Int} {x z : Int}
theorem ev_there {n : Int} {es : Tr.Roads} (hb : EvX K F G σ tb st) (hc : EvX K F G σ tc x) (hd : EvX K F G σ td z) (hst : Tale n es st) (h0 : 0 < n) (h6 : n ≤ 60) (hx : hs n x) (hz : 0 ≤ z) :
    EvX K F G σ (tCall (sp_there K) [] E (tCons tb (tCons tc (tCons td tNil)))) (pw (stAt st) z.toNat x) := fun H e g Q k =>
  hb H e g _ fun u2 F2 H2 s2 r2 =>
    (hc.up s2.ff) H2 s2.fh (g.trans s2.hh) _ fun u3 F3 H3 s3 r3 =>
    (hd.up (s2.ff.trans s3.ff)) H3 s3.fh ((g.trans s2.hh).trans s3.hh) _ fun u4 F4 H4 s4 r4 => by
      cases r3; cases r4
      exact ⟨F4, n, es, st, x, z, u2, rfl, s4.fh, Rep.mono (s3.ff.trans s4.ff) r2, hst, h0, h6, hx, hz, fun u F5 H5 s5 r5 => k u F5 H5 (((s2.trans s3).trans s4).trans s5) r5⟩
theorem u_brk {D : Ends} (h : D.bk σ H) : tBreak D σ H := h
end
end L3

namespace L3
open PySem L2
open Evl (Ex ex_l ex_t fresh_back sz_of sz_lt ixN_nat)
open Rep (R)
open RepD (toD)
open Tr (adj hs IsTree TreeOn dist)
section
variable {n : Int} {es : Tr.Roads} {st la : List Int}
theorem comp_tale (T : IsTree n es) (A : Tale n es st) (B : Tale n es la) : Tale n es (st.map (stAt la)) := by
  rw [st_map A.len, List.map_map]
  refine tale_map T (fun x hx => B.hs (A.hs hx)) fun x y a => ?_
  obtain ⟨hx, hy⟩ := Tr.adj_hs T a
  exact Int.le_trans (tale_short T B (A.hs hx) (A.hs hy)) (A.edge x y a)
theorem id_tale (T : IsTree n es) : Tale n es (rng n) := by
  have := tale_map T (g := fun x => x) (fun x hx => hx) fun x y a => by
    obtain ⟨hx, hy⟩ := Tr.adj_hs T a
    rw [(Tr.dist_one T hx hy).mpr a]
    exact Int.le_refl _
  rwa [List.map_id'] at this
theorem pw_gone (hg : ∀ x, hs n x → hs n (stAt st x)) {x : Int} (hx : hs n x) (a : Nat) : ∀ b, pw (stAt (gone n st a)) b x = pw (stAt st) (a * b) x
  | 0 => rfl
  | b + 1 => by
    rw [pw_succ, pw_gone hg hx a b, stAt_gone (pw_hs hg _ x hx), pw_add, Nat.mul_succ]
theorem gone_gone (hg : ∀ x, hs n x → hs n (stAt st x)) (a b : Nat) : gone n (gone n st a) b = gone n st (a * b) :=
  List.map_congr_left fun x hx => pw_gone hg (mem_rng.mp hx) a b
theorem homes_gone0 (hn : 0 < n) : homes (gone n st 0) = rng n := by
  rw [homes_eq (n := n) gone_len]
  refine List.filter_eq_self.mpr fun x hx => decide_eq_true ?_
  rw [stAt_gone (mem_rng.mp hx)]; rfl
theorem homes_mem {x : Int} (h : st.length = n.toNat) : x ∈ homes st ↔ hs n x ∧ stAt st x = x := by
  rw [homes_eq h, List.mem_filter, mem_rng, decide_eq_true_eq]
  exact Iff.rfl
theorem pw_fix {g : Int → Int} {x : Int} (h : g x = x) : ∀ k, pw g k x = x
  | 0 => rfl
  | k + 1 => by
    show pw g k (g x) = x
    rw [h, pw_fix h k]
theorem pw_two {g : Int → Int} {x y : Int} (h1 : g x = y) (h2 : g y = x) (k : Nat) : pw g (2 * k) x = x := by
  have : pw g 2 x = x := by show g (g x) = x; rw [h1, h2]
  exact pw_per this k
end
section
variable {K : PySem.W.Frag} {S : Src} {n m l : Int} {F F' G H H' : Hp} {σ : L2.St} {ta tb tc te tl : TE} {tt : TT} {E : XK} {tr : TA} {D : Ends} {tz tu tw : TS}
variable {α β γ δ : Type} [Rep α] [Rep β] [Rep γ] [Rep δ] {x : α} {y : β} {z : γ}
theorem EvM.le {P : α → Prop} (h : EvM K S n m F σ te P) (hm : m ≤ l) : EvM K S n l F σ te P := fun F1 H e1 e2 i Q k => h F1 H e1 e2 i Q fun v x F' H' s i' p r => k v x F' H' s (S.le i' hm) p r
theorem ev_notB {a b : Bool} (ha : EvX K F G σ ta a) (hb : EvX K F G σ tb b) : EvX K F G σ (tOp rNotB ta tb) (!decide (a = b)) :=
  ev_op ha hb fun F1 u w _ h1 h2 H1 e1 _ Q k => ⟨a, b, h1, h2, k _ F1 H1 (Stp.refl e1) rfl⟩
theorem ev_isB {a b : Bool} (ha : EvX K F G σ ta a) (hb : EvX K F G σ tb b) : EvX K F G σ (tOp rIsB ta tb) (decide (a = b)) :=
  ev_op ha hb fun F1 u w _ h1 h2 H1 e1 _ Q k => ⟨a, b, h1, h2, k _ F1 H1 (Stp.refl e1) rfl⟩
theorem ev_mulX {i j : Int} (ha : EvX K F G σ ta i) (hb : EvX K F G σ tb j) (hc : CMulX i j) : EvX K F G σ (tOp (rI CMulX fun i j => .int (i * j)) ta tb) (i * j) := ev_I ha hb hc fun _ => rfl
/-- a loop over a range whose end was drawn -/
theorem x_forR {P : Int → Prop} {g : TG} {B : Hp → Int → L2.St → L2.St → Prop} (h : EvM K S n m F σ te P) (hp : ∀ i, P i → 0 ≤ i ∧ i ≤ 100000) (e : Ex F H) (i : S.I n F H) (hg : Tgt K g B)
    (k : ∀ j F1 H1, StpM S.M F H F1 H1 → S.I m F1 H1 → P j → ∃ Inv : Nat → Hp → L2.St → Hp → Prop, Inv 0 F1 σ H1 ∧ (∀ i F' σ' H', Inv i F' σ' H' → Ex F1 F' ∧ Ex F' H') ∧
      (∀ i x F' σ' H', (rng j)[i]? = some x → Inv i F' σ' H' → ∀ F2 H2, Stp F' H' F2 H2 → ∀ σ2, B F2 x σ' σ2 →
        tu { D with nx := fun σ H => ∃ F, Inv (i + 1) F σ H, ct := fun σ H => ∃ F, Inv (i + 1) F σ H, bk := tz D } σ2 H2) ∧
      (∀ F' σ' H', Inv (rng j).length F' σ' H' → tz D σ' H')) : tSeq (tFor (iRng1 (tCons te tNil)) g tu) tz D σ H :=
  h.go e i fun v j F1 H1 s1 i1 p1 r1 => by
    have ev : EvX K F1 H1 σ (fun _ H Q => Q v H) j := fun H e g Q k => k v F1 H (Stp.refl e) r1
    refine x_for (it_rng1 ev (by have := hp j p1; omega)) s1.fh hg fun F2 H2 s2 => k j F2 H2 (s1.trans s2.m) (S.stp i1 s2) p1
end
section
variable {K : PySem.W.Frag} {F G H : Hp} {σ : L2.St} {ta tb tc : TE} {E : XK} {C : Addr} {v : Vil} {st : List Int} {t : Int}
theorem en_gone (ha : EvX K F G σ ta v) (hb : EvX K F G σ tb st) (hc : EvX K F G σ tc t) (hC : v.C = C) (hst : Tale v.n v.es st) (ht : 0 ≤ t) :
    EvN K F G σ (tCall (PuL3 K (fun (v : Vil) (st : List Int) (t : Int) => v.C = C ∧ Tale v.n v.es st ∧ 0 ≤ t) (fun v st t => gone v.n st t.toNat)) [] E (tCons ta (tCons tb (tCons tc tNil)))) (gone v.n st t.toNat) := en_callL3 ha hb hc ⟨hC, hst, ht⟩
theorem en_home (ha : EvX K F G σ ta v) (hb : EvX K F G σ tb st) (hC : v.C = C) (hst : Tale v.n v.es st) :
    EvN K F G σ (tCall (PuL2 K (fun (v : Vil) (st : List Int) => v.C = C ∧ Tale v.n v.es st) (fun _ st => homes st)) [] E (tCons ta (tCons tb tNil))) (homes st) := en_callL2 ha hb ⟨hC, hst⟩
theorem ev_changed (ha : EvX K F G σ ta v) (hb : EvX K F G σ tb st) (hC : v.C = C) (hst : Tale v.n v.es st) :
    EvX K F G σ (tCall (Pu2 K (fun (v : Vil) (st : List Int) => v.C = C ∧ Tale v.n v.es st) changed) [] E (tCons ta (tCons tb tNil))) (changed v st) := ev_call2 ha hb ⟨hC, hst⟩
theorem ev_isT (ha : EvX K F G σ ta v) (hb : EvX K F G σ tb st) (hC : v.C = C) (hst : ∀ x ∈ st, hs v.n x) :
    EvX K F G σ (tCall (Pu2 K (fun (v : Vil) (st : List Int) => v.C = C ∧ ∀ x ∈ st, hs v.n x) isT) [] E (tCons ta (tCons tb tNil))) (isT v st) := ev_call2 ha hb ⟨hC, hst⟩
end
end L3

/-! sorted(a tuple of ints): as of a list -/
namespace L3S
open PySem PySem.Spec PyProof.Rows SrtO
variable {prog : Program} {w : World} {A : Around} {s : Shared} {E : Value → Shared → Prop}
theorem collect_tup {l : Addr} {vs : List Value} {Q : List Value → Shared → Prop} (hl : ∃ o, s.heap.get? l = some o ∧ o.cls = .type "tuple" ∧ ∃ n, o.data = .seq vs.toArray n)
    (h : Q vs { s with heap := (s.heap.push (seqObj "list" #[] 0)).update s.heap.objs.size (Obj.mapSeq (· ++ vs.toArray)) }) (hsz : vs.length ≤ sizeLine) :
    wpAny (model prog w) A (collect (.ref l)) Q E s := by
  obtain ⟨o, ho, hc, n, hd⟩ := id hl
  unfold collect
  refine wpAny_bind (wpAny_runValue (codeAny_builtin entry_proto_collect' ?_))
  show wpAny _ _ (do again (.builtin "list.__iadd__" ⟨[← newList [], .ref l], []⟩)) _ _ s
  refine wpAny_bind (wpAny_newList (wpAny_pure ⟨Code.quiet_builtin _ (by decide +kernel), codeAny_builtin entry_list_iadd' ?_⟩))
  show wpAny _ _ (Builtin.List.listExtendWith (.ref s.heap.objs.size) (.ref l) (.ref s.heap.objs.size)) _ _ { s with heap := s.heap.push (seqObj "list" #[] 0) }
  unfold Builtin.List.listExtendWith
  have ho' : (s.heap.push (seqObj "list" #[] 0)).get? l = some o := Heap.get?_push_of_some _ ho
  refine wpAny_bind (wpAny_typeOf (T := "tuple") ⟨o, ho', hc⟩ ?_)
  have ht : (Value.type "tuple" == Value.type "tuple") = true := by rfl
  rw [if_pos (by rw [ht]; simp)]
  refine wpAny_bind (listItems_at ho' hd ?_)
  refine wpAny_bind (listItems_at (xs := #[]) (n := 0) (Heap.get?_push_size _ rfl) rfl ?_)
  rw [if_neg (by simp)]
  refine wpAny_bind (listUpdate_at (xs := #[]) (n := 0) (Heap.get?_push_size _ rfl) rfl ?_ (Nat.zero_le _) (by show (#[] ++ vs.toArray).size ≤ sizeLine + 1; simp only [Array.size_append, List.size_toArray, List.length_nil]; omega))
  refine wpAny_pure ?_
  show wpAny (model prog w) A (do
      let o ← load s.heap.objs.size
      match o.data with
      | .seq xs _ => pure xs.toList
      | _ => unsupported "internal:collect") Q E { s with heap := (s.heap.push (seqObj "list" #[] 0)).update s.heap.objs.size (Obj.mapSeq (· ++ vs.toArray)) }
  refine wpAny_bind (wpAny_load (get?_update_seq (Heap.get?_push_size _ rfl) _) ?_)
  show wpAny _ _ (pure ((#[] : Array Value) ++ vs.toArray).toList) Q E _
  rw [show ((#[] : Array Value) ++ vs.toArray).toList = vs by simp]
  exact wpAny_pure h
theorem sorted_ordT {l : Addr} {vs : List Value} {ltv : Value → Value → Bool} {Q : Value → Shared → Prop} (O : Swo ltv) (hl : ∃ o, s.heap.get? l = some o ∧ o.cls = .type "tuple" ∧ ∃ n, o.data = .seq vs.toArray n) (hz : vs.length ≤ sizeLine)
    (hS : 2 ≤ vs.length → ∀ (h₁ : Heap) (a : Addr), h₁.get? a = some (seqObj "list" vs.toArray 0) → (∀ b o, s.heap.get? b = some o → b ≠ a ∧ h₁.get? b = some o) → SortableO prog w A.in1.in1 { s with heap := h₁ } a vs ltv)
    (h : ∀ out : List Value, Srtd ltv out → Stb ltv out vs → Q (.ref (s.heap.objs.size + 1)) { s with heap := sortedAll s.heap vs out.toArray }) :
    wpAny (model prog w) A (call (.builtin "sorted") [.ref l]) Q E s := by
  refine Calls.call_function_entry kind_sorted plain_sorted entry_sorted (args_sorted1 _) ?_
  unfold Builtin.«sorted»
  refine wpAny_bind (m := checkCount "sorted" 1 1 _) (wpAny_pure ?_)
  refine wpAny_bind (collect_tup hl ?_ hz)
  refine wpAny_bind (wpAny_newList ?_ hz)
  have hsz : ((s.heap.push (seqObj "list" #[] 0)).update s.heap.objs.size (Obj.mapSeq (· ++ vs.toArray))).objs.size = s.heap.objs.size + 1 := by
    rw [Heap.size_update, size_push']
  have hoL : (((s.heap.push (seqObj "list" #[] 0)).update s.heap.objs.size (Obj.mapSeq (· ++ vs.toArray))).push (seqObj "list" vs.toArray 0)).get? (s.heap.objs.size + 1) = some (seqObj "list" vs.toArray 0) := by
    rw [← hsz]; exact Heap.get?_push_size _ rfl
  have keep : ∀ b o, s.heap.get? b = some o → b ≠ s.heap.objs.size + 1 ∧ (((s.heap.push (seqObj "list" #[] 0)).update s.heap.objs.size (Obj.mapSeq (· ++ vs.toArray))).push (seqObj "list" vs.toArray 0)).get? b = some o := fun b o q => by
    have hlt : b < s.heap.objs.size := Heap.lt_size q
    refine ⟨Nat.ne_of_lt (Nat.lt_succ_of_lt hlt), Heap.get?_push_of_some _ ?_⟩
    rw [Heap.get?_update_ne _ _ _ _ (Nat.ne_of_lt hlt)]
    exact Heap.get?_push_of_some _ q
  show wpAny _ _ _ _ _ { s with heap := ((s.heap.push (seqObj "list" #[] 0)).update s.heap.objs.size (Obj.mapSeq (· ++ vs.toArray))).push (seqObj "list" vs.toArray 0) }
  rw [hsz]
  refine wpAny_bind (wpAny_holding (wpAny_call_entry slot_list_sort ⟨_, hoL, rfl⟩ entry_list_sort (list_sort_ord O hoL hz (fun h2 => hS h2 _ _ hoL keep) fun out hs hb => ⟨_, rfl, ?_⟩) (args_list_sort _)))
  exact wpAny_pure ⟨_, rfl, h out hs hb⟩
end L3S
namespace L3
open PySem L2
open Evl (Ex ex_l ex_t fresh_back sz_of sz_lt ixN_nat)
open Rep (R)
section
variable {X : Cx}
def rSortedIT (K : PySem.W.Frag) : List V → Hp → VK → Prop := fun vs H Q => ∃ (a : Addr) (ns : List Int), vs = [V.ref a] ∧ SqT K H a (ns.map V.int) ∧
  ∀ (ns' : List Int) (p : Addr), ns'.Perm ns → ns'.Pairwise (· ≤ ·) → H p = none → Q (.ref p) (upd H p (.lst (ns'.map V.int)))
theorem cr_sortedIT : CallR X (.builtin "sorted") (rSortedIT X.K) := by
  intro pins s σ H vs us Q I r h
  obtain ⟨a, ns, rfl, hs, q⟩ := h
  obtain ⟨its, rv, hl, hz⟩ := I.tuple hs
  rw [Vals.ref1 r]
  have hi := rv.ints
  refine L3S.sorted_ordT SrtO.swo_int hl (by rw [← rv.length]; exact hz) (fun h2 h₁ a' _ _ => SrtO.ints_sortable hi h2) fun out h1 h2 => ?_
  obtain ⟨k1, k2, k3⟩ := SrtO.ints_out hi h1 h2
  obtain ⟨ep, he'⟩ := PyProof.Rows.sortedAll_at s.heap its out.toArray
  have hlen : ((out.map SrtO.iv).map V.int).length ≤ sizeLine := by
    rw [List.length_map, k2.length_eq]
    rw [List.length_map] at hz
    exact hz
  exact ⟨.ref _, upd H (s.heap.objs.size + 1) (.lst ((out.map SrtO.iv).map V.int)), I.laid (t' := s.toks) (fun _ _ => PyProof.Rows.sortedAll_old) (Nat.le_succ _) ⟨hlen, out, ep, vals_of_ints k1, he'⟩, rfl, q _ _ k2 k3 (I.hok.fresh (Nat.le_succ _))⟩
theorem k_sortedIT {K : PySem.W.Frag} (hK : X.K = K) : CallR X (.builtin "sorted") (rSortedIT K) := hK ▸ cr_sortedIT
end
section
variable {K : PySem.W.Frag} {F G H : Hp} {σ : L2.St} {ta tb tc : TE}
theorem sort2 {x y : Int} {l : List Int} (hp : l.Perm [x, y]) (hs : l.Pairwise (· ≤ ·)) : l = [min x y, max x y] := by
  have hl := hp.length_eq
  obtain ⟨a, b, rfl⟩ : ∃ a b, l = [a, b] := by
    rcases l with _ | ⟨a, _ | ⟨b, _ | ⟨c, r⟩⟩⟩
    · simp at hl
    · simp at hl
    · exact ⟨a, b, rfl⟩
    · simp at hl
  have hab : a ≤ b := by simpa using hs
  have h2 : a ∈ [x, y] := hp.mem_iff.mp (by simp)
  simp only [List.mem_cons, List.not_mem_nil, or_false] at h2
  rcases h2 with rfl | rfl
  · have : [b] = [y] := List.perm_singleton.mp (List.Perm.cons_inv hp)
    cases this
    rw [Int.min_eq_left hab, Int.max_eq_right hab]
  · have : [b] = [x] := List.perm_singleton.mp (List.Perm.cons_inv (hp.trans (List.Perm.swap _ _ [])))
    cases this
    rw [Int.min_eq_right hab, Int.max_eq_left hab]
theorem ev_sort2 {e : Int × Int} (ha : EvX K F G σ ta e) : EvX K F G σ (tCB (rSortedIT K) (tCons ta tNil)) [min e.1 e.2, max e.1 e.2] :=
  ev_cb1 ha fun F1 u _ h1 H1 e1 _ Q k => by
    obtain ⟨a, v, w, rfl, hs, hv, hw⟩ := h1
    cases hv; cases hw
    refine ⟨a, [e.1, e.2], rfl, SqT.of (e1 _ _ hs), fun ns' p hp hq hn => ?_⟩
    rw [sort2 hp hq]
    exact k _ _ _ ((Stp.refl e1).new hn) ⟨p, _, rfl, upd_same, all2_ints.mpr rfl⟩
theorem ev_tup2 {x y : Int} (ha : EvX K F G σ ta [x, y]) : EvX K F G σ (tCB (rTupS K) (tCons ta tNil)) (x, y) :=
  ev_cb1 ha fun F1 u _ h1 H1 e1 _ Q k => by
    obtain ⟨a, vs, rfl, hs, hv⟩ := h1
    have := all2_ints.mp hv
    subst this
    exact ⟨a, _, rfl, .inl ⟨SqL.of (e1 _ _ hs), fun l hl => k _ _ _ ((Stp.refl e1).new hl) ⟨l, .int x, .int y, rfl, upd_same, rfl, rfl⟩⟩⟩
end
end L3
namespace L3
open PySem
open Tr (adj hs IsTree TreeOn dist)
/-- nobody at home: one road alone has its ends changed -/
theorem cross_one {n : Int} {es : Tr.Roads} {st : List Int} (T : IsTree n es) (A : Tale n es st) (hn : homes st = []) (C : Addr) :
    ∃ e ∈ es, (es.filter fun e => decide ((stAt st e.1, stAt st e.2) = (e.2, e.1))) = [e] ∧ stAt st e.1 = e.2 ∧ stAt st e.2 = e.1 ∧ changed ⟨C, n, held es⟩ st = some (normR e) := by
  have hp : ∀ e : Int × Int, decide ((stAt st e.1, stAt st e.2) = (e.2, e.1)) = true ↔ stAt st e.1 = e.2 ∧ stAt st e.2 = e.1 := fun e => by
    rw [decide_eq_true_eq, Prod.mk.injEq]
  have hl := changed_law (C := C) T A hn (l := (es.filter fun e => decide ((stAt st e.1, stAt st e.2) = (e.2, e.1))).map normR) fun e => by
    constructor
    · intro h
      obtain ⟨e0, h0, rfl⟩ := List.mem_map.mp h
      obtain ⟨h1, h2⟩ := List.mem_filter.mp h0
      exact ⟨e0, h1, rfl, (hp e0).mp h2⟩
    · rintro ⟨e0, h1, rfl, h2⟩
      exact List.mem_map.mpr ⟨e0, List.mem_filter.mpr ⟨h1, (hp e0).mpr h2⟩, rfl⟩
  cases hf : es.filter fun e => decide ((stAt st e.1, stAt st e.2) = (e.2, e.1)) with
  | nil => rw [hf] at hl; exact absurd rfl hl.1
  | cons e r =>
    rw [hf] at hl
    obtain ⟨l1, l2, h1, _, h3, h4⟩ := List.filter_eq_cons_iff.mp hf
    have he : e ∈ es := by rw [h1]; simp
    have hq := (hp e).mp h3
    refine ⟨e, he, ?_, hq.1, hq.2, hl.2⟩
    cases r with
    | nil => rfl
    | cons e2 r =>
      exfalso
      have hm : e2 ∈ l2.filter fun e => decide ((stAt st e.1, stAt st e.2) = (e.2, e.1)) := by rw [h4]; simp
      obtain ⟨m1, m2⟩ := List.mem_filter.mp hm
      have hq2 := (hp e2).mp m2
      obtain ⟨B, b1, b2⟩ := T.tr.acyc l1 e l2 h1
      have b3 := b2 e2 (List.mem_append_right _ m1)
      have he2 : e2 ∈ es := by rw [h1]; simp [m1]
      rcases changed_uniq T A (x := e.1) (y := e.2) (u := e2.1) (v := e2.2) (.inl he) (.inl he2) hq.1 hq.2 hq2.1 hq2.2 with ⟨w1, w2⟩ | ⟨w1, w2⟩
      · rw [w1, w2] at b3; exact b1 b3
      · rw [w1, w2] at b3; exact b1 b3.symm
end L3
namespace L3
open PySem L2
theorem u_asg1 {te : TE} {g : TG} {D : Ends} {σ : L2.St} {H : Hp} (h : te σ H fun x H1 => g x σ H1 D.nx) : tAsg te g D σ H := h
end L3

namespace L3
open PySem L2
open Evl (Ex ex_l ex_t fresh_back sz_of sz_lt ixN_nat)
open Rep (R)
open RepD (toD)
open Tr (adj hs IsTree TreeOn dist)
/-! ### ways -/
noncomputable def toL (es : Tr.Roads) (y here : Int) : List Int := (nb es here).filter fun near => decide (dist es near y < dist es here y)
noncomputable def toN (es : Tr.Roads) (y here : Int) : Int := (toL es y here).headD 0
noncomputable def wayL (es : Tr.Roads) (x y : Int) : List Int := trail (toN es y) x ((dist es x y).toNat + 1)
section
variable {n : Int} {es : Tr.Roads} (T : IsTree n es) {x y : Int}
include T in
theorem toL_ne (hx : hs n x) (hy : hs n y) (hne : x ≠ y) : toL es y x ≠ [] := by
  obtain ⟨u, hu, a, hd⟩ := (Tr.dist_is T hy).back x hx hne
  have e1 := Tr.dist_symm T hy hu
  have e2 := Tr.dist_symm T hy hx
  exact List.ne_nil_of_mem (List.mem_filter.mpr ⟨nb_mem (Tr.adj_ne T a.symm) a.symm, decide_eq_true (by omega)⟩)
include T in
theorem toN_ok (hx : hs n x) (hy : hs n y) (hne : x ≠ y) : adj es x (toN es y x) ∧ hs n (toN es y x) ∧ dist es (toN es y x) y + 1 = dist es x y := by
  have h := hd_mem (d := (0 : Int)) (toL_ne T hx hy hne)
  obtain ⟨h1, h2⟩ := List.mem_filter.mp h
  have a := mem_nb h1
  have hh := (Tr.adj_hs T a).2
  refine ⟨a, hh, ?_⟩
  have hlt : dist es ((toL es y x).headD 0) y < dist es x y := of_decide_eq_true h2
  have e1 := Tr.dist_symm T hy hx
  have e2 := Tr.dist_symm T hy hh
  show dist es ((toL es y x).headD 0) y + 1 = dist es x y
  rcases dist_edge T hy a with q | q <;> omega
include T in
theorem way_ok (hx : hs n x) (hy : hs n y) : ∀ k : Nat, (k : Int) ≤ dist es x y → hs n (pw (toN es y) k x) ∧ dist es (pw (toN es y) k x) y = dist es x y - (k : Int) ∧ dist es x (pw (toN es y) k x) = (k : Int)
  | 0, _ => ⟨hx, by show dist es x y = _; omega, Tr.dist_self T hx⟩
  | k + 1, hk => by
    obtain ⟨h1, h2, h3⟩ := way_ok hx hy k (by omega)
    rw [pw_succ]
    have hne : pw (toN es y) k x ≠ y := fun z => by
      rw [z, Tr.dist_self T hy] at h2
      omega
    obtain ⟨a, b, c⟩ := toN_ok T h1 hy hne
    refine ⟨b, by omega, ?_⟩
    have t1 := Tr.dist_tri T hx h1 b
    have t2 := Tr.dist_tri T hx b hy
    have := Tr.dist_adj_le T h1 b a
    omega
include T in
theorem way_end (hx : hs n x) (hy : hs n y) : pw (toN es y) (dist es x y).toNat x = y := by
  have h0 := Tr.dist_nn T hx hy
  obtain ⟨h1, h2, h3⟩ := way_ok T hx hy (dist es x y).toNat (by omega)
  have e := Tr.dist_symm T h1 hy
  exact (Tr.dist_zero T hy h1).mp (by omega)
include T in
theorem way_mem (hx : hs n x) (hy : hs n y) {u : Int} (hu : u ∈ wayL es x y) : hs n u ∧ dist es x u + dist es u y = dist es x y := by
  obtain ⟨j, hj, rfl⟩ := mem_trail.mp hu
  have h0 := Tr.dist_nn T hx hy
  obtain ⟨h1, h2, h3⟩ := way_ok T hx hy j (by omega)
  exact ⟨h1, by omega⟩
include T in
/-- on a way a house is known by how far it is -/
theorem way_uniq (hx : hs n x) : ∀ (k : Nat) (y a b : Int), hs n y → hs n a → hs n b → dist es a y = (k : Int) → dist es b y = (k : Int) → dist es x a + dist es a y = dist es x y → dist es x b + dist es b y = dist es x y → a = b
  | 0, y, a, b, hy, ha, hb, e1, e2, _, _ => by
    have p := Tr.dist_symm T ha hy
    have q := Tr.dist_symm T hb hy
    rw [(Tr.dist_zero T hy ha).mp (by omega), (Tr.dist_zero T hy hb).mp (by omega)]
  | k + 1, y, a, b, hy, ha, hb, e1, e2, w1, w2 => by
    have step : ∀ a, hs n a → dist es a y = ((k + 1 : Nat) : Int) → dist es x a + dist es a y = dist es x y → ∃ p, hs n p ∧ adj es p y ∧ dist es x p + 1 = dist es x y ∧ dist es a p = (k : Int) ∧ dist es x a + dist es a p = dist es x p := fun a ha e w => by
      obtain ⟨p, hp, ad, hd⟩ := (Tr.dist_is T ha).back y hy (fun z => by subst z; rw [Tr.dist_self T hy] at e; omega)
      have t1 := Tr.dist_tri T hx ha hp
      have t2 := Tr.dist_tri T hx hp hy
      have := Tr.dist_adj_le T hp hy ad
      exact ⟨p, hp, ad, by omega, by omega, by omega⟩
    obtain ⟨p, hp, ad, d1, d2, d3⟩ := step a ha e1 w1
    obtain ⟨q, hq, bd, f1, f2, f3⟩ := step b hb e2 w2
    have := parent_uniq T hx hp hq ad bd d1 f1
    subst this
    exact way_uniq hx k p a b hp ha hb d2 f2 d3 f3
include T in
theorem way_home {st : List Int} (A : Tale n es st) (hx : hs n x) (hy : hs n y) (fx : stAt st x = x) (fy : stAt st y = y) {u : Int} (hu : u ∈ wayL es x y) : stAt st u = u := by
  obtain ⟨h1, h2⟩ := way_mem T hx hy hu
  have hs1 := A.hs h1
  have a := tale_short T A hx h1
  have b := tale_short T A h1 hy
  rw [fx] at a
  rw [fy] at b
  have t := Tr.dist_tri T hx hs1 hy
  have h0 := Tr.dist_nn T h1 hy
  exact way_uniq T hx (dist es u y).toNat y _ _ hy hs1 h1 (by omega) (by omega) (by omega) h2
end
theorem atI_last {α : Type} {l : List α} {x : α} : atI (l ++ [x]) (-1) = some x := by
  unfold atI ixN
  rw [if_neg (by decide), if_pos (by rw [List.length_append]; show -(((l.length + 1 : Nat)) : Int) ≤ -1; omega)]
  show (l ++ [x])[((((l ++ [x]).length : Nat) : Int) + -1).toNat]? = some x
  rw [show ((((l ++ [x]).length : Nat) : Int) + -1).toNat = l.length by rw [List.length_append]; show ((((l.length + 1 : Nat)) : Int) + -1).toNat = l.length; omega]
  simp
section
variable {K : PySem.W.Frag} {F G H : Hp} {σ : L2.St} {ta tb tc : TE} {E : XK} {v : Vil}
variable {α β γ δ : Type} [Rep α] [Rep β] [Rep γ] [Rep δ] {x : α} {y : β} {z : γ}
theorem en_vm2 {C : Addr} {m : Str} {pre : Vil → β → γ → Prop} {f : Vil → β → γ → List δ} (ha : EvX K F G σ ta v) (hb : EvX K F G σ tb y) (hd : EvX K F G σ tc z) (hC : v.C = C) (hm : NoV m) (hp : pre v y z) : EvN K F G σ (tMeth C m (PuL3 K pre f) [] E ta (tCons tb (tCons tc tNil))) (f v y z) := fun H e g Q k =>
  ha H e g _ fun u F1 H1 s1 r1 => by
    obtain ⟨a, dx, r, b, s, rfl, h2, _⟩ := id r1
    subst hC
    refine ⟨a, dx, _, rfl, s1.fh _ _ h2, vfs_no hm r b s, (hb.up s1.ff) H1 s1.fh (g.trans s1.hh) _ fun w F2 H2 s2 r2 => (hd.up (s1.ff.trans s2.ff)) H2 s2.fh ((g.trans s1.hh).trans s2.hh) _ fun t F3 H3 s3 r3 => ?_⟩
    exact ⟨F3, v, y, z, _, w, t, rfl, s3.fh, Rep.mono (s2.ff.trans s3.ff) r1, Rep.mono s3.ff r2, r3, hp, fun p us F4 H4 s4 n0 n1 h4 r4 => k _ _ _ H4 (((s1.trans s2).trans s3).trans s4) (Ex.dom ((s1.hh.trans s2.hh).trans s3.hh) n0) n1 h4 r4⟩
end
end L3

namespace L3
open PySem L2
open Evl (Ex ex_l ex_t fresh_back sz_of sz_lt ixN_nat)
open Rep (R)
open RepD (toD)
open Tr (adj hs IsTree TreeOn dist)
section
variable {K : PySem.W.Frag} {S : Src} {n m l : Int} {F F' G H H' : Hp} {σ : L2.St} {ta tb tc te tl : TE} {tt : TT} {E : XK} {tr : TA} {D : Ends} {tz tu tw : TS}
variable {α β γ δ : Type} [Rep α] [Rep β] [Rep γ] [Rep δ] {x : α} {y : β} {z : γ}
theorem all2_rev {α β : Type} {P : α → β → Prop} : ∀ {l : List α} {m : List β}, All2 P l m → All2 P l.reverse m.reverse
  | _, _, .nil => .nil
  | _, _, .cons h t => by
    rw [List.reverse_cons, List.reverse_cons]
    exact (all2_rev t).app (.cons h .nil)
def cutX (xs : List α) (lo hi : Option Int) : List α := (xs.drop (HT.sIx xs.length 0 lo)).take (HT.sIx xs.length xs.length hi - HT.sIx xs.length 0 lo)
theorem cutX_mem {xs : List α} {lo hi : Option Int} {x : α} (h : x ∈ cutX xs lo hi) : x ∈ xs := List.mem_of_mem_drop (List.mem_of_mem_take h)
theorem cutX_len (xs : List α) (lo hi : Option Int) : (cutX xs lo hi).length ≤ xs.length := by
  unfold cutX
  rw [List.length_take, List.length_drop]
  omega
/-- a part of a slice -/
def PtX (F G : Hp) (σ : L2.St) (to : TO) (o : Option Int) : Prop := ∀ H, Ex F H → Ex G H → ∀ Q : Option Int → Hp → Prop, (∀ H', Ex H H' → Q o H') → to σ H Q
theorem px_none : PtX F G σ tNoPart none := fun H _ _ Q k => k H (Ex.refl H)
theorem px_int {i : Int} (h : EvX K F G σ te i) : PtX F G σ (tPart te) (some i) := part_int h
theorem en_slice {xs : List α} {lo hi : Option Int} {tlo thi : TO} (ha : EvX K F G σ ta xs) (hl : PtX F G σ tlo lo) (hh : PtX F G σ thi hi) : EvN K F G σ (tSl (rSlA K) ta tlo thi) (cutX xs lo hi) := fun H e g Q k =>
  ha H e g _ fun u F1 H1 s1 r1 => hl H1 (e.trans s1.hh) (g.trans s1.hh) _ fun H2 e2 => hh H2 ((e.trans s1.hh).trans e2) ((g.trans s1.hh).trans e2) _ fun H3 e3 => by
    obtain ⟨a, vs, rfl, hs, hv⟩ := r1
    have e23 := e2.trans e3
    refine .inl ⟨a, vs, rfl, SqL.of ((s1.fh.trans e23) _ _ hs), fun p hp => k p _ _ _ ((s1.ext e23).own hp) (Ex.dom (s1.hh.trans e23) hp) (fresh_back (s1.fh.trans e23) hp) upd_same ?_⟩
    unfold cutV cutX
    rw [hv.len]
    exact (hv.drop _).take _
theorem en_revL {xs : List α} (ha : EvX K F G σ ta xs) : EvN K F G σ (tRevL K ta) xs.reverse := fun H e g Q k =>
  ha H e g _ fun u F1 H1 s1 r1 => by
    obtain ⟨a, vs, rfl, hs, hv⟩ := r1
    refine ⟨a, vs, rfl, SqL.of (s1.fh _ _ hs), fun p hp => k p _ _ _ (s1.own hp) (Ex.dom s1.hh hp) (fresh_back s1.fh hp) upd_same ?_⟩
    exact all2_rev hv
theorem all2_rep {K : PySem.W.Frag} {F : Hp} {u : V} {x : α} (h : R K F u x) : ∀ k : Nat, All2 (R K F) (List.replicate k u) (List.replicate k x)
  | 0 => .nil
  | k + 1 => .cons h (all2_rep h k)
/-- [x] * k -/
theorem en_rep {k : Int} (ha : EvX K F G σ ta x) (hb : EvX K F G σ tb k) (hk : 0 ≤ k ∧ k ≤ 100000) : EvN K F G σ (tOp rRep (tLst (tCons ta tNil)) tb) (List.replicate k.toNat x) := fun H e g Q kk =>
  (ev_lst (el_cons ha el_nil) (by simp)) H e g _ fun u F1 H1 s1 r1 => (hb.up s1.ff) H1 s1.fh (g.trans s1.hh) _ fun w F2 H2 s2 r2 => by
    cases r2
    obtain ⟨a, vs, rfl, hs, hv⟩ := Rep.mono s2.ff r1
    cases hv with
    | cons h t =>
      cases t
      refine ⟨a, k, _, rfl, rfl, s2.fh _ _ hs, by omega, by omega, ?_, fun p hp => kk p _ _ _ ((s1.trans s2).own hp) (Ex.dom (s1.trans s2).hh hp) (fresh_back s2.fh hp) upd_same ?_⟩
      · rw [List.length_singleton, Nat.one_mul]
        exact sz_of (by omega)
      · rename_i b
        have : (List.replicate k.toNat [b]).flatten = List.replicate k.toNat b := by
          induction k.toNat with
          | zero => rfl
          | succ j ih => rw [List.replicate_succ, List.flatten_cons, ih, List.replicate_succ]; rfl
        rw [this]
        exact all2_rep h _
/-- xs + ys, of which some are drawn -/
theorem em_cat {P P2 P3 : List α → Prop} (ha : EvM K S n m F σ ta P) (hb : EvM K S m l F σ tb P2) (hl : ∀ x y, P x → P2 y → x.length + y.length ≤ 100000 ∧ P3 (x ++ y)) : EvM K S n l F σ (tOp rAddA ta tb) P3 :=
  em_op ha (fun _ _ => hb) fun F1 u w x y _ p p2 ru rw' H1 e1 Q k => by
    obtain ⟨a, vs, rfl, hs1, hv1⟩ := ru
    obtain ⟨b, ws, rfl, hs2, hv2⟩ := rw'
    obtain ⟨h1, h2⟩ := hl x y p p2
    refine .inr (.inr ⟨a, b, vs, ws, rfl, rfl, e1 _ _ hs1, e1 _ _ hs2, sz_of (by rw [hv1.len, hv2.len]; exact h1), fun q hq => ?_⟩)
    exact k _ (x ++ y) _ _ ((Stp.refl e1).new hq) h2 ⟨q, _, rfl, upd_same, (hv1.app hv2).imp fun _ _ => Rep.mono (Ex.new (fresh_back e1 hq))⟩
/-- a comprehension whose items draw, over a known range -/
theorem em_lck {j : Nat} {vs : List Nat} {c N : Int} {P2 : β → Prop} (hi : EvX K F F σ ta N) (hN : 0 ≤ N ∧ N ≤ 100000) (hw : ∀ x, wipe ((wipe σ vs).set j (some x)) vs = wipe σ vs)
    (hc : 0 ≤ c) (he : ∀ (i : Int) (k : Int) F1, Ex F F1 → 0 ≤ i → n ≤ k → k ≤ n + c * 100000 → EvM K S k (k + c) F1 ((wipe σ vs).set j (some (.int i))) te P2) :
    EvM K S n (n + c * N) F σ (tLc (iRng1 (tCons ta tNil)) (gName j) tYes te vs) (fun xs : List β => xs.length = N.toNat ∧ ∀ x ∈ xs, P2 x) := fun F1 H e1 e2 i Q k =>
  em_lcr (P := fun z => z = N) (P2 := fun _ x => P2 x) (em_pure hi) (fun i h => by subst h; exact hN) hw hc he F1 H e1 e2 i Q fun p us xs len F' H' hl s n0 f0 nM h2 r2 l2 q2 i2 => by
    subst hl
    refine k _ xs _ H' (s.frz n0 f0 h2) (S.frz i2 nM) ⟨l2, fun x hx => ?_⟩ ⟨p, us, rfl, upd_same, r2.imp fun _ _ => Rep.mono (Ex.new f0)⟩
    obtain ⟨q, hq, rfl⟩ := List.mem_iff_getElem.mp hx
    exact q2 q _ (List.getElem?_eq_getElem hq)
end
/-! lists judged -/
theorem isT_iff {n : Int} {es : Tr.Roads} {st : List Int} {C : Addr} (T : IsTree n es) (h : ∀ y ∈ st, hs n y) : isT ⟨C, n, held es⟩ st = true ↔ st.length = n.toNat ∧ ∀ x y, hs n x → hs n y → dist es (stAt st x) (stAt st y) ≤ dist es x y := by
  have Th := tree_held T
  constructor
  · intro q
    unfold isT at q
    simp only [Bool.and_eq_true, decide_eq_true_eq, List.all_eq_true] at q
    obtain ⟨h1, h2⟩ := q
    have A : Tale n (held es) st := ⟨h1, h, fun x y a => by
      rcases a with a | a
      · exact h2 _ a
      · obtain ⟨hy, hx⟩ := Th.tr.rng _ a
        have e : ∀ z, hs n z → hs n (stAt st z) := fun z hz => (stA_of h (by rw [h1]; exact ⟨hz.1, by have := hz.2; have := hz.1; omega⟩)).2
        rw [Tr.dist_symm Th (e x hx) (e y hy)]
        exact h2 _ a⟩
    refine ⟨h1, fun x y hx hy => ?_⟩
    have := tale_short Th A hx hy
    rwa [dist_held, dist_held] at this
  · rintro ⟨h1, h2⟩
    unfold isT
    rw [decide_eq_true h1, Bool.true_and, List.all_eq_true]
    intro e he
    refine decide_eq_true ?_
    obtain ⟨hx, hy⟩ := Th.tr.rng _ he
    have := h2 e.1 e.2 hx hy
    show dist (held es) (stAt st e.1) (stAt st e.2) ≤ 1
    have e1 := (Tr.dist_one Th hx hy).mpr (.inl he)
    rw [dist_held] at e1 ⊢
    omega
def sp_isT (K : PySem.W.Frag) : Sp := fun vs H Q _ => ∃ (F : Hp) (n : Int) (es : Tr.Roads) (st : List Int) (w v : V), vs = [w, v] ∧ Ex F H ∧ R K F w (tab n (dist es)) ∧ R K F v st ∧ IsTree n es ∧ n ≤ 60 ∧ st.length ≤ 1000 ∧ (∀ y ∈ st, hs n y) ∧
  ∀ u F' H', Stp F H F' H' → R K F' u (isT ⟨0, n, held es⟩ st) → Q u H'
theorem ev_isTl {K : PySem.W.Frag} {F G : Hp} {σ : L2.St} {ta tb : TE} {E : XK} {n : Int} {es : Tr.Roads} {st : List Int} (ha : EvX K F G σ ta (tab n (dist es))) (hb : EvX K F G σ tb st) (T : IsTree n es) (hn : n ≤ 60) (hl : st.length ≤ 1000) (hs : ∀ y ∈ st, hs n y) :
    EvX K F G σ (tCall (sp_isT K) [] E (tCons ta (tCons tb tNil))) (isT ⟨0, n, held es⟩ st) := fun H e g Q k =>
  ha H e g _ fun u F1 H1 s1 r1 => (hb.up s1.ff) H1 s1.fh (g.trans s1.hh) _ fun w F2 H2 s2 r2 =>
    ⟨F2, n, es, st, u, w, rfl, s2.fh, Rep.mono s2.ff r1, r2, T, hn, hl, hs, fun u F3 H3 s3 r3 => k u F3 H3 ((s1.trans s2).trans s3) r3⟩
def sp_lists (K : PySem.W.Frag) : Sp := fun vs H Q _ => ∃ (F : Hp) (p : Addr) (m n : Int) (es : Tr.Roads) (w : V), vs = [.ref p, w] ∧ Ex F H ∧ Pot F H p m ∧ m ≤ 10 ^ 8 ∧ R K F w (tab n (dist es)) ∧ IsTree n es ∧ n ≤ 60 ∧
  ∀ v F' H' (ls : List (List Int)), (∀ l ∈ ls, l.length ≤ 1000 ∧ ∀ x ∈ l, hs n x) → StpM (potS p).M F H F' H' → Pot F' H' p (m + 1500) → R K F' v ls → Q v H'
theorem em_lists {K : PySem.W.Frag} {p : Addr} {F : Hp} {σ : L2.St} {w : V} {j1 j2 : Nat} {n m : Int} {es : Tr.Roads} {E : XK} (h1 : σ[j1]? = some (some (.ref p))) (h2 : σ[j2]? = some (some w)) (r : R K F w (tab n (dist es))) (T : IsTree n es) (hn : n ≤ 60) (hm : m ≤ 10 ^ 8) :
    EvM K (potS p) m (m + 1500) F σ (tCall (sp_lists K) [] E (tCons (tVar j1) (tCons (tVar j2) tNil))) (fun ls : List (List Int) => ∀ l ∈ ls, l.length ≤ 1000 ∧ ∀ x ∈ l, hs n x) := fun F1 H e1 e2 i Q kk =>
  ⟨_, h1, _, h2, F1, p, m, n, es, w, rfl, e2, i, hm, Rep.mono e1 r, T, hn, fun v F2 H2 ls hS s2 i2 r2 => kk v ls F2 H2 s2 i2 hS r2⟩
end L3

namespace L3
open PySem L2
open Evl (Ex ex_l ex_t fresh_back sz_of sz_lt ixN_nat)
open Rep (R)
open RepD (toD)
section
variable {X : Cx}
/-- the least of a list of data -/
def rMinD (K : PySem.W.Frag) : List V → Hp → VK → Prop := fun xs H Q => ∃ a vs d ds, xs = [.ref a] ∧ SqL K H a vs ∧ DpAll K H vs (d :: ds) ∧ PySem.W.AlikeAll (d :: ds) ∧ PyData.depthAll (d :: ds) ≤ 20 ∧ PyData.canLayAll0 (d :: ds) = true ∧
  ∀ (i : Nat) v, vs[i]? = some v → (d :: ds)[i]? = some (PySem.W.minD d ds) → Q v H
theorem readsAll_ix {h : Heap} : ∀ {vs : List Value} {ds : List PyData} {as : List Addr} {i : Nat} {v : Value} {d : PyData}, ReadsAll h vs ds as → vs[i]? = some v → ds[i]? = some d → ∃ bs, Reads h v d bs
  | _, _, _, 0, _, _, .cons r _, e1, e2 => by
    simp at e1 e2
    subst e1 e2
    exact ⟨_, r⟩
  | _, _, _, i + 1, _, _, .cons _ rs, e1, e2 => readsAll_ix (i := i) rs (by simpa using e1) (by simpa using e2)
  | _, _, _, _, _, _, .nil, e1, _ => by simp at e1
theorem vals_ix : ∀ {xs : List V} {us : List Value} {i : Nat} {u : Value}, Vals xs us → us[i]? = some u → ∃ x, xs[i]? = some x ∧ RelV x u
  | _, _, _, _, .nil, e => by simp at e
  | _, _, 0, _, .cons r _, e => by
    simp at e
    subst e
    exact ⟨_, rfl, r⟩
  | _, _, i + 1, _, .cons _ rs, e => by
    obtain ⟨x, h1, h2⟩ := vals_ix (i := i) rs (by simpa using e)
    exact ⟨x, by simpa using h1, h2⟩
theorem cr_minD {k : Nat} (hc : X.calm = true) (hr : Room k X.A) : CallR X (.builtin "min") (rMinD X.K) := by
  intro pins s σ H vs us Q I r h
  obtain ⟨a, xs, d, ds, rfl, hs, hd, hal, hdep, hlay, q⟩ := h
  obtain ⟨its, rv, hl, _⟩ := I.list hs
  rw [Vals.ref1 r]
  obtain ⟨as, ra⟩ := Dp.readsAll I _ _ its hd rv
  refine PySem.W.min_list_data (vs := its.toArray) (x := d) (xs := ds) (as := as) (I.ok.hd hc) hl.isList ra hal (by have := hr.un; omega) fun i v h' tk bs hv hR hk => ?_
  rw [List.getElem?_toArray] at hv
  obtain ⟨x, hx, rx⟩ := vals_ix rv hv
  have hi : i < (d :: ds).length := by
    have := (List.getElem?_eq_some_iff.mp hv).1
    rw [← PySem.SeqAt.ReadsAll.length _ _ _ ra]
    exact this
  have hdi : (d :: ds)[i]? = some ((d :: ds)[i]) := List.getElem?_eq_getElem hi
  obtain ⟨cs, rc⟩ := readsAll_ix ra hv hdi
  have hcl : ((d :: ds)[i]).canLay0 = true := canLay_mem hlay (List.getElem_mem hi)
  have e := PySem.SeqAt.Reads.unique _ _ _ _ _ hcl (PySem.W.reads_keeps hk rc) hR
  exact ⟨x, H, I.kept hk, rx, q i x hx (by rw [hdi, e])⟩
def rMinB (K : PySem.W.Frag) : List V → Hp → VK → Prop := fun xs H Q => rMin K xs H Q ∨ rMinD K xs H Q
theorem k_minB {K : PySem.W.Frag} {k : Nat} (hK : X.K = K) (hc : X.calm = true) (hr : Room k X.A) : CallR X (.builtin "min") (rMinB K) := hK ▸ CallR.or (cr_min hc) (cr_minD hc hr)
end
theorem lt_pair (a b c d : Int) : PySem.W.dataLt (.tuple [.int a, .int b]) (.tuple [.int c, .int d]) = decide (a < c ∨ (a = c ∧ b < d)) := by
  rw [PySem.W.dataLt_tuple]
  by_cases h : a = c
  · subst h
    rw [PySem.W.dataLt_all_yes (by simp [PySem.W.alike]) (by simp [PyData.eqv])]
    by_cases g : b = d
    · subst g
      rw [PySem.W.dataLt_all_yes (by simp [PySem.W.alike]) (by simp [PyData.eqv])]
      rw [decide_eq_false (by omega)]
      decide +kernel
    · rw [PySem.W.dataLt_all_no (by simp [PySem.W.alike]) (by simp [PyData.eqv, g]), PySem.W.dataLt_int]
      exact decide_eq_decide.mpr (by omega)
  · rw [PySem.W.dataLt_all_no (by simp [PySem.W.alike]) (by simp [PyData.eqv, h]), PySem.W.dataLt_int]
    exact decide_eq_decide.mpr (by omega)
end L3
namespace L3
open PySem L2
open Evl (Ex ex_l ex_t fresh_back sz_of sz_lt ixN_nat)
open Rep (R)
open RepD (toD)
def ltPB (y a : Int × Int) : Prop := y.1 < a.1 ∨ (y.1 = a.1 ∧ y.2 < a.2)
instance (y a : Int × Int) : Decidable (ltPB y a) := by unfold ltPB; infer_instance
def minF (p : Int × Int) (ps : List (Int × Int)) : Int × Int := ps.foldl (fun a y => if ltPB y a then y else a) p
def tupD (p : Int × Int) : PyData := .tuple [.int p.1, .int p.2]
theorem minD_pairs : ∀ (ps : List (Int × Int)) (p : Int × Int), PySem.W.minD (tupD p) (ps.map tupD) = tupD (minF p ps)
  | [], p => rfl
  | y :: ps, p => by
    have h := lt_pair y.1 y.2 p.1 p.2
    show PySem.W.minD (if PySem.W.dataLt (tupD y) (tupD p) = true then tupD y else tupD p) (ps.map tupD) = tupD (minF (if ltPB y p then y else p) ps)
    rw [show PySem.W.dataLt (tupD y) (tupD p) = decide (ltPB y p) from h]
    by_cases q : ltPB y p
    · rw [decide_eq_true q, if_pos rfl, if_pos q]
      exact minD_pairs ps y
    · rw [decide_eq_false q, if_neg (by decide), if_neg q]
      exact minD_pairs ps p
theorem minF_ok : ∀ (ps : List (Int × Int)) (p : Int × Int), minF p ps ∈ p :: ps ∧ ∀ y ∈ p :: ps, leP (minF p ps) y
  | [], p => ⟨List.mem_cons_self, fun y hy => by
      rw [List.mem_singleton.mp hy]
      rcases leP_total p p with q | q <;> exact q⟩
  | z :: ps, p => by
    obtain ⟨h1, h2⟩ := minF_ok ps (if ltPB z p then z else p)
    show minF (if ltPB z p then z else p) ps ∈ _ ∧ ∀ y ∈ _, leP (minF (if ltPB z p then z else p) ps) y
    have h3 := h2 _ List.mem_cons_self
    refine ⟨?_, fun y hy => ?_⟩
    · rcases List.mem_cons.mp h1 with q | q
      · rw [q]
        by_cases g : ltPB z p
        · rw [if_pos g]; simp
        · rw [if_neg g]; simp
      · exact List.mem_cons_of_mem _ (List.mem_cons_of_mem _ q)
    · have key : leP (if ltPB z p then z else p) p ∧ leP (if ltPB z p then z else p) z := by
        by_cases g : ltPB z p
        · rw [if_pos g]
          unfold ltPB at g
          unfold leP
          omega
        · rw [if_neg g]
          unfold ltPB at g
          unfold leP
          omega
      rcases List.mem_cons.mp hy with rfl | hy
      · exact leP_tr h3 key.1
      · rcases List.mem_cons.mp hy with rfl | hy
        · exact leP_tr h3 key.2
        · exact h2 y (List.mem_cons_of_mem _ hy)
/-- the least pair -/
def minPL (xs : List (Int × Int)) : Int × Int := (sortP xs).headD (0, 0)
theorem minPL_ok {xs : List (Int × Int)} (h : xs ≠ []) : minPL xs ∈ xs ∧ ∀ y ∈ xs, leP (minPL xs) y := by
  have hs := sortP_sorted xs
  have hp := sortP_perm xs
  unfold minPL
  cases e : sortP xs with
  | nil =>
    rw [e] at hp
    exact absurd hp.nil_eq.symm h
  | cons a l =>
    rw [e] at hs hp
    refine ⟨hp.mem_iff.mp List.mem_cons_self, fun y hy => ?_⟩
    rcases List.mem_cons.mp (hp.mem_iff.mpr hy) with rfl | q
    · rcases leP_total y y with q | q <;> exact q
    · exact (List.pairwise_cons.mp hs).1 y q
theorem minPL_is {xs : List (Int × Int)} {p : Int × Int} (h1 : p ∈ xs) (h2 : ∀ y ∈ xs, leP p y) : minPL xs = p := by
  obtain ⟨a, b⟩ := minPL_ok (List.ne_nil_of_mem h1)
  exact leP_anti (b p h1) (h2 _ a)
theorem minPL_perm {xs ys : List (Int × Int)} (h : xs.Perm ys) : minPL xs = minPL ys := by
  unfold minPL
  rw [sortP_uniq (h.symm.trans (List.Perm.refl _) |>.symm |> fun q => (sortP_perm xs).trans q) (sortP_sorted xs)]
section
variable {K : PySem.W.Frag} {F G H : Hp} {σ : L2.St} {ta tb tc : TE}
theorem ev_minPL {xs : List (Int × Int)} (ha : EvX K F G σ ta xs) (hne : xs ≠ []) : EvX K F G σ (tCB (rMinB K) (tCons ta tNil)) (minPL xs) :=
  ev_cb1 ha fun F1 u _ h1 H1 e1 _ Q k => by
    obtain ⟨a, vs, rfl, hs, hv⟩ := h1
    cases xs with
    | nil => exact absurd rfl hne
    | cons p ps =>
      have hd := dpAll_of (hv.imp fun _ _ => Rep.mono (K := K) (α := Int × Int) e1)
      have hl := Lay.lay (p :: ps)
      refine .inr ⟨a, vs, tupD p, ps.map tupD, rfl, SqL.of (e1 _ _ hs), hd, ?_, ?_, ?_, fun i v hi hj => ?_⟩
      · refine ⟨fun x hx y hy => ?_, fun x hx => ?_⟩
        · obtain ⟨x', _, rfl⟩ := List.mem_map.mp (show x ∈ (p :: ps).map tupD from hx)
          obtain ⟨y', _, rfl⟩ := List.mem_map.mp (show y ∈ (p :: ps).map tupD from hy)
          simp [tupD, PySem.W.alike, PySem.W.alikeAll]
        · obtain ⟨x', _, rfl⟩ := List.mem_map.mp (show x ∈ (p :: ps).map tupD from hx)
          simp [tupD]
      · have := RepD.dep_le (p :: ps)
        have h2 : (toD (p :: ps)).depth = PyData.depthAll ((p :: ps).map toD) + 1 := by
          show PyData.depth (.list _) = _
          simp only [PyData.depth]
        have h3 : RepD.dep (List (Int × Int)) ≤ 10 := by decide
        show PyData.depthAll ((p :: ps).map toD) ≤ 20
        omega
      · have h4 : (PyData.list ((p :: ps).map toD)).canLay0 = true := hl
        rw [PyData.canLay0] at h4
        exact h4
      · rw [minD_pairs] at hj
        obtain ⟨pr, hpr, rpr⟩ := hv.getl hi
        have h2 : ((p :: ps).map tupD)[i]? = some (tupD pr) := by rw [List.getElem?_map, hpr]; rfl
        rw [show tupD p :: ps.map tupD = (p :: ps).map tupD from rfl, h2] at hj
        have e : pr = minF p ps := by
          have := Option.some.inj hj
          simp only [tupD, PyData.tuple.injEq, List.cons.injEq, PyData.int.injEq] at this
          exact Prod.ext this.1 this.2.1
        obtain ⟨m1, m2⟩ := minF_ok ps p
        rw [minPL_is m1 m2, ← e] at k
        exact k v F1 H1 (Stp.refl e1) rpr
end
end L3

namespace L3
open PySem L2
open Evl (Ex ex_l ex_t fresh_back sz_of sz_lt ixN_nat)
open Rep (R)
open RepD (toD)
open Tr (adj hs IsTree TreeOn dist)
/-! ### reports -/
structure Rpt where
  C : Addr
  v : Vil
  rs : List (Int × Int)
/-- some tale is as these say -/
def Fits (v : Vil) (l : List (Int × Int)) : Prop := ∃ st, Tale v.n v.es st ∧ ∀ e ∈ l, hs v.n e.1 ∧ stAt st e.1 = e.2
structure ROk (r : Rpt) : Prop where
  fits : Fits r.v r.rs
  ord : r.rs.Pairwise leP
  nd : r.rs.Nodup
theorem fits_sub {v : Vil} {l m : List (Int × Int)} (h : Fits v m) (s : ∀ e ∈ l, e ∈ m) : Fits v l := by
  obtain ⟨st, A, q⟩ := h
  exact ⟨st, A, fun e he => q e (s e he)⟩
theorem fits_rng {v : Vil} {l : List (Int × Int)} (h : Fits v l) {e : Int × Int} (he : e ∈ l) : hs v.n e.1 ∧ hs v.n e.2 := by
  obtain ⟨st, A, q⟩ := h
  obtain ⟨h1, h2⟩ := q e he
  exact ⟨h1, h2 ▸ A.hs h1⟩
theorem fits_far {v : Vil} {l : List (Int × Int)} (T : IsTree v.n v.es) (h : Fits v l) {e f : Int × Int} (he : e ∈ l) (hf : f ∈ l) : dist v.es e.2 f.2 ≤ dist v.es e.1 f.1 := by
  obtain ⟨st, A, q⟩ := h
  obtain ⟨h1, h2⟩ := q e he
  obtain ⟨h3, h4⟩ := q f hf
  rw [← h2, ← h4]
  exact tale_short T A h1 h3
theorem fits_len {v : Vil} {l : List (Int × Int)} (h : Fits v l) (nd : l.Nodup) : l.length ≤ v.n.toNat := by
  obtain ⟨st, A, q⟩ := h
  have hnd : (l.map Prod.fst).Nodup := List.pairwise_map.mpr (List.Pairwise.imp_of_mem (fun {a b} ha hb hab e => hab (Prod.ext e (by rw [← (q a ha).2, ← (q b hb).2, e]))) nd)
  have := nodup_le (l.map Prod.fst) (rng v.n) hnd fun x hx => by
    obtain ⟨e, he, rfl⟩ := List.mem_map.mp hx
    exact mem_rng.mpr (q e he).1
  rw [List.length_map, rng_len] at this
  exact this
def tellL (l : List (Int × Int)) (e : Int × Int) : List (Int × Int) := if e ∈ l then l else sortP (l ++ [e])
theorem mem_tell {l : List (Int × Int)} {e f : Int × Int} : f ∈ tellL l e ↔ f ∈ l ∨ f = e := by
  unfold tellL
  by_cases h : e ∈ l
  · rw [if_pos h]
    exact ⟨.inl, fun q => q.elim id fun z => z ▸ h⟩
  · rw [if_neg h, mem_sortP]
    simp
theorem rok_tell {r : Rpt} {e : Int × Int} (h : ROk r) (hf : Fits r.v (e :: r.rs)) : ROk ⟨r.C, r.v, tellL r.rs e⟩ := by
  refine ⟨fits_sub hf fun f q => ?_, ?_, ?_⟩
  · rcases mem_tell.mp q with q | q
    · exact List.mem_cons_of_mem _ q
    · rw [q]; exact List.mem_cons_self
  · show (tellL r.rs e).Pairwise leP
    unfold tellL
    split
    · exact h.ord
    · exact sortP_sorted _
  · show (tellL r.rs e).Nodup
    unfold tellL
    split
    · exact h.nd
    · rename_i hn
      exact (sortP_perm _).nodup_iff.mpr (List.nodup_append.mpr ⟨h.nd, by simp, fun a ha b hb z => by simp at hb; subst hb; subst z; exact hn ha⟩)
theorem rok_drop {r : Rpt} {p : Int × Int → Bool} (h : ROk r) : ROk ⟨r.C, r.v, r.rs.filter p⟩ :=
  ⟨fits_sub h.fits fun f q => (List.mem_filter.mp q).1, h.ord.filter p, h.nd.filter p⟩
/-- told one by one -/
theorem fold_tell : ∀ (l m : List (Int × Int)), (m ++ l).Nodup → l.foldl tellL (sortP m) = sortP (m ++ l)
  | [], m, _ => by simp
  | e :: l, m, h => by
    have hn : e ∉ m := fun q => (List.nodup_append.mp h).2.2 e q e List.mem_cons_self rfl
    show l.foldl tellL (tellL (sortP m) e) = _
    have : tellL (sortP m) e = sortP (m ++ [e]) := by
      unfold tellL
      rw [if_neg fun q => hn (mem_sortP.mp q)]
      exact sortP_uniq ((sortP_perm _).trans ((sortP_perm m).append_right [e])) (sortP_sorted _)
    rw [this, fold_tell l (m ++ [e]) (by rw [List.append_assoc]; exact h), List.append_assoc]
    rfl
theorem sortP_nil : sortP [] = [] := (sortP_perm []).eq_nil
theorem sortP_perm_eq {l m : List (Int × Int)} (h : l.Perm m) : sortP l = sortP m := sortP_uniq ((sortP_perm l).trans h) (sortP_sorted l)
def rfs (vv vh : V) : List (Str × V) := [("village_held", vv), ("heard_held", vh)]
theorem vh_ : ¬ (("village_held" : Str) = "heard_held") := by decide +kernel
theorem rfs_v (a b : V) : (rfs a b).lookup ("village_held" : Str) = some a := by unfold rfs; rw [look_cons, if_pos rfl]
theorem rfs_h (a b : V) : (rfs a b).lookup ("heard_held" : Str) = some b := by unfold rfs; rw [look_cons, if_neg (Ne.symm vh_), look_cons, if_pos rfl]
theorem rfs_put (a b c : V) : putF ("heard_held" : Str) c (rfs a b) = rfs a c := by
  unfold rfs
  rfl
theorem rfs_put0 (a : V) : putF ("village_held" : Str) a ([] : List (Str × V)) = [(("village_held" : Str), a)] := rfl
theorem rfs_put1 (a b : V) : putF ("heard_held" : Str) b [(("village_held" : Str), a)] = rfs a b := rfl
def NoR (m : Str) : Prop := ¬ m = "village_held" ∧ ¬ m = "heard_held"
instance (m : Str) : Decidable (NoR m) := by unfold NoR; infer_instance
theorem rfs_no {m : Str} (h : NoR m) (a b : V) : (rfs a b).lookup m = none := by
  unfold rfs
  rw [look_cons, if_neg h.1, look_cons, if_neg h.2]
  rfl
instance : Rep Rpt := ⟨fun K F u r => ∃ (a dx : Addr) (vv vh : V), u = .ref a ∧ F a = some (.ins r.C dx (rfs vv vh)) ∧ R K F vv r.v ∧ R K F vh r.rs ∧ ROk r,
  fun e ⟨a, dx, vv, vh, h1, h2, h3, h4, h5⟩ => ⟨a, dx, vv, vh, h1, e _ _ h2, Rep.mono e h3, Rep.mono e h4, h5⟩⟩
/-- reports that may still hear more -/
def Folk (K : PySem.W.Frag) (F H : Hp) (a : Addr) (r : Rpt) : Prop := F a = none ∧ ∃ (dx : Addr) (vv vh : V), H a = some (.ins r.C dx (rfs vv vh)) ∧ R K F vv r.v ∧ R K F vh r.rs ∧ ROk r
section
variable {K : PySem.W.Frag} {F G H F' H' : Hp} {σ : L2.St} {ta tb tc : TE} {E : XK} {r : Rpt} {a : Addr}
variable {α β γ δ : Type} [Rep α] [Rep β] [Rep γ] [Rep δ] {x : α} {y : β} {z : γ}
theorem Folk.rep (f : Folk K F H a r) (e : Ex F H) : R K H (.ref a) r := by
  obtain ⟨_, dx, vv, vh, h1, h2, h3, h4⟩ := f
  exact ⟨a, dx, vv, vh, rfl, h1, Rep.mono e h2, Rep.mono e h3, h4⟩
theorem Folk.stp (f : Folk K F H a r) (s : Stp F H F' H') : Folk K F' H' a r := by
  obtain ⟨h0, dx, vv, vh, h1, h2, h3, h4⟩ := f
  exact ⟨s.fno h1 h0, dx, vv, vh, s.hh _ _ h1, Rep.mono s.ff h2, Rep.mono s.ff h3, h4⟩
theorem Folk.stpM {M : Addr → Prop} (f : Folk K F H a r) (s : StpM M F H F' H') (n : ¬ M a) : Folk K F' H' a r := by
  obtain ⟨h0, dx, vv, vh, h1, h2, h3, h4⟩ := f
  exact ⟨s.fno h1 h0, dx, vv, vh, s.hh _ _ n h1, Rep.mono s.ff h2, Rep.mono s.ff h3, h4⟩
theorem ev_rv (hc : Cls K r.C) (hn : NoAttr K r.C "village_held") (ha : EvX K F G σ ta r) : EvX K F G σ (tFld K ta "village_held") r.v := fun H e g Q k =>
  ha H e g _ fun u F1 H1 s1 ⟨a, dx, vv, vh, h1, h2, h3, h4, h5⟩ => ⟨a, r.C, dx, _, vv, h1, s1.fh _ _ h2, hc, hn, rfs_v vv vh, k vv F1 H1 s1 h3⟩
theorem ev_rr (hc : Cls K r.C) (hn : NoAttr K r.C "heard_held") (ha : EvX K F G σ ta r) : EvX K F G σ (tFld K ta "heard_held") r.rs := fun H e g Q k =>
  ha H e g _ fun u F1 H1 s1 ⟨a, dx, vv, vh, h1, h2, h3, h4, h5⟩ => ⟨a, r.C, dx, _, vh, h1, s1.fh _ _ h2, hc, hn, rfs_h vv vh, k vh F1 H1 s1 h4⟩
theorem rok_of {u : V} (h : R K F u r) : ROk r ∧ VOk r.v := by
  obtain ⟨a, dx, vv, vh, h1, h2, h3, h4, h5⟩ := h
  exact ⟨h5, vok_of (.inr ⟨_, h3⟩)⟩
theorem ev_rm0 {C : Addr} {m : Str} {pre : Rpt → Prop} {f : Rpt → δ} (ha : EvX K F G σ ta r) (hC : r.C = C) (hm : NoR m) (hp : pre r) : EvX K F G σ (tMeth C m (Pu1 K pre f) [] E ta tNil) (f r) := fun H e g Q k =>
  ha H e g _ fun u F1 H1 s1 r1 => by
    obtain ⟨a, dx, vv, vh, rfl, h2, _⟩ := id r1
    subst hC
    exact ⟨a, dx, _, rfl, s1.fh _ _ h2, rfs_no hm vv vh, F1, r, _, rfl, s1.fh, r1, hp, fun u F2 H2 s2 r2 => k u F2 H2 (s1.trans s2) r2⟩
theorem en_rm0 {C : Addr} {m : Str} {pre : Rpt → Prop} {f : Rpt → List δ} (ha : EvX K F G σ ta r) (hC : r.C = C) (hm : NoR m) (hp : pre r) : EvN K F G σ (tMeth C m (PuL1 K pre f) [] E ta tNil) (f r) := fun H e g Q k =>
  ha H e g _ fun u F1 H1 s1 r1 => by
    obtain ⟨a, dx, vv, vh, rfl, h2, _⟩ := id r1
    subst hC
    exact ⟨a, dx, _, rfl, s1.fh _ _ h2, rfs_no hm vv vh, F1, r, _, rfl, s1.fh, r1, hp, fun p us F2 H2 s2 n0 n1 h2 r2 => k _ _ _ H2 (s1.trans s2) (Ex.dom s1.hh n0) n1 h2 r2⟩
theorem en_rm1 {C : Addr} {m : Str} {pre : Rpt → β → Prop} {f : Rpt → β → List δ} (ha : EvX K F G σ ta r) (hb : EvX K F G σ tb y) (hC : r.C = C) (hm : NoR m) (hp : pre r y) : EvN K F G σ (tMeth C m (PuL2 K pre f) [] E ta (tCons tb tNil)) (f r y) := fun H e g Q k =>
  ha H e g _ fun u F1 H1 s1 r1 => by
    obtain ⟨a, dx, vv, vh, rfl, h2, _⟩ := id r1
    subst hC
    refine ⟨a, dx, _, rfl, s1.fh _ _ h2, rfs_no hm vv vh, (hb.up s1.ff) H1 s1.fh (g.trans s1.hh) _ fun w F2 H2 s2 r2 => ?_⟩
    exact ⟨F2, r, y, _, w, rfl, s2.fh, Rep.mono s2.ff r1, r2, hp, fun p us F3 H3 s3 n0 n1 h3 r3 => k _ _ _ H3 ((s1.trans s2).trans s3) (Ex.dom (s1.hh.trans s2.hh) n0) n1 h3 r3⟩
theorem ev_rm2 {C : Addr} {m : Str} {pre : Rpt → β → γ → Prop} {f : Rpt → β → γ → δ} (ha : EvX K F G σ ta r) (hb : EvX K F G σ tb y) (hd : EvX K F G σ tc z) (hC : r.C = C) (hm : NoR m) (hp : pre r y z) : EvX K F G σ (tMeth C m (Pu3 K pre f) [] E ta (tCons tb (tCons tc tNil))) (f r y z) := fun H e g Q k =>
  ha H e g _ fun u F1 H1 s1 r1 => by
    obtain ⟨a, dx, vv, vh, rfl, h2, _⟩ := id r1
    subst hC
    refine ⟨a, dx, _, rfl, s1.fh _ _ h2, rfs_no hm vv vh, (hb.up s1.ff) H1 s1.fh (g.trans s1.hh) _ fun w F2 H2 s2 r2 => (hd.up (s1.ff.trans s2.ff)) H2 s2.fh ((g.trans s1.hh).trans s2.hh) _ fun t F3 H3 s3 r3 => ?_⟩
    exact ⟨F3, r, y, z, _, w, t, rfl, s3.fh, Rep.mono (s2.ff.trans s3.ff) r1, Rep.mono s3.ff r2, r3, hp, fun u F4 H4 s4 r4 => k u F4 H4 (((s1.trans s2).trans s3).trans s4) r4⟩
end
/-! reports made, told, taken back -/
def sp_rpt (K : PySem.W.Frag) (C : Addr) : Sp := fun vs H Q _ => ∃ (F H0 : Hp) (x dx : Addr) (w : V) (v : Vil), vs = [.ref x, w] ∧ Ex F H0 ∧ Stp F H0 F H ∧ H0 x = none ∧ H x = some (.ins C dx []) ∧ R K F w v ∧
  ∀ F' H', Stp F H0 F' H' → Folk K F' H' x ⟨C, v, []⟩ → Q .non H'
def sp_tell (K : PySem.W.Frag) (CR CV : Addr) : Sp := fun vs H Q _ => ∃ (F : Hp) (a : Addr) (r : Rpt) (x y : Int), vs = [.ref a, .int x, .int y] ∧ Ex F H ∧ Folk K F H a r ∧ r.C = CR ∧ r.v.C = CV ∧ Fits r.v ((x, y) :: r.rs) ∧
  ∀ F' H', StpM (fun b => b = a) F H F' H' → Folk K F' H' a ⟨r.C, r.v, tellL r.rs (x, y)⟩ → Q .non H'
def sp_back (K : PySem.W.Frag) (CR CV : Addr) : Sp := fun vs H Q _ => ∃ (F : Hp) (a : Addr) (r : Rpt) (x y : Int), vs = [.ref a, .int x, .int y] ∧ Ex F H ∧ Folk K F H a r ∧ r.C = CR ∧ r.v.C = CV ∧ (x, y) ∈ r.rs ∧
  ∀ F' H', StpM (fun b => b = a) F H F' H' → Folk K F' H' a ⟨r.C, r.v, r.rs.filter fun e => !decide (e = (x, y))⟩ → Q .non H'
section
variable {K : PySem.W.Frag} {F H : Hp} {σ : L2.St} {ta tb tc : TE} {E : XK} {r : Rpt} {a : Addr} {Q : VK}
theorem go_rpt {C : Addr} {v : Vil} (ha : EvX K F H σ ta v) (e : Ex F H) (ht : VOk v → Fits v []) (k : ∀ a F' H', Stp F H F' H' → H a = none → Folk K F' H' a ⟨C, v, []⟩ → Q (.ref a) H') : tMake C (sp_rpt K C) [] E (tCons ta tNil) σ H Q :=
  ha.go e fun w F1 H1 s1 r1 x dx hx hdx ne =>
    ⟨F1, H1, x, dx, w, v, rfl, s1.fh, ((Stp.refl s1.fh).own hdx).own (by rw [upd_ne (Ne.symm ne)]; exact hx), hx, upd_same, r1, fun F2 H2 s2 f2 => ⟨rfl, k x F2 H2 (s1.trans s2) (Ex.dom s1.hh hx) f2⟩⟩
theorem go_tell {i : Nat} {x y : Int} {CR CV : Addr} (hσ : σ[i]? = some (some (.ref a))) (f : Folk K F H a r) (e : Ex F H) (hC : r.C = CR) (hV : r.v.C = CV) (hx : EvX K F H σ tb x) (hy : EvX K F H σ tc y) (hf : Fits r.v ((x, y) :: r.rs))
    (k : ∀ F' H', StpM (fun b => b = a) F H F' H' → Folk K F' H' a ⟨r.C, r.v, tellL r.rs (x, y)⟩ → Q .non H') : tMeth CR "tell" (sp_tell K CR CV) [] E (tVar i) (tCons tb (tCons tc tNil)) σ H Q := by
  obtain ⟨h0, dx, vv, vh, h1, h2, h3, h4⟩ := id f
  subst hC
  refine ⟨_, hσ, a, dx, _, rfl, h1, rfs_no (by decide +kernel) vv vh, hx.go e fun u F1 H1 s1 r1 => (hy.up s1.ff) H1 s1.fh s1.hh _ fun w F2 H2 s2 r2 => ?_⟩
  cases r1; cases r2
  exact ⟨F2, a, r, x, y, rfl, s2.fh, (f.stp s1).stp s2, rfl, hV, hf, fun F3 H3 s3 f3 => k F3 H3 ((s1.trans s2).m.trans s3) f3⟩
theorem go_back {i : Nat} {x y : Int} {CR CV : Addr} (hσ : σ[i]? = some (some (.ref a))) (f : Folk K F H a r) (e : Ex F H) (hC : r.C = CR) (hV : r.v.C = CV) (hx : EvX K F H σ tb x) (hy : EvX K F H σ tc y) (hf : (x, y) ∈ r.rs)
    (k : ∀ F' H', StpM (fun b => b = a) F H F' H' → Folk K F' H' a ⟨r.C, r.v, r.rs.filter fun e => !decide (e = (x, y))⟩ → Q .non H') : tMeth CR "take_back" (sp_back K CR CV) [] E (tVar i) (tCons tb (tCons tc tNil)) σ H Q := by
  obtain ⟨h0, dx, vv, vh, h1, h2, h3, h4⟩ := id f
  subst hC
  refine ⟨_, hσ, a, dx, _, rfl, h1, rfs_no (by decide +kernel) vv vh, hx.go e fun u F1 H1 s1 r1 => (hy.up s1.ff) H1 s1.fh s1.hh _ fun w F2 H2 s2 r2 => ?_⟩
  cases r1; cases r2
  exact ⟨F2, a, r, x, y, rfl, s2.fh, (f.stp s1).stp s2, rfl, hV, hf, fun F3 H3 s3 f3 => k F3 H3 ((s1.trans s2).m.trans s3) f3⟩
end
theorem u_fld1 {K : PySem.W.Frag} {ta tv : TE} {f : Str} {D : Ends} {σ : L2.St} {H : Hp} (h : tv σ H fun y H1 => ta σ H1 fun x H2 => ∃ a C dx fs, x = .ref a ∧ H2 a = some (.ins C dx fs) ∧ Cls K C ∧ NoAttr K C f ∧ fs.length < 1000 ∧ D.nx σ (upd H2 a (.ins C dx (putF f y fs)))) : sFld K ta tv f D σ H := h
/-! where one may live -/
noncomputable def lets (r : Rpt) (x p : Int) : Bool := r.rs.all fun e => decide (dist r.v.es p e.2 ≤ dist r.v.es x e.1)
noncomputable def mayL (r : Rpt) (x : Int) : List Int := (rng r.v.n).filter (lets r x)
noncomputable def leastM (r : Rpt) (x : Int) : Int := maxL ([0] ++ r.rs.map fun e => dist r.v.es x e.2 - dist r.v.es x e.1)
noncomputable def nearH (v : Vil) (some : List Int) (t : Int) : Int := (minPL (some.map fun p => (dist v.es t p, p))).2
end L3

namespace L3
open PySem L2
open Evl (Ex ex_l ex_t fresh_back sz_of sz_lt ixN_nat)
open Rep (R)
open RepD (toD)
open Tr (adj hs IsTree TreeOn dist)
section
variable {K : PySem.W.Frag} {F : Hp} {σ : L2.St} {n : Int}
theorem em_linesJ {p : Addr} {jp : Nat} {E1 E2 : XK} (h0 : σ[jp]? = some (some (.ref p))) (hn : n ≤ 10 ^ 7) : EvM K (potS p) n (n + 1 + 1000) F σ
    (tCall (sp_drawn K) [] E1 (tCons (tVar jp) (tCons (tIx K (tLst (tCons (tC (.int 3)) (tCons (tC (.int 9)) (tCons (tC (.int 40)) tNil)))) (tCall sp_pdraw [] E2 (tCons (tVar jp) (tCons (tC (.int 3)) tNil)))) tNil))) (fun es : Tr.Roads => ∃ m, IsTree m es ∧ m ≤ 40) := by
  have h60 : (1000 : Int) ≤ 10 ^ 60 := by decide
  refine em_drawn h0 (em_ix (em_pure (ev_lst (xs := [(3 : Int), 9, 40]) (el_cons ev_int (el_cons ev_int (el_cons ev_int el_nil))) (by decide))) (fun _ _ => em_draw h0 draw_pot em_int (by omega) (fun i h => by subst h; omega)) fun xs i h ⟨j, hj, a, b⟩ => ?_) (by omega) fun i ⟨xs, j, e, ⟨z, hz, a, b⟩, hg⟩ => ?_
  · subst h hj
    exact ⟨a, b⟩
  · subst e hz
    rcases list3 a b hg with rfl | rfl | rfl <;> decide
theorem em_taleJ {p : Addr} {jp j1 : Nat} {w : V} {E1 : XK} {es : Tr.Roads} {k : Int} (h0 : σ[jp]? = some (some (.ref p))) (h1 : σ[j1]? = some (some w)) (r : R K F w (tab n (dist es))) (T : IsTree n es) (hn6 : n ≤ 60) (hk : k ≤ 2 * 10 ^ 8) :
    EvM K (potS p) k (k + 1000) F σ (tCall (sp_tale K) [] E1 (tCons (tVar jp) (tCons (tVar j1) tNil))) (fun l : List Int => Tale n es l) := fun F1 H e1 e2 i Q kk =>
  ⟨_, h0, _, h1, F1, p, k, n, es, w, rfl, e2, i, hk, Rep.mono e1 r, T, hn6, fun v F2 H2 st hS s2 i2 r2 => kk v st F2 H2 s2 i2 hS r2⟩
end
/-- reports of a tale, each house at most once -/
def Told (n : Int) (st : List Int) (l : List (Int × Int)) : Prop := (∀ e ∈ l, hs n e.1 ∧ stAt st e.1 = e.2) ∧ l.Nodup
def sp_heard (K : PySem.W.Frag) : Sp := fun vs H Q _ => ∃ (F : Hp) (p : Addr) (m n most : Int) (es : Tr.Roads) (st : List Int) (w : V), vs = [.ref p, w, .int most] ∧ Ex F H ∧ Pot F H p m ∧ m ≤ 2 * 10 ^ 8 ∧ R K F w st ∧ Tale n es st ∧ 0 < n ∧ n ≤ 60 ∧ 0 ≤ most ∧
  ∀ v F' H' (l : List (Int × Int)), Told n st l → StpM (potS p).M F H F' H' → Pot F' H' p (m + 100) → R K F' v l → Q v H'
theorem told_len {n : Int} {es : Tr.Roads} {st : List Int} {l : List (Int × Int)} (A : Tale n es st) (h : Told n st l) : l.length ≤ n.toNat :=
  fits_len (v := ⟨0, n, es⟩) ⟨st, A, h.1⟩ h.2
theorem told_map {n : Int} {st : List Int} {xs : List Int} (h : ∀ x ∈ xs, hs n x) (nd : xs.Nodup) : Told n st (xs.map fun x => (x, stAt st x)) :=
  ⟨fun e he => by
    obtain ⟨x, hx, rfl⟩ := List.mem_map.mp he
    exact ⟨h x hx, rfl⟩, List.pairwise_map.mpr (nd.imp fun h e => h (by injection e))⟩
theorem u_lcM {K : PySem.W.Frag} {tl : TE} {g : TG} {tt : TT} {te : TE} {vs : List Nat} {σ : L2.St} {H : Hp} {Q : VK} (h : tl σ H fun u H1 => tLc (iList K fun _ H Q => Q u H) g tt te vs σ H1 Q) : tLc (iList K tl) g tt te vs σ H Q := h
def sp_folk (K : PySem.W.Frag) (CR CV : Addr) : Sp := fun vs H Q _ => ∃ (F : Hp) (n : Int) (es : Tr.Roads) (st : List Int) (l : List (Int × Int)) (w u : V), vs = [w, u] ∧ Ex F H ∧ R K F w es ∧ R K F u l ∧ IsTree n es ∧ n ≤ 60 ∧ Tale n es st ∧ (∀ e ∈ l, hs n e.1 ∧ stAt st e.1 = e.2) ∧
  ∀ a F' H', Stp F H F' H' → H a = none → Folk K F' H' a ⟨CR, ⟨CV, n, held es⟩, l.foldl tellL []⟩ → Q (.ref a) H'
theorem go_folk {K : PySem.W.Frag} {F H : Hp} {σ : L2.St} {ta tb : TE} {E : XK} {CR CV : Addr} {n : Int} {es : Tr.Roads} {st : List Int} {l : List (Int × Int)} {Q : VK} (ha : EvX K F H σ ta es) (hb : EvX K F H σ tb l) (e : Ex F H) (T : IsTree n es) (hn : n ≤ 60) (A : Tale n es st) (hl : ∀ e ∈ l, hs n e.1 ∧ stAt st e.1 = e.2)
    (k : ∀ a F' H', Stp F H F' H' → H a = none → Folk K F' H' a ⟨CR, ⟨CV, n, held es⟩, l.foldl tellL []⟩ → Q (.ref a) H') : tCall (sp_folk K CR CV) [] E (tCons ta (tCons tb tNil)) σ H Q :=
  ha.go e fun w F1 H1 s1 r1 => (hb.up s1.ff) H1 s1.fh s1.hh _ fun u F2 H2 s2 r2 =>
    ⟨F2, n, es, st, l, w, u, rfl, s2.fh, Rep.mono s2.ff r1, r2, T, hn, A, hl, fun a F3 H3 s3 n3 f3 => k a F3 H3 ((s1.trans s2).trans s3) (Ex.dom (s1.hh.trans s2.hh) n3) f3⟩
theorem tale_fits {n : Int} {es : Tr.Roads} {st : List Int} {l : List (Int × Int)} {C : Addr} (A : Tale n es st) (h : ∀ e ∈ l, hs n e.1 ∧ stAt st e.1 = e.2) : Fits ⟨C, n, held es⟩ l := ⟨st, tale_held A, h⟩
theorem fold_mem : ∀ (l m : List (Int × Int)) {e : Int × Int}, e ∈ l.foldl tellL m ↔ e ∈ m ∨ e ∈ l
  | [], m, e => by simp
  | f :: l, m, e => by
    show e ∈ l.foldl tellL (tellL m f) ↔ _
    rw [fold_mem l, mem_tell, List.mem_cons]
    constructor
    · rintro ((h | h) | h)
      · exact .inl h
      · exact .inr (.inl h)
      · exact .inr (.inr h)
    · rintro (h | h | h)
      · exact .inl (.inl h)
      · exact .inl (.inr h)
      · exact .inr h
theorem fold_sort {l : List (Int × Int)} (h : l.Nodup) : l.foldl tellL [] = sortP l := by
  have := fold_tell l [] (by simpa using h)
  rwa [sortP_nil, List.nil_append] at this
/-! least moves, by the law's own -/
noncomputable def atL (es : Tr.Roads) (l : List (Int × Int)) (x : Int) : Int := maxL ([0] ++ l.map fun e => dist es x e.2 - dist es x e.1)
theorem maxL_mems {xs ys : List Int} (h0 : xs ≠ []) (h : ∀ z, z ∈ xs ↔ z ∈ ys) : maxL xs = maxL ys :=
  maxL_uniq ((h _).mp (maxL_mem h0)) fun z hz => le_maxL ((h z).mpr hz)
theorem atL_mems {es : Tr.Roads} {l m : List (Int × Int)} {x : Int} (h : ∀ e, e ∈ l ↔ e ∈ m) : atL es l x = atL es m x :=
  maxL_mems (by simp) fun z => by simp only [List.mem_append, List.mem_map, h]
theorem atL_held {es : Tr.Roads} {l : List (Int × Int)} {x : Int} : atL (held es) l x = atL es l x := by
  unfold atL
  congr 2
  exact List.map_congr_left fun e _ => by rw [dist_held, dist_held]
theorem atL_le {n : Int} {es : Tr.Roads} {st : List Int} {l : List (Int × Int)} {x : Int} (T : IsTree n es) (A : Tale n es st) (h : ∀ e ∈ l, hs n e.1 ∧ stAt st e.1 = e.2) (hx : hs n x) : atL es l x ≤ dist es x (stAt st x) := by
  have hm := maxL_mem (xs := [0] ++ l.map fun e => dist es x e.2 - dist es x e.1) (by simp)
  unfold atL
  rcases List.mem_append.mp hm with q | q
  · rw [List.mem_singleton.mp q]
    exact Tr.dist_nn T hx (A.hs hx)
  · obtain ⟨e, he, q⟩ := List.mem_map.mp q
    obtain ⟨h1, h2⟩ := h e he
    have a := tale_short T A hx h1
    have b := Tr.dist_tri T hx (A.hs hx) (A.hs h1)
    rw [h2] at a b
    rw [← q]
    omega
def sp_atL (K : PySem.W.Frag) : Sp := fun vs H Q _ => ∃ (F : Hp) (n x : Int) (es : Tr.Roads) (l : List (Int × Int)) (w u : V), vs = [w, u, .int x] ∧ Ex F H ∧ R K F w (tab n (dist es)) ∧ R K F u l ∧ hs n x ∧ l.length ≤ 1000 ∧ (∀ e ∈ l, hs n e.1 ∧ hs n e.2) ∧
  ∀ u F' H', Stp F H F' H' → R K F' u (atL es l x) → Q u H'
section
variable {K : PySem.W.Frag} {F G H : Hp} {σ : L2.St} {ta tb tc : TE} {E : XK}
theorem ev_atL {n x : Int} {es : Tr.Roads} {l : List (Int × Int)} (ha : EvX K F G σ ta (tab n (dist es))) (hb : EvX K F G σ tb l) (hc : EvX K F G σ tc x) (hx : hs n x) (hl : l.length ≤ 1000) (hr : ∀ e ∈ l, hs n e.1 ∧ hs n e.2) :
    EvX K F G σ (tCall (sp_atL K) [] E (tCons ta (tCons tb (tCons tc tNil)))) (atL es l x) := fun H e g Q k =>
  ha H e g _ fun w F1 H1 s1 r1 => (hb.up s1.ff) H1 s1.fh (g.trans s1.hh) _ fun u F2 H2 s2 r2 => (hc.up (s1.ff.trans s2.ff)) H2 s2.fh ((g.trans s1.hh).trans s2.hh) _ fun t F3 H3 s3 r3 => by
    cases r3
    exact ⟨F3, n, x, es, l, w, u, rfl, s3.fh, Rep.mono (s2.ff.trans s3.ff) r1, Rep.mono s3.ff r2, hx, hl, hr, fun u F4 H4 s4 r4 => k u F4 H4 (((s1.trans s2).trans s3).trans s4) r4⟩
theorem ev_least {r : Rpt} {CR CV : Addr} {x : Int} (ha : EvX K F G σ ta r) (hb : EvX K F G σ tb x) (hC : r.C = CR) (hV : r.v.C = CV) (hx : hs r.v.n x) :
    EvX K F G σ (tCall (Pu2 K (fun (r : Rpt) (x : Int) => r.C = CR ∧ r.v.C = CV ∧ hs r.v.n x) leastM) [] E (tCons ta (tCons tb tNil))) (leastM r x) := ev_call2 ha hb ⟨hC, hV, hx⟩
theorem ev_leastK {r : Rpt} {CR CV : Addr} {x : Int} (ha : EvX K F G σ ta r) (hb : EvX K F G σ tb x) (hC : r.C = CR) (hV : r.v.C = CV) (hx : hs r.v.n x) :
    EvX K F G σ (tCallKw (Pu2 K (fun (r : Rpt) (x : Int) => r.C = CR ∧ r.v.C = CV ∧ hs r.v.n x) leastM) 2 List.reverse E (tCons tb (tCons ta tNil))) (leastM r x) := ev_callK2 ha hb ⟨hC, hV, hx⟩
end
theorem erase_cut {α : Type} {l : List α} {i : Int} (h0 : 0 ≤ i) : cutX l none (some i) ++ cutX l (some (i + 1)) none = l.eraseIdx i.toNat := by
  obtain ⟨k, rfl⟩ := Int.eq_ofNat_of_zero_le h0
  unfold cutX
  rw [HT.sIx_none, HT.sIx_none, HT.sIx_nat, show ((k : Int) + 1) = ((k + 1 : Nat) : Int) by omega, HT.sIx_nat, List.eraseIdx_eq_take_drop_succ]
  simp only [List.drop_zero, Nat.sub_zero, Int.toNat_natCast]
  congr 1
  · by_cases h : k ≤ l.length
    · rw [Nat.min_eq_left h]
    · rw [Nat.min_eq_right (by omega), List.take_length, List.take_of_length_le (by omega)]
  · rw [List.take_of_length_le (by rw [List.length_drop]; exact Nat.le_refl _)]
    by_cases h : k + 1 ≤ l.length
    · rw [Nat.min_eq_left h]
    · rw [Nat.min_eq_right (by omega), List.drop_length, List.drop_eq_nil_of_le (by omega)]
theorem filter_erase {α : Type} [DecidableEq α] : ∀ {l : List α} {i : Nat} {e : α}, l.Nodup → l[i]? = some e → l.filter (fun f => !decide (f = e)) = l.eraseIdx i
  | [], _, _, _, h => by simp at h
  | a :: l, 0, e, nd, h => by
    simp at h
    subst h
    obtain ⟨h1, h2⟩ := List.nodup_cons.mp nd
    rw [List.filter_cons_of_neg (by simp), List.eraseIdx_cons_zero]
    exact List.filter_eq_self.mpr fun x hx => by
      have : x ≠ a := fun z => h1 (z ▸ hx)
      simp [this]
  | a :: l, i + 1, e, nd, h => by
    obtain ⟨h1, h2⟩ := List.nodup_cons.mp nd
    have hm : e ∈ l := List.mem_of_getElem? (by simpa using h)
    have : a ≠ e := fun z => h1 (z ▸ hm)
    rw [List.filter_cons_of_pos (by simp [this]), List.eraseIdx_cons_succ, filter_erase (i := i) h2 (by simpa using h)]
theorem sort_drop {l : List (Int × Int)} (nd : l.Nodup) {i : Nat} {e : Int × Int} (h : l[i]? = some e) : (sortP l).filter (fun f => !decide (f = e)) = sortP (l.eraseIdx i) := by
  refine sortP_uniq (((sortP_perm l).filter _).trans ?_) ((sortP_sorted l).filter _)
  rw [filter_erase nd h]
end L3

namespace L3
open PySem
open Tr (adj hs IsTree TreeOn dist)
/-! ### balls in trees -/
section
variable {n : Int} {es : Tr.Roads} (T : IsTree n es)
include T in
/-- once away, ever away -/
theorem walk_out {a c : Int} (ha : hs n a) (hc : hs n c) : ∀ (k : Nat) (p q : Int), adj es p q → dist es a q = dist es a p + 1 → dist es p c = dist es q c + 1 → dist es q c = (k : Int) → dist es a c = dist es a q + dist es q c
  | 0, p, q, ad, h1, h2, h3 => by
    obtain ⟨hp, hq⟩ := Tr.adj_hs T ad
    have e := Tr.dist_symm T hc hq
    have : q = c := (Tr.dist_zero T hc hq).mp (by omega)
    subst this
    omega
  | k + 1, p, q, ad, h1, h2, h3 => by
    obtain ⟨hp, hq⟩ := Tr.adj_hs T ad
    have hne : q ≠ c := fun z => by subst z; rw [Tr.dist_self T hq] at h3; omega
    obtain ⟨u, hu, au, hd⟩ := (Tr.dist_is T hc).back q hq hne
    have e1 := Tr.dist_symm T hc hq
    have e2 := Tr.dist_symm T hc hu
    have hau : dist es a u = dist es a q + 1 := by
      rcases dist_edge T ha au with z | z
      · have := parent_uniq T ha hp hu ad au h1.symm z.symm
        subst this
        omega
      · exact z
    have := walk_out ha hc k q u au.symm hau (by omega) (by omega)
    omega
include T in
/-- what lies between two is between one of them and any third -/
theorem between {a b p c : Int} (ha : hs n a) (hb : hs n b) (hp : hs n p) (hc : hs n c) (h : dist es a p + dist es p b = dist es a b) :
    dist es a p + dist es p c = dist es a c ∨ dist es b p + dist es p c = dist es b c := by
  by_cases q : p = c
  · subst q
    left
    rw [Tr.dist_self T hp]
    omega
  · obtain ⟨u, hu, au, hd⟩ := (Tr.dist_is T hc).back p hp q
    have e1 := Tr.dist_symm T hc hp
    have e2 := Tr.dist_symm T hc hu
    have h0 := Tr.dist_nn T hu hc
    rcases dist_edge T ha au with z | z
    · -- toward a
      right
      have e3 := Tr.dist_symm T hb hp
      have e4 := Tr.dist_symm T hb hu
      have t := Tr.dist_tri T ha hu hb
      rcases dist_edge T hb au with w | w
      · omega
      · have := walk_out T hb hc (dist es u c).toNat p u au.symm w (by omega) (by omega)
        omega
    · left
      have := walk_out T ha hc (dist es u c).toNat p u au.symm z (by omega) (by omega)
      omega
end
/-- how far a house is from the farthest of some balls -/
noncomputable def lackL (es : Tr.Roads) (l : List (Int × Int)) (t x : Int) : Int := maxL ([0] ++ l.map fun e => dist es t e.2 - dist es x e.1)
theorem lackL_mem (es : Tr.Roads) (l : List (Int × Int)) (t x : Int) : lackL es l t x = 0 ∨ ∃ e ∈ l, lackL es l t x = dist es t e.2 - dist es x e.1 := by
  have h := maxL_mem (xs := [0] ++ l.map fun e => dist es t e.2 - dist es x e.1) (by simp)
  rcases List.mem_append.mp h with q | q
  · exact .inl (List.mem_singleton.mp q)
  · obtain ⟨e, he, q⟩ := List.mem_map.mp q
    exact .inr ⟨e, he, q.symm⟩
theorem lackL_ge (es : Tr.Roads) (l : List (Int × Int)) (t x : Int) : 0 ≤ lackL es l t x ∧ ∀ e ∈ l, dist es t e.2 - dist es x e.1 ≤ lackL es l t x :=
  ⟨le_maxL (by simp), fun e he => le_maxL (List.mem_append_right _ (List.mem_map.mpr ⟨e, he, rfl⟩))⟩
theorem lackL_le {es : Tr.Roads} {l : List (Int × Int)} {t x d : Int} (h0 : 0 ≤ d) (h : ∀ e ∈ l, dist es t e.2 - dist es x e.1 ≤ d) : lackL es l t x ≤ d := by
  rcases lackL_mem es l t x with q | ⟨e, he, q⟩
  · omega
  · have := h e he
    omega
section
variable {n : Int} {es : Tr.Roads} (T : IsTree n es)
include T in
/-- balls that meet two by two have a house in common, as near as can be -/
theorem helly {cs : List (Int × Int)} (hc : ∀ c ∈ cs, hs n c.1 ∧ 0 ≤ c.2) (hp : ∀ c ∈ cs, ∀ d ∈ cs, dist es c.1 d.1 ≤ c.2 + d.2) {t D : Int} (ht : hs n t) (h0 : 0 ≤ D) (hD : ∀ c ∈ cs, dist es t c.1 - c.2 ≤ D) (hm : D = 0 ∨ ∃ c ∈ cs, D = dist es t c.1 - c.2) :
    ∃ p, hs n p ∧ dist es t p = D ∧ ∀ c ∈ cs, dist es p c.1 ≤ c.2 := by
  rcases hm with rfl | ⟨c, hcs, rfl⟩
  · exact ⟨t, ht, Tr.dist_self T ht, fun c h => by have := hD c h; omega⟩
  · obtain ⟨h1, h2⟩ := hc c hcs
    obtain ⟨w1, w2, w3⟩ := way_ok T ht h1 (dist es t c.1 - c.2).toNat (by omega)
    refine ⟨_, w1, by omega, fun d hd => ?_⟩
    obtain ⟨h3, h4⟩ := hc d hd
    have a := hD d hd
    have b := hp c hcs d hd
    have e := Tr.dist_symm T w1 h1
    rcases between T ht h1 w1 h3 (by omega) with z | z <;> omega
variable {l : List (Int × Int)} (F : ∃ st, Tale n es st ∧ ∀ e ∈ l, hs n e.1 ∧ stAt st e.1 = e.2)
include F in
theorem ft_rng {e : Int × Int} (he : e ∈ l) : hs n e.1 ∧ hs n e.2 := fits_rng (v := ⟨0, n, es⟩) F he
include T F in
theorem ft_far {e f : Int × Int} (he : e ∈ l) (hf : f ∈ l) : dist es e.2 f.2 ≤ dist es e.1 f.1 := fits_far (v := ⟨0, n, es⟩) T F he hf
/-- where one may live, by some reports -/
def MayP (n : Int) (es : Tr.Roads) (l : List (Int × Int)) (x p : Int) : Prop := hs n p ∧ ∀ e ∈ l, dist es p e.2 ≤ dist es x e.1
include T F in
theorem lack_at {x t : Int} (hx : hs n x) (ht : hs n t) (more : List (Int × Int)) (hm : ∀ c ∈ more, hs n c.1 ∧ 0 ≤ c.2 ∧ ∀ e ∈ l, dist es c.1 e.2 ≤ c.2 + dist es x e.1) (hmm : ∀ c ∈ more, ∀ d ∈ more, dist es c.1 d.1 ≤ c.2 + d.2) (hmt : ∀ c ∈ more, dist es t c.1 - c.2 ≤ lackL es l t x) :
    ∃ p, MayP n es l x p ∧ dist es t p = lackL es l t x ∧ ∀ c ∈ more, dist es p c.1 ≤ c.2 := by
  obtain ⟨g0, g1⟩ := lackL_ge es l t x
  have hl : ∀ c ∈ l.map fun e => (e.2, dist es x e.1), hs n c.1 ∧ 0 ≤ c.2 := fun c hc => by
    obtain ⟨e, he, rfl⟩ := List.mem_map.mp hc
    obtain ⟨a, b⟩ := ft_rng F he
    exact ⟨b, Tr.dist_nn T hx a⟩
  obtain ⟨p, h1, h2, h3⟩ := helly T (cs := (l.map fun e => (e.2, dist es x e.1)) ++ more) (fun c hc => by
      rcases List.mem_append.mp hc with q | q
      · exact hl c q
      · exact ⟨(hm c q).1, (hm c q).2.1⟩) (fun c hc d hd => by
      rcases List.mem_append.mp hc with q | q
      · obtain ⟨e, he, rfl⟩ := List.mem_map.mp q
        rcases List.mem_append.mp hd with w | w
        · obtain ⟨f, hf, rfl⟩ := List.mem_map.mp w
          have a := ft_far T F he hf
          have b := Tr.dist_tri T (ft_rng F he).1 hx (ft_rng F hf).1
          have e1 := Tr.dist_symm T hx (ft_rng F he).1
          show dist es e.2 f.2 ≤ dist es x e.1 + dist es x f.1
          omega
        · have := (hm d w).2.2 e he
          have e1 := Tr.dist_symm T (hm d w).1 (ft_rng F he).2
          show dist es e.2 d.1 ≤ dist es x e.1 + d.2
          omega
      · rcases List.mem_append.mp hd with w | w
        · obtain ⟨f, hf, rfl⟩ := List.mem_map.mp w
          exact (hm c q).2.2 f hf
        · exact hmm c q d w) ht g0 (fun c hc => by
      rcases List.mem_append.mp hc with q | q
      · obtain ⟨e, he, rfl⟩ := List.mem_map.mp q
        exact g1 e he
      · exact hmt c q) (by
      rcases lackL_mem es l t x with q | ⟨e, he, q⟩
      · exact .inl q
      · exact .inr ⟨(e.2, dist es x e.1), List.mem_append_left _ (List.mem_map.mpr ⟨e, he, rfl⟩), q⟩)
  exact ⟨p, ⟨h1, fun e he => h3 (e.2, dist es x e.1) (List.mem_append_left _ (List.mem_map.mpr ⟨e, he, rfl⟩))⟩, h2, fun c hc => h3 c (List.mem_append_right _ hc)⟩
include T F in
theorem may_far {x t p : Int} (hx : hs n x) (ht : hs n t) (h : MayP n es l x p) : lackL es l t x ≤ dist es t p :=
  lackL_le (Tr.dist_nn T ht h.1) fun e he => by
    have a := h.2 e he
    have b := Tr.dist_tri T ht h.1 (ft_rng F he).2
    omega
include T F in
theorem may_uniq {x t p q : Int} (hx : hs n x) (ht : hs n t) (hp : MayP n es l x p) (hq : MayP n es l x q) (h1 : dist es t p = lackL es l t x) (h2 : dist es t q = lackL es l t x) : p = q := by
  rcases lackL_mem es l t x with z | ⟨e, he, z⟩
  · rw [(Tr.dist_zero T ht hp.1).mp (by omega), (Tr.dist_zero T ht hq.1).mp (by omega)]
  · have hr := ft_rng F he
    have a := hp.2 e he
    have b := hq.2 e he
    have c := Tr.dist_tri T ht hp.1 hr.2
    have d := Tr.dist_tri T ht hq.1 hr.2
    have g := Tr.dist_nn T hx hr.1
    exact way_uniq T ht (dist es x e.1).toNat e.2 p q hr.2 hp.1 hq.1 (by omega) (by omega) (by omega) (by omega)
include T F in
theorem near_adj {x x' t t' p p' : Int} (ad : adj es x x') (ht : hs n t) (ht' : hs n t') (hp : MayP n es l x p) (hp' : MayP n es l x' p') (h1 : dist es t' p' = lackL es l t' x') (h2 : dist es t' p ≤ lackL es l t' x' + 1) : dist es p p' ≤ 1 := by
  obtain ⟨hx, hx'⟩ := Tr.adj_hs T ad
  have e1 := Tr.dist_adj_le T hx hx' ad
  obtain ⟨q, hq, q1, q2⟩ := lack_at T F hx' ht' [(p, 1)] (fun c hc => by
      rw [List.mem_singleton.mp hc]
      refine ⟨hp.1, by omega, fun e he => ?_⟩
      have a := hp.2 e he
      have b := Tr.dist_tri T hx hx' (ft_rng F he).1
      show dist es p e.2 ≤ 1 + dist es x' e.1
      omega) (fun c hc d hd => by
      rw [List.mem_singleton.mp hc, List.mem_singleton.mp hd]
      show dist es p p ≤ 1 + 1
      rw [Tr.dist_self T hp.1]
      omega) (fun c hc => by
      rw [List.mem_singleton.mp hc]
      show dist es t' p - 1 ≤ _
      omega)
  have := may_uniq T F hx' ht' hp' hq h1 q1
  subst this
  have := q2 (p, 1) (List.mem_singleton.mpr rfl)
  have e := Tr.dist_symm T hp.1 hp'.1
  simp only at this
  omega
include T F in
/-- each at a goal of its own: where they live -/
theorem lazy_adj {x x' p p' : Int} (ad : adj es x x') (hp : MayP n es l x p) (hp' : MayP n es l x' p') (h : dist es x p = lackL es l x x) (h1 : dist es x' p' = lackL es l x' x') : dist es p p' ≤ 1 := by
  obtain ⟨hx, hx'⟩ := Tr.adj_hs T ad
  refine near_adj T F ad hx hx' hp hp' h1 ?_
  have ea := (Tr.dist_one T hx hx').mpr ad
  have e1 := Tr.dist_symm T hp.1 hx
  have e2 := Tr.dist_symm T hp.1 hx'
  obtain ⟨g0, g1⟩ := lackL_ge es l x' x'
  rcases dist_edge T hp.1 ad with z | z
  · -- x' farther
    rcases lackL_mem es l x x with w | ⟨e, he, w⟩
    · omega
    · have hr := ft_rng F he
      have a := hp.2 e he
      have b := Tr.dist_tri T hx hp.1 hr.2
      have c := g1 e he
      have d := Tr.dist_tri T hx' hx hr.1
      have e3 := Tr.dist_symm T hx hx'
      rcases between T hx' hp.1 hx hr.2 (by omega) with v | v
      · omega
      · have := Tr.dist_nn T hx hp.1
        omega
  · rcases lackL_mem es l x x with w | ⟨e, he, w⟩
    · omega
    · have hr := ft_rng F he
      have c := g1 e he
      have d := Tr.dist_tri T hx hx' hr.2
      have e3 := Tr.dist_symm T hx hx'
      have f := Tr.dist_tri T hx' hx hr.1
      omega
include T F in
theorem goal_adj {x x' t p p' : Int} (ad : adj es x x') (ht : hs n t) (hp : MayP n es l x p) (hp' : MayP n es l x' p') (h : dist es t p = lackL es l t x) (h1 : dist es t p' = lackL es l t x') : dist es p p' ≤ 1 := by
  obtain ⟨hx, hx'⟩ := Tr.adj_hs T ad
  refine near_adj T F ad ht ht hp hp' h1 ?_
  have ea := (Tr.dist_one T hx hx').mpr ad
  obtain ⟨g0, g1⟩ := lackL_ge es l t x'
  rcases lackL_mem es l t x with w | ⟨e, he, w⟩
  · omega
  · have hr := ft_rng F he
    have c := g1 e he
    have f := Tr.dist_tri T hx' hx hr.1
    have e3 := Tr.dist_symm T hx hx'
    omega
include T F in
/-- who is reported lives there -/
theorem may_told {e : Int × Int} (he : e ∈ l) {p : Int} (hp : MayP n es l e.1 p) : p = e.2 := by
  have hr := ft_rng F he
  have a := hp.2 e he
  rw [Tr.dist_self T hr.1] at a
  have b := Tr.dist_nn T hp.1 hr.2
  have e1 := Tr.dist_symm T hp.1 hr.2
  exact (Tr.dist_zero T hr.2 hp.1).mp (by omega)
end
end L3

namespace L3
open PySem L2
open Evl (Ex ex_l ex_t fresh_back sz_of sz_lt ixN_nat)
open Rep (R)
open RepD (toD)
open Tr (adj hs IsTree TreeOn dist)
noncomputable def mayE (n : Int) (es : Tr.Roads) (l : List (Int × Int)) (x : Int) : List Int := (rng n).filter fun p => l.all fun e => decide (dist es p e.2 ≤ dist es x e.1)
noncomputable def nearE (es : Tr.Roads) (some : List Int) (t : Int) : Int := (minPL (some.map fun p => (dist es t p, p))).2
theorem mem_mayE {n : Int} {es : Tr.Roads} {l : List (Int × Int)} {x p : Int} : p ∈ mayE n es l x ↔ MayP n es l x p := by
  unfold mayE MayP
  rw [List.mem_filter, mem_rng, List.all_eq_true]
  constructor
  · rintro ⟨h1, h2⟩
    exact ⟨h1, fun e he => of_decide_eq_true (h2 e he)⟩
  · rintro ⟨h1, h2⟩
    exact ⟨h1, fun e he => decide_eq_true (h2 e he)⟩
theorem mayE_held {n : Int} {es : Tr.Roads} {l : List (Int × Int)} {x : Int} : mayE n (held es) l x = mayE n es l x := by
  unfold mayE
  congr 1
  funext p
  congr 1
  funext e
  rw [dist_held, dist_held]
theorem mayE_mems {n : Int} {es : Tr.Roads} {l m : List (Int × Int)} {x : Int} (h : ∀ e, e ∈ l ↔ e ∈ m) : mayE n es l x = mayE n es m x := by
  unfold mayE
  congr 1
  funext p
  rw [Bool.eq_iff_iff, List.all_eq_true, List.all_eq_true]
  exact ⟨fun q e he => q e ((h e).mpr he), fun q e he => q e ((h e).mp he)⟩
theorem nearE_held {es : Tr.Roads} {some : List Int} {t : Int} : nearE (held es) some t = nearE es some t := by
  unfold nearE
  congr 2
  exact List.map_congr_left fun p _ => by rw [dist_held]
theorem lackL_held {es : Tr.Roads} {l : List (Int × Int)} {t x : Int} : lackL (held es) l t x = lackL es l t x := by
  unfold lackL
  congr 2
  exact List.map_congr_left fun e _ => by rw [dist_held, dist_held]
theorem lackL_mems {es : Tr.Roads} {l m : List (Int × Int)} {t x : Int} (h : ∀ e, e ∈ l ↔ e ∈ m) : lackL es l t x = lackL es m t x :=
  maxL_mems (by simp) fun z => by simp only [List.mem_append, List.mem_map, h]
section
variable {n : Int} {es : Tr.Roads} (T : IsTree n es) {l : List (Int × Int)} (F : ∃ st, Tale n es st ∧ ∀ e ∈ l, hs n e.1 ∧ stAt st e.1 = e.2) {x t : Int} (hx : hs n x) (ht : hs n t)
include T F hx ht in
theorem mayE_ne : mayE n es l x ≠ [] := by
  obtain ⟨p, hp, _⟩ := lack_at T F hx ht [] (fun c hc => by cases hc) (fun c hc => by cases hc) (fun c hc => by cases hc)
  exact List.ne_nil_of_mem (mem_mayE.mpr hp)
include T F hx ht in
theorem near_ok : MayP n es l x (nearE es (mayE n es l x) t) ∧ dist es t (nearE es (mayE n es l x) t) = lackL es l t x := by
  obtain ⟨p, hp, p1, _⟩ := lack_at T F hx ht [] (fun c hc => by cases hc) (fun c hc => by cases hc) (fun c hc => by cases hc)
  have hne : ((mayE n es l x).map fun p => (dist es t p, p)) ≠ [] := fun z => mayE_ne T F hx ht (List.map_eq_nil_iff.mp z)
  obtain ⟨m1, m2⟩ := minPL_ok hne
  obtain ⟨q, hq, eq⟩ := List.mem_map.mp m1
  have e : nearE es (mayE n es l x) t = q := by unfold nearE; rw [← eq]
  have hq2 := mem_mayE.mp hq
  have h3 := m2 (dist es t p, p) (List.mem_map.mpr ⟨p, mem_mayE.mpr hp, rfl⟩)
  rw [← eq] at h3
  have h4 := may_far T F hx ht hq2
  rw [e]
  refine ⟨hq2, ?_⟩
  unfold leP at h3
  simp only at h3
  omega
end
/-- the laziest tale; the one nearest to a goal -/
noncomputable def lazyE (n : Int) (es : Tr.Roads) (l : List (Int × Int)) : List Int := (rng n).map fun x => nearE es (mayE n es l x) x
noncomputable def goalE (n : Int) (es : Tr.Roads) (l : List (Int × Int)) (t : Int) : List Int := (rng n).map fun x => nearE es (mayE n es l x) t
section
variable {n : Int} {es : Tr.Roads} (T : IsTree n es) {l : List (Int × Int)} (F : ∃ st, Tale n es st ∧ ∀ e ∈ l, hs n e.1 ∧ stAt st e.1 = e.2) {x t : Int}
include T F in
theorem lazy_tale : Tale n es (lazyE n es l) := tale_map T (fun x hx => (near_ok T F hx hx).1.1) fun x y a => by
  obtain ⟨hx, hy⟩ := Tr.adj_hs T a
  obtain ⟨a1, a2⟩ := near_ok T F hx hx
  obtain ⟨b1, b2⟩ := near_ok T F hy hy
  exact lazy_adj T F a a1 b1 a2 b2
include T F in
theorem goal_tale (ht : hs n t) : Tale n es (goalE n es l t) := tale_map T (fun x hx => (near_ok T F hx ht).1.1) fun x y a => by
  obtain ⟨hx, hy⟩ := Tr.adj_hs T a
  obtain ⟨a1, a2⟩ := near_ok T F hx ht
  obtain ⟨b1, b2⟩ := near_ok T F hy ht
  exact goal_adj T F a ht a1 b1 a2 b2
include T F in
theorem lazy_fits {e : Int × Int} (he : e ∈ l) : stAt (lazyE n es l) e.1 = e.2 := by
  have hr := ft_rng F he
  unfold lazyE
  rw [stAt_map hr.1]
  exact may_told T F he (near_ok T F hr.1 hr.1).1
include T F in
theorem goal_fits (ht : hs n t) {e : Int × Int} (he : e ∈ l) : stAt (goalE n es l t) e.1 = e.2 := by
  have hr := ft_rng F he
  unfold goalE
  rw [stAt_map hr.1]
  exact may_told T F he (near_ok T F hr.1 ht).1
end
theorem held_fits {n : Int} {es : Tr.Roads} {l : List (Int × Int)} (F : ∃ st, Tale n es st ∧ ∀ e ∈ l, hs n e.1 ∧ stAt st e.1 = e.2) : ∃ st, Tale n (held es) st ∧ ∀ e ∈ l, hs n e.1 ∧ stAt st e.1 = e.2 := by
  obtain ⟨st, A, h⟩ := F
  exact ⟨st, tale_held A, h⟩
/-! the law's own -/
def sp_live (K : PySem.W.Frag) : Sp := fun vs H Q _ => ∃ (F : Hp) (n x : Int) (es : Tr.Roads) (l : List (Int × Int)) (w u : V), vs = [w, u, .int x] ∧ Ex F H ∧ R K F w (tab n (dist es)) ∧ R K F u l ∧ IsTree n es ∧ n ≤ 60 ∧ hs n x ∧ l.length ≤ 1000 ∧ (∀ e ∈ l, hs n e.1 ∧ hs n e.2) ∧
  ∀ u F' H', Stp F H F' H' → R K F' u (mayE n es l x) → Q u H'
def sp_dueL (K : PySem.W.Frag) : Sp := fun vs H Q _ => ∃ (F : Hp) (n : Int) (es : Tr.Roads) (l : List (Int × Int)) (gs : List Int) (w u g : V), vs = [w, u, g] ∧ Ex F H ∧ R K F w (tab n (dist es)) ∧ R K F u l ∧ R K F g gs ∧ IsTree n es ∧ n ≤ 60 ∧ l.length ≤ 1000 ∧ (∃ st, Tale n es st ∧ ∀ e ∈ l, hs n e.1 ∧ stAt st e.1 = e.2) ∧ gs.length = n.toNat ∧ (∀ x ∈ gs, hs n x) ∧
  ∀ u F' H', Stp F H F' H' → R K F' u ((rng n).map fun x => nearE es (mayE n es l x) (stAt gs x)) → Q u H'
def sp_right4 (K : PySem.W.Frag) : Sp := fun vs H Q _ => ∃ (F : Hp) (n : Int) (es : Tr.Roads) (l : List (Int × Int)) (st : List Int) (w k u s : V), vs = [w, k, u, s] ∧ Ex F H ∧ R K F w (tab n (dist es)) ∧ R K F k es ∧ R K F u l ∧ R K F s st ∧ IsTree n es ∧ n ≤ 60 ∧ l.length ≤ 1000 ∧ Tale n es st ∧ (∀ e ∈ l, hs n e.1 ∧ stAt st e.1 = e.2) ∧
  ∀ F' H', Stp F H F' H' → Q (.bl true) H'
section
variable {K : PySem.W.Frag} {F G H : Hp} {σ : L2.St} {ta tb tc td : TE} {E : XK} {n x : Int} {es : Tr.Roads} {l : List (Int × Int)} {gs st : List Int}
theorem ev_live (ha : EvX K F G σ ta (tab n (dist es))) (hb : EvX K F G σ tb l) (hc : EvX K F G σ tc x) (T : IsTree n es) (hn : n ≤ 60) (hx : hs n x) (hl : l.length ≤ 1000) (hr : ∀ e ∈ l, hs n e.1 ∧ hs n e.2) :
    EvX K F G σ (tCall (sp_live K) [] E (tCons ta (tCons tb (tCons tc tNil)))) (mayE n es l x) := fun H e g Q k =>
  ha H e g _ fun w F1 H1 s1 r1 => (hb.up s1.ff) H1 s1.fh (g.trans s1.hh) _ fun u F2 H2 s2 r2 => (hc.up (s1.ff.trans s2.ff)) H2 s2.fh ((g.trans s1.hh).trans s2.hh) _ fun t F3 H3 s3 r3 => by
    cases r3
    exact ⟨F3, n, x, es, l, w, u, rfl, s3.fh, Rep.mono (s2.ff.trans s3.ff) r1, Rep.mono s3.ff r2, T, hn, hx, hl, hr, fun u F4 H4 s4 r4 => k u F4 H4 (((s1.trans s2).trans s3).trans s4) r4⟩
theorem ev_dueL (ha : EvX K F G σ ta (tab n (dist es))) (hb : EvX K F G σ tb l) (hc : EvX K F G σ tc gs) (T : IsTree n es) (hn : n ≤ 60) (hl : l.length ≤ 1000) (hf : ∃ st, Tale n es st ∧ ∀ e ∈ l, hs n e.1 ∧ stAt st e.1 = e.2) (hg : gs.length = n.toNat) (hgr : ∀ x ∈ gs, hs n x) :
    EvX K F G σ (tCall (sp_dueL K) [] E (tCons ta (tCons tb (tCons tc tNil)))) ((rng n).map fun x => nearE es (mayE n es l x) (stAt gs x)) := fun H e g Q k =>
  ha H e g _ fun w F1 H1 s1 r1 => (hb.up s1.ff) H1 s1.fh (g.trans s1.hh) _ fun u F2 H2 s2 r2 => (hc.up (s1.ff.trans s2.ff)) H2 s2.fh ((g.trans s1.hh).trans s2.hh) _ fun t F3 H3 s3 r3 =>
    ⟨F3, n, es, l, gs, w, u, t, rfl, s3.fh, Rep.mono (s2.ff.trans s3.ff) r1, Rep.mono s3.ff r2, r3, T, hn, hl, hf, hg, hgr, fun u F4 H4 s4 r4 => k u F4 H4 (((s1.trans s2).trans s3).trans s4) r4⟩
theorem ev_right4 (ha : EvX K F G σ ta (tab n (dist es))) (hb : EvX K F G σ tb es) (hc : EvX K F G σ tc l) (hd : EvX K F G σ td st) (T : IsTree n es) (hn : n ≤ 60) (hl : l.length ≤ 1000) (A : Tale n es st) (hf : ∀ e ∈ l, hs n e.1 ∧ stAt st e.1 = e.2) :
    EvX K F G σ (tCall (sp_right4 K) [] E (tCons ta (tCons tb (tCons tc (tCons td tNil))))) true := fun H e g Q k =>
  ha H e g _ fun w F1 H1 s1 r1 => (hb.up s1.ff) H1 s1.fh (g.trans s1.hh) _ fun u F2 H2 s2 r2 => (hc.up (s1.ff.trans s2.ff)) H2 s2.fh ((g.trans s1.hh).trans s2.hh) _ fun t F3 H3 s3 r3 =>
    (hd.up ((s1.ff.trans s2.ff).trans s3.ff)) H3 s3.fh (((g.trans s1.hh).trans s2.hh).trans s3.hh) _ fun s F4 H4 s4 r4 =>
    ⟨F4, n, es, l, st, w, u, t, s, rfl, s4.fh, Rep.mono (s2.ff.trans (s3.ff.trans s4.ff)) r1, Rep.mono (s3.ff.trans s4.ff) r2, Rep.mono s4.ff r3, r4, T, hn, hl, A, hf, fun F5 H5 s5 => k _ F5 H5 ((((s1.trans s2).trans s3).trans s4).trans s5) rfl⟩
end
end L3

namespace L3
open PySem L2
open Evl (Ex ex_l ex_t fresh_back sz_of sz_lt ixN_nat)
open Rep (R)
open RepD (toD)
open Tr (adj hs IsTree TreeOn dist)
section
variable {K : PySem.W.Frag} {F G H : Hp} {σ : L2.St} {ta tb tc : TE} {E : XK} {n m m1 m2 : Int} {es : Tr.Roads}
theorem em_heard {p : Addr} {j : Nat} (h0 : σ[j]? = some (some (.ref p))) (hb : EvM K (potS p) m m1 F σ tb (fun st : List Int => Tale n es st)) (hc : EvM K (potS p) m1 m2 F σ tc (fun z : Int => 0 ≤ z)) (hp : 0 < n) (hn : n ≤ 60) (hm : m2 ≤ 2 * 10 ^ 8) :
    EvM K (potS p) m (m2 + 100) F σ (tCall (sp_heard K) [] E (tCons (tVar j) (tCons tb (tCons tc tNil)))) (fun l : List (Int × Int) => ∃ st, Tale n es st ∧ Told n st l) := fun F1 H e1 e2 i Q k =>
  ⟨_, h0, hb F1 H e1 e2 i _ fun vs st F2 H2 s2 i2 hst rs => hc F2 H2 (e1.trans s2.ff) s2.fh i2 _ fun vm most F3 H3 s3 i3 hm0 rm => by
    cases rm
    exact ⟨F3, p, m2, n, most, es, st, vs, rfl, s3.fh, i3, hm, Rep.mono s3.ff rs, hst, hp, hn, hm0, fun v F4 H4 l hl s4 i4 r4 => k v l F4 H4 ((s2.trans s3).trans s4) i4 ⟨st, hst, hl⟩ r4⟩⟩
theorem em_440 {p : Addr} {j : Nat} {a b : Int} (h0 : σ[j]? = some (some (.ref p))) (ha : 0 ≤ a) (hb : 0 ≤ b) (hm : m ≤ 2 * 10 ^ 8) {E1 : XK} :
    EvM K (potS p) m (m + 1) F σ (tIx K (tLst (tCons (tC (.int a)) (tCons (tC (.int b)) tNil))) (tCall sp_pdraw [] E1 (tCons (tVar j) (tCons (tC (.int 2)) tNil)))) (fun z : Int => 0 ≤ z) := by
  refine EvM.imp (em_ix (em_pure (ev_lst (xs := [a, b]) (el_cons ev_int (el_cons ev_int el_nil)) (by simp))) (fun _ _ => em_draw h0 draw_pot em_int (by omega) (fun i h => by subst h; decide)) fun xs i q ⟨z, hz, c, d⟩ => ?_) fun x ⟨xs, i, q, _, hq⟩ => ?_
  · subst q hz
    exact ⟨c, d⟩
  · subst q
    have := List.mem_of_getElem? hq
    simp only [List.mem_cons, List.not_mem_nil, or_false] at this
    omega
end
theorem lazyE_eq {n : Int} {es : Tr.Roads} {l m : List (Int × Int)} (h : ∀ e, e ∈ l ↔ e ∈ m) : lazyE n (held es) l = lazyE n es m := by
  unfold lazyE
  refine List.map_congr_left fun x _ => ?_
  rw [nearE_held, mayE_held, mayE_mems h]
theorem goalE_eq {n : Int} {es : Tr.Roads} {l m : List (Int × Int)} {t : Int} (h : ∀ e, e ∈ l ↔ e ∈ m) : goalE n (held es) l t = goalE n es m t := by
  unfold goalE
  refine List.map_congr_left fun x _ => ?_
  rw [nearE_held, mayE_held, mayE_mems h]
theorem stAt_rng {n x : Int} (h : hs n x) : stAt (rng n) x = x := by
  have := stAt_map (g := fun x => x) h
  rwa [List.map_id'] at this
theorem stAt_rep {n x t : Int} (h : hs n x) : stAt (List.replicate n.toNat t) x = t := by
  unfold stAt
  rw [List.getD_eq_getElem?_getD, List.getElem?_replicate, if_pos (by have := h.1; have := h.2; omega)]
  rfl
end L3

namespace L3
open PySem L2
open Evl (Ex ex_l ex_t fresh_back sz_of sz_lt ixN_nat)
open Rep (R)
open RepD (toD)
open Tr (adj hs IsTree TreeOn dist)
def sp_lackL (K : PySem.W.Frag) : Sp := fun vs H Q _ => ∃ (F : Hp) (n t x : Int) (es : Tr.Roads) (l : List (Int × Int)) (w u : V), vs = [w, u, .int t, .int x] ∧ Ex F H ∧ R K F w (tab n (dist es)) ∧ R K F u l ∧ hs n t ∧ hs n x ∧ l.length ≤ 1000 ∧ (∀ e ∈ l, hs n e.1 ∧ hs n e.2) ∧
  ∀ u F' H', Stp F H F' H' → R K F' u (lackL es l t x) → Q u H'
section
variable {K : PySem.W.Frag} {F G H : Hp} {σ : L2.St} {ta tb tc td : TE} {E : XK}
theorem ev_lackL {n t x : Int} {es : Tr.Roads} {l : List (Int × Int)} (ha : EvX K F G σ ta (tab n (dist es))) (hb : EvX K F G σ tb l) (hc : EvX K F G σ tc t) (hd : EvX K F G σ td x) (ht : hs n t) (hx : hs n x) (hl : l.length ≤ 1000) (hr : ∀ e ∈ l, hs n e.1 ∧ hs n e.2) :
    EvX K F G σ (tCall (sp_lackL K) [] E (tCons ta (tCons tb (tCons tc (tCons td tNil))))) (lackL es l t x) := fun H e g Q k =>
  ha H e g _ fun w F1 H1 s1 r1 => (hb.up s1.ff) H1 s1.fh (g.trans s1.hh) _ fun u F2 H2 s2 r2 => (hc.up (s1.ff.trans s2.ff)) H2 s2.fh ((g.trans s1.hh).trans s2.hh) _ fun t' F3 H3 s3 r3 =>
    (hd.up ((s1.ff.trans s2.ff).trans s3.ff)) H3 s3.fh (((g.trans s1.hh).trans s2.hh).trans s3.hh) _ fun x' F4 H4 s4 r4 => by
    cases r3; cases r4
    exact ⟨F4, n, t, x, es, l, w, u, rfl, s4.fh, Rep.mono (s2.ff.trans (s3.ff.trans s4.ff)) r1, Rep.mono (s3.ff.trans s4.ff) r2, ht, hx, hl, hr, fun u F5 H5 s5 r5 => k u F5 H5 ((((s1.trans s2).trans s3).trans s4).trans s5) r5⟩
theorem en_goal {r : Rpt} {CR CV : Addr} {t : Int} (ha : EvX K F G σ ta r) (hb : EvX K F G σ tb t) (hC : r.C = CR) (hV : r.v.C = CV) (ht : hs r.v.n t) :
    EvN K F G σ (tCall (PuL2 K (fun (r : Rpt) (t : Int) => r.C = CR ∧ r.v.C = CV ∧ hs r.v.n t) (fun r t => goalE r.v.n r.v.es r.rs t)) [] E (tCons ta (tCons tb tNil))) (goalE r.v.n r.v.es r.rs t) := en_callL2 ha hb ⟨hC, hV, ht⟩
theorem en_goalK {r : Rpt} {CR CV : Addr} {t : Int} (ha : EvX K F G σ ta r) (hb : EvX K F G σ tb t) (hC : r.C = CR) (hV : r.v.C = CV) (ht : hs r.v.n t) :
    EvN K F G σ (tCallKw (PuL2 K (fun (r : Rpt) (t : Int) => r.C = CR ∧ r.v.C = CV ∧ hs r.v.n t) (fun r t => goalE r.v.n r.v.es r.rs t)) 2 List.reverse E (tCons tb (tCons ta tNil))) (goalE r.v.n r.v.es r.rs t) := en_callLK2 ha hb ⟨hC, hV, ht⟩
theorem en_lazy {r : Rpt} {CR CV : Addr} (ha : EvX K F G σ ta r) (hC : r.C = CR) (hV : r.v.C = CV) :
    EvN K F G σ (tCall (PuL1 K (fun (r : Rpt) => r.C = CR ∧ r.v.C = CV) (fun r => lazyE r.v.n r.v.es r.rs)) [] E (tCons ta tNil)) (lazyE r.v.n r.v.es r.rs) := en_callL1 ha ⟨hC, hV⟩
theorem en_reports {r : Rpt} {CR : Addr} (ha : EvX K F G σ ta r) (hC : r.C = CR) :
    EvN K F G σ (tMeth CR "reports" (PuL1 K (fun r : Rpt => r.C = CR) (fun r => r.rs)) [] E ta tNil) r.rs := en_rm0 ha hC (by decide +kernel) hC
end
theorem goal_nil {n : Int} {es : Tr.Roads} {t : Int} (T : IsTree n es) (ht : hs n t) : goalE n es [] t = List.replicate n.toNat t := by
  have F : ∃ st, Tale n es st ∧ ∀ e ∈ ([] : List (Int × Int)), hs n e.1 ∧ stAt st e.1 = e.2 := ⟨rng n, id_tale T, fun e he => by cases he⟩
  refine List.eq_replicate_iff.mpr ⟨by unfold goalE; rw [List.length_map, rng_len], fun q hq => ?_⟩
  obtain ⟨x, hx, rfl⟩ := List.mem_map.mp hq
  obtain ⟨h1, h2⟩ := near_ok T F (mem_rng.mp hx) ht
  have : lackL es [] t x = 0 := rfl
  rw [this] at h2
  exact (Tr.dist_zero T ht h1.1).mp h2
end L3

namespace L3
open PySem L2
open Evl (Ex ex_l ex_t fresh_back sz_of sz_lt ixN_nat)
open Rep (R)
open RepD (toD)
open Tr (adj hs IsTree TreeOn dist)
/-! ### tuples of three, of four lists -/
structure Q4 where
  a : List Int
  b : List Int
  c : List Int
  d : List Int
deriving DecidableEq
structure T3 where
  a : List Int
  b : List Int
  c : List Int
deriving DecidableEq
instance : Rep Q4 := ⟨fun K F u q => ∃ p v1 v2 v3 v4, u = .ref p ∧ F p = some (.tup [v1, v2, v3, v4]) ∧ R K F v1 q.a ∧ R K F v2 q.b ∧ R K F v3 q.c ∧ R K F v4 q.d,
  fun e ⟨p, v1, v2, v3, v4, h1, h2, h3, h4, h5, h6⟩ => ⟨p, v1, v2, v3, v4, h1, e _ _ h2, Rep.mono e h3, Rep.mono e h4, Rep.mono e h5, Rep.mono e h6⟩⟩
instance : Rep T3 := ⟨fun K F u q => ∃ p v1 v2 v3, u = .ref p ∧ F p = some (.tup [v1, v2, v3]) ∧ R K F v1 q.a ∧ R K F v2 q.b ∧ R K F v3 q.c,
  fun e ⟨p, v1, v2, v3, h1, h2, h3, h4, h5⟩ => ⟨p, v1, v2, v3, h1, e _ _ h2, Rep.mono e h3, Rep.mono e h4, Rep.mono e h5⟩⟩
instance : RepD Q4 := ⟨fun q => .tuple [toD q.a, toD q.b, toD q.c, toD q.d], fun ⟨p, v1, v2, v3, v4, h1, h2, h3, h4, h5, h6⟩ => by
    subst h1
    exact .tup (SqT.of h2) (.cons (RepD.dp h3) (.cons (RepD.dp h4) (.cons (RepD.dp h5) (.cons (RepD.dp h6) .nil)))), RepD.dep (List Int) + 1,
  fun q => by
    have h1 := RepD.dep_le q.a
    have h2 := RepD.dep_le q.b
    have h3 := RepD.dep_le q.c
    have h4 := RepD.dep_le q.d
    simp only [PyData.depth, PyData.depthAll]
    omega,
  fun x y => by
    obtain ⟨a, b, c, d⟩ := x
    obtain ⟨a', b', c', d'⟩ := y
    simp only [PyData.eqv, PyData.eqvAll, RepD.eqv, Bool.and_true, Q4.mk.injEq, Bool.decide_and]⟩
instance : RepD T3 := ⟨fun q => .tuple [toD q.a, toD q.b, toD q.c], fun ⟨p, v1, v2, v3, h1, h2, h3, h4, h5⟩ => by
    subst h1
    exact .tup (SqT.of h2) (.cons (RepD.dp h3) (.cons (RepD.dp h4) (.cons (RepD.dp h5) .nil))), RepD.dep (List Int) + 1,
  fun q => by
    have h1 := RepD.dep_le q.a
    have h2 := RepD.dep_le q.b
    have h3 := RepD.dep_le q.c
    simp only [PyData.depth, PyData.depthAll]
    omega,
  fun x y => by
    obtain ⟨a, b, c⟩ := x
    obtain ⟨a', b', c'⟩ := y
    simp only [PyData.eqv, PyData.eqvAll, RepD.eqv, Bool.and_true, T3.mk.injEq, Bool.decide_and]⟩
instance : Lay Q4 := ⟨fun q => by
  show (PyData.tuple [toD q.a, toD q.b, toD q.c, toD q.d]).canLay0 = true
  have h1 : (toD q.a).canLay0 = true := Lay.lay q.a
  have h2 : (toD q.b).canLay0 = true := Lay.lay q.b
  have h3 : (toD q.c).canLay0 = true := Lay.lay q.c
  have h4 : (toD q.d).canLay0 = true := Lay.lay q.d
  simp [PyData.canLay0, PyData.canLayAll0, h1, h2, h3, h4]⟩
instance : Lay T3 := ⟨fun q => by
  show (PyData.tuple [toD q.a, toD q.b, toD q.c]).canLay0 = true
  have h1 : (toD q.a).canLay0 = true := Lay.lay q.a
  have h2 : (toD q.b).canLay0 = true := Lay.lay q.b
  have h3 : (toD q.c).canLay0 = true := Lay.lay q.c
  simp [PyData.canLay0, PyData.canLayAll0, h1, h2, h3]⟩
section
variable {K : PySem.W.Frag} {F G H F' H' : Hp} {σ : L2.St} {ta tb tc td : TE} {E : XK}
theorem ev_q4 {x y z w : List Int} (ha : EvX K F G σ ta x) (hb : EvX K F G σ tb y) (hc : EvX K F G σ tc z) (hd : EvX K F G σ td w) : EvX K F G σ (tTup (tCons ta (tCons tb (tCons tc (tCons td tNil))))) (⟨x, y, z, w⟩ : Q4) := fun H e g Q k =>
  (el_cons ha (el_cons hb (el_cons hc (el_cons hd el_nil)))) H e g _ fun vs F1 H1 s1 r1 => ⟨by rw [r1.len]; exact sz_of (by simp), fun p hp => by
    have e1 : Ex F1 (upd F1 p (.tup vs)) := Ex.new (fresh_back s1.fh hp)
    cases r1 with
    | cons h1 r1 =>
      cases r1 with
      | cons h2 r1 =>
        cases r1 with
        | cons h3 r1 =>
          cases r1 with
          | cons h4 r1 =>
            cases r1
            exact k _ _ _ (s1.new hp) ⟨p, _, _, _, _, rfl, upd_same, Rep.mono e1 h1, Rep.mono e1 h2, Rep.mono e1 h3, Rep.mono e1 h4⟩⟩
theorem ev_t3 {x y z : List Int} (ha : EvX K F G σ ta x) (hb : EvX K F G σ tb y) (hc : EvX K F G σ tc z) : EvX K F G σ (tTup (tCons ta (tCons tb (tCons tc tNil)))) (⟨x, y, z⟩ : T3) := fun H e g Q k =>
  (el_cons ha (el_cons hb (el_cons hc el_nil))) H e g _ fun vs F1 H1 s1 r1 => ⟨by rw [r1.len]; exact sz_of (by simp), fun p hp => by
    have e1 : Ex F1 (upd F1 p (.tup vs)) := Ex.new (fresh_back s1.fh hp)
    cases r1 with
    | cons h1 r1 =>
      cases r1 with
      | cons h2 r1 =>
        cases r1 with
        | cons h3 r1 =>
          cases r1
          exact k _ _ _ (s1.new hp) ⟨p, _, _, _, rfl, upd_same, Rep.mono e1 h1, Rep.mono e1 h2, Rep.mono e1 h3⟩⟩
theorem ev_q0 {q : Q4} (ha : EvX K F G σ ta q) : EvX K F G σ (tIx K ta (tC (.int 0))) q.a :=
  EvX.or1 (ev_op ha (ev_int (i := 0)) fun F1 u w _ h1 h2 H1 e1 _ Q k => by
    obtain ⟨p, v1, v2, v3, v4, rfl, hs, h3, h4, h5, h6⟩ := h1
    exact .inr (.inl ⟨p, _, 0, v1, rfl, h2, SqT.of (e1 _ _ hs), rfl, k _ F1 H1 (Stp.refl e1) h3⟩))
theorem ev_q1 {q : Q4} (ha : EvX K F G σ ta q) : EvX K F G σ (tIx K ta (tC (.int 1))) q.b :=
  EvX.or1 (ev_op ha (ev_int (i := 1)) fun F1 u w _ h1 h2 H1 e1 _ Q k => by
    obtain ⟨p, v1, v2, v3, v4, rfl, hs, h3, h4, h5, h6⟩ := h1
    exact .inr (.inl ⟨p, _, 1, v2, rfl, h2, SqT.of (e1 _ _ hs), rfl, k _ F1 H1 (Stp.refl e1) h4⟩))
theorem ev_q2 {q : Q4} (ha : EvX K F G σ ta q) : EvX K F G σ (tIx K ta (tC (.int 2))) q.c :=
  EvX.or1 (ev_op ha (ev_int (i := 2)) fun F1 u w _ h1 h2 H1 e1 _ Q k => by
    obtain ⟨p, v1, v2, v3, v4, rfl, hs, h3, h4, h5, h6⟩ := h1
    exact .inr (.inl ⟨p, _, 2, v3, rfl, h2, SqT.of (e1 _ _ hs), rfl, k _ F1 H1 (Stp.refl e1) h5⟩))
theorem tgt_q4 {i j k l : Nat} {v : V} {q : Q4} {σ : L2.St} {F H : Hp} (r : R K F v q) (e : Ex F H) {Q : L2.St → Hp → Prop} (kk : ∀ v1 v2 v3 v4, R K F v1 q.a → R K F v2 q.b → R K F v3 q.c → R K F v4 q.d → Q ((((σ.set i (some v1)).set j (some v2)).set k (some v3)).set l (some v4)) H) :
    gTup K 4 (gCons (gName i) (gCons (gName j) (gCons (gName k) (gCons (gName l) gNil)))) v σ H Q := by
  obtain ⟨p, v1, v2, v3, v4, rfl, h2, h3, h4, h5, h6⟩ := r
  exact ⟨p, [v1, v2, v3, v4], rfl, SqT.of (e _ _ h2), rfl, v1, [v2, v3, v4], rfl, v2, [v3, v4], rfl, v3, [v4], rfl, v4, [], rfl, rfl, kk v1 v2 v3 v4 h3 h4 h5 h6⟩
/-- a new list of ints, made beside, is known from now on -/
theorem keep_ints {p : Addr} {xs : List Int} (e : Ex F H) (e2 : Ex H H') (hp : H p = none) (h : H' p = some (.lst (xs.map V.int))) : ∃ F2, Stp F H F2 H' ∧ R K F2 (.ref p) xs := by
  have s := (Stp.of_ex e e2).frz hp (fresh_back e hp) h
  exact ⟨_, s, p, _, rfl, upd_same, all2_ints.mpr rfl⟩
end
/-! what is told -/
noncomputable def told4 (n : Int) (es : Tr.Roads) (l : List (Int × Int)) (t : Int) : Q4 := ⟨(rng n).map fun x => atL es l x, (goalE n es l t).map fun q => dist es t q, lazyE n es l, goalE n es l t⟩
theorem told4_eq {n : Int} {es : Tr.Roads} {l m : List (Int × Int)} {t : Int} (h : ∀ e, e ∈ l ↔ e ∈ m) : told4 n es l t = told4 n es m t := by
  have h1 : goalE n es l t = goalE n es m t := by rw [← goalE_eq (l := l) (m := l) fun e => Iff.rfl, goalE_eq h]
  have h2 : lazyE n es l = lazyE n es m := by rw [← lazyE_eq (l := l) (m := l) fun e => Iff.rfl, lazyE_eq h]
  unfold told4
  rw [h1, h2]
  congr 1
  exact List.map_congr_left fun x _ => atL_mems h
def sp_told4 (K : PySem.W.Frag) (CR CV : Addr) : Sp := fun vs H Q _ => ∃ (F : Hp) (n t : Int) (es : Tr.Roads) (r : Rpt) (a : Addr) (w : V), vs = [.ref a, w, .int t] ∧ Ex F H ∧ Folk K F H a r ∧ r.C = CR ∧ r.v = ⟨CV, n, held es⟩ ∧ R K F w (tab n (dist es)) ∧ IsTree n es ∧ n ≤ 60 ∧ hs n t ∧
  ∀ u F' H', Stp F H F' H' → R K F' u (told4 n es r.rs t) → Q u H'
theorem go_told4 {K : PySem.W.Frag} {F H : Hp} {σ : L2.St} {tb tc : TE} {E : XK} {CR CV : Addr} {n t : Int} {es : Tr.Roads} {r : Rpt} {a : Addr} {i : Nat} {Q : VK} (hσ : σ[i]? = some (some (.ref a))) (f : Folk K F H a r) (e : Ex F H) (hC : r.C = CR) (hV : r.v = ⟨CV, n, held es⟩) (hb : EvX K F H σ tb (tab n (dist es))) (hc : EvX K F H σ tc t) (T : IsTree n es) (hn : n ≤ 60) (ht : hs n t)
    (k : ∀ u F' H', Stp F H F' H' → R K F' u (told4 n es r.rs t) → Q u H') : tCall (sp_told4 K CR CV) [] E (tCons (tVar i) (tCons tb (tCons tc tNil))) σ H Q :=
  ⟨_, hσ, hb.go e fun w F1 H1 s1 r1 => (hc.up s1.ff) H1 s1.fh s1.hh _ fun v F2 H2 s2 r2 => by
    cases r2
    exact ⟨F2, n, t, es, r, a, w, rfl, s2.fh, (f.stp s1).stp s2, hC, hV, Rep.mono s2.ff r1, T, hn, ht, fun u F3 H3 s3 r3 => k u F3 H3 ((s1.trans s2).trans s3) r3⟩⟩
def noLess (o q : Q4) : Bool := decide ((((o.a ++ o.b).zip (q.a ++ q.b)).filter fun p => decide (p.2 < p.1)) = [])
section
variable {n : Int} {es : Tr.Roads} (T : IsTree n es) {l m : List (Int × Int)} (F : ∃ st, Tale n es st ∧ ∀ e ∈ m, hs n e.1 ∧ stAt st e.1 = e.2) {t : Int} (ht : hs n t)
theorem atL_up {x : Int} (h : ∀ e ∈ l, e ∈ m) : atL es l x ≤ atL es m x := by
  have hm := maxL_mem (xs := [0] ++ l.map fun e => dist es x e.2 - dist es x e.1) (by simp)
  refine le_maxL ?_
  show atL es l x ∈ _
  unfold atL
  rcases List.mem_append.mp hm with q | q
  · exact List.mem_append_left _ q
  · obtain ⟨e, he, q⟩ := List.mem_map.mp q
    exact List.mem_append_right _ (List.mem_map.mpr ⟨e, h e he, q⟩)
theorem lackL_up {x : Int} (h : ∀ e ∈ l, e ∈ m) : lackL es l t x ≤ lackL es m t x := by
  obtain ⟨g0, g1⟩ := lackL_ge es m t x
  exact lackL_le g0 fun e he => g1 e (h e he)
include T F ht in
theorem told_more (h : ∀ e ∈ l, e ∈ m) : noLess (told4 n es l t) (told4 n es m t) = true := by
  have Fl : ∃ st, Tale n es st ∧ ∀ e ∈ l, hs n e.1 ∧ stAt st e.1 = e.2 := by
    obtain ⟨st, A, q⟩ := F
    exact ⟨st, A, fun e he => q e (h e he)⟩
  refine decide_eq_true (List.filter_eq_nil_iff.mpr fun p hp => ?_)
  have e1 : (goalE n es l t).map (fun q => dist es t q) = (rng n).map fun x => lackL es l t x := by
    unfold goalE
    rw [List.map_map]
    exact List.map_congr_left fun x hx => (near_ok T Fl (mem_rng.mp hx) ht).2
  have e2 : (goalE n es m t).map (fun q => dist es t q) = (rng n).map fun x => lackL es m t x := by
    unfold goalE
    rw [List.map_map]
    exact List.map_congr_left fun x hx => (near_ok T F (mem_rng.mp hx) ht).2
  have hz : p ∈ ((rng n).map fun x => (atL es l x, atL es m x)) ++ (rng n).map fun x => (lackL es l t x, lackL es m t x) := by
    have : (((told4 n es l t).a ++ (told4 n es l t).b).zip ((told4 n es m t).a ++ (told4 n es m t).b)) = ((rng n).map fun x => (atL es l x, atL es m x)) ++ (rng n).map fun x => (lackL es l t x, lackL es m t x) := by
      show (((rng n).map fun x => atL es l x) ++ (goalE n es l t).map fun q => dist es t q).zip (((rng n).map fun x => atL es m x) ++ (goalE n es m t).map fun q => dist es t q) = _
      rw [e1, e2, List.zip_append (by simp), List.zip_map', List.zip_map']
    rw [← this]
    exact hp
  rcases List.mem_append.mp hz with q | q
  · obtain ⟨x, _, rfl⟩ := List.mem_map.mp q
    have := atL_up (es := es) (x := x) h
    simp only [decide_eq_true_eq]
    omega
  · obtain ⟨x, _, rfl⟩ := List.mem_map.mp q
    have := lackL_up (es := es) (t := t) (x := x) h
    simp only [decide_eq_true_eq]
    omega
include T F in
/-- the laziest tale told wholly is the laziest, and the nearest one -/
theorem told_all (hl : ∀ e, e ∈ l ↔ e ∈ m ∨ ∃ x, hs n x ∧ e = (x, stAt (lazyE n es m) x)) (t' : Int) (ht' : hs n t') :
    (told4 n es l t').a = (told4 n es m t).a ∧ (told4 n es l t').c = lazyE n es m ∧ (told4 n es l t').d = lazyE n es m := by
  have A := lazy_tale T F
  have Fl : ∃ st, Tale n es st ∧ ∀ e ∈ l, hs n e.1 ∧ stAt st e.1 = e.2 := ⟨_, A, fun e he => by
    rcases (hl e).mp he with q | ⟨x, hx, rfl⟩
    · exact ⟨(ft_rng F q).1, lazy_fits T F q⟩
    · exact ⟨hx, rfl⟩⟩
  have at_ : ∀ x, hs n x → ∀ p, MayP n es l x p → p = stAt (lazyE n es m) x := fun x hx p hp => may_told T Fl (e := (x, stAt (lazyE n es m) x)) ((hl _).mpr (.inr ⟨x, hx, rfl⟩)) hp
  have lm : (rng n).map (stAt (lazyE n es m)) = lazyE n es m := (st_map A.len).symm
  refine ⟨List.map_congr_left fun x hx => ?_, ?_, ?_⟩
  · have hx := mem_rng.mp hx
    have h1 := (near_ok T F hx hx).2
    have h2 := near_ok T Fl hx hx
    have h3 := at_ x hx _ h2.1
    have h4 : stAt (lazyE n es m) x = nearE es (mayE n es m x) x := stAt_map hx
    show lackL es l x x = lackL es m x x
    rw [← h2.2, h3, h4, h1]
  · rw [← lm]
    exact List.map_congr_left fun x hx => at_ x (mem_rng.mp hx) _ (near_ok T Fl (mem_rng.mp hx) (mem_rng.mp hx)).1
  · rw [← lm]
    exact List.map_congr_left fun x hx => at_ x (mem_rng.mp hx) _ (near_ok T Fl (mem_rng.mp hx) ht').1
end
end L3

namespace L3
open PySem L2
open Evl (Ex ex_l ex_t fresh_back sz_of sz_lt ixN_nat)
open Rep (R)
open RepD (toD)
open Tr (adj hs IsTree TreeOn dist)
section
variable {K : PySem.W.Frag} {S : Src} {n m l : Int} {F G H F' H' F2 H2 : Hp} {σ : L2.St} {ta tb tc td te : TE} {E : XK} {D : Ends} {tu tw tz : TS} {M : Addr → Prop}
/-- ints and lists of them, told by what is known to stand now, are known from now on -/
theorem EvN.keep {xs : List Int} (h : EvN K G G σ te xs) : EvX K F G σ te xs := fun H e g Q k =>
  h H g g Q fun p us F' H' s n0 n1 h2 r => by
    have := all2_ints.mp r
    subst this
    obtain ⟨F2, s2, r2⟩ := keep_ints (K := K) e s.hh n0 h2
    exact k _ F2 H' s2 r2
theorem EvX.keepI {i : Int} (h : EvX K G G σ te i) : EvX K F G σ te i := fun H e g Q k =>
  h H g g Q fun v F' H' s r => by
    cases r
    exact k _ F H' (Stp.of_ex e s.hh) rfl
theorem StpM.new2 {k : Addr} (a : StpM M F H F' H') (b : StpM (fun x => x = k) F' H' F2 H2) (hk : H k = none) : StpM M F H F2 H2 :=
  ⟨a.ff.trans b.ff, b.fh, fun x o nm h => b.hh x o (fun z => by subst z; rw [hk] at h; cases h) (a.hh x o nm h), fun x h => a.dm x (b.dm x h), fun x o h => by
    obtain ⟨o', h'⟩ := some_of_ne (H := H') (a := x) fun z => by rw [a.dm x z] at h; cases h
    exact (b.nw x o' h').trans (a.nw x o h)⟩
theorem y_ifM {P : Bool → Prop} (h : EvM K S n m F σ te P) (e : Ex F H) (i : S.I n F H) (h1 : ∀ F' H', StpM S.M F H F' H' → S.I m F' H' → P true → tu D σ H') (h2 : ∀ F' H', StpM S.M F H F' H' → S.I m F' H' → P false → tw D σ H') : tIfS (tTest te) tu tw D σ H :=
  h.go e i fun v b F' H' s i' p r => ⟨b, r, by
    cases b with
    | true => exact h1 F' H' s i' p
    | false => exact h2 F' H' s i' p⟩
/-- new reports -/
def EvF (K : PySem.W.Frag) (F G : Hp) (σ : L2.St) (te : TE) (r : Rpt) : Prop :=
  ∀ H, Ex F H → Ex G H → ∀ Q : VK, (∀ a F' H', Stp F H F' H' → H a = none → Folk K F' H' a r → Q (.ref a) H') → te σ H Q
theorem ef_folk {CR CV : Addr} {n : Int} {es : Tr.Roads} {st : List Int} {l : List (Int × Int)} (ha : EvX K F G σ ta es) (hb : EvX K F G σ tb l) (T : IsTree n es) (hn : n ≤ 60) (A : Tale n es st) (hl : ∀ e ∈ l, hs n e.1 ∧ stAt st e.1 = e.2) :
    EvF K F G σ (tCall (sp_folk K CR CV) [] E (tCons ta (tCons tb tNil))) ⟨CR, ⟨CV, n, held es⟩, l.foldl tellL []⟩ := fun H e g Q k =>
  ha H e g _ fun w F1 H1 s1 r1 => (hb.up s1.ff) H1 s1.fh (g.trans s1.hh) _ fun u F2 H2 s2 r2 =>
    ⟨F2, n, es, st, l, w, u, rfl, s2.fh, Rep.mono s2.ff r1, r2, T, hn, A, hl, fun a F3 H3 s3 n3 f3 => k a F3 H3 ((s1.trans s2).trans s3) (Ex.dom (s1.hh.trans s2.hh) n3) f3⟩
theorem ev_told4F {CR CV : Addr} {n t : Int} {es : Tr.Roads} {r : Rpt} (ha : EvF K F G σ ta r) (hC : r.C = CR) (hV : r.v = ⟨CV, n, held es⟩) (hb : EvX K F G σ tb (tab n (dist es))) (hc : EvX K F G σ tc t) (T : IsTree n es) (hn : n ≤ 60) (ht : hs n t) :
    EvX K F G σ (tCall (sp_told4 K CR CV) [] E (tCons ta (tCons tb (tCons tc tNil)))) (told4 n es r.rs t) := fun H e g Q k =>
  ha H e g _ fun a F0 H0 s0 n0 f0 => (hb.up s0.ff) H0 s0.fh (g.trans s0.hh) _ fun w F1 H1 s1 r1 => (hc.up (s0.ff.trans s1.ff)) H1 s1.fh ((g.trans s0.hh).trans s1.hh) _ fun v F2 H2 s2 r2 => by
    cases r2
    exact ⟨F2, n, t, es, r, a, w, rfl, s2.fh, (f0.stp s1).stp s2, hC, hV, Rep.mono s2.ff r1, T, hn, ht, fun u F3 H3 s3 r3 => k u F3 H3 (((s0.trans s1).trans s2).trans s3) r3⟩
theorem Folk.up {a : Addr} {r : Rpt} (f : Folk K F G a r) (e : Ex G H) : Folk K F H a r := by
  obtain ⟨h0, dx, vv, vh, h1, h2, h3, h4⟩ := f
  exact ⟨h0, dx, vv, vh, e _ _ h1, h2, h3, h4⟩
theorem ev_told4 {CR CV : Addr} {n t : Int} {es : Tr.Roads} {r : Rpt} {a : Addr} {i : Nat} (hσ : σ[i]? = some (some (.ref a))) (f : Folk K F G a r) (hC : r.C = CR) (hV : r.v = ⟨CV, n, held es⟩) (hb : EvX K F G σ tb (tab n (dist es))) (hc : EvX K F G σ tc t) (T : IsTree n es) (hn : n ≤ 60) (ht : hs n t) :
    EvX K F G σ (tCall (sp_told4 K CR CV) [] E (tCons (tVar i) (tCons tb (tCons tc tNil)))) (told4 n es r.rs t) := fun H e g Q k =>
  ⟨_, hσ, hb H e g _ fun w F1 H1 s1 r1 => (hc.up s1.ff) H1 s1.fh (g.trans s1.hh) _ fun v F2 H2 s2 r2 => by
    cases r2
    exact ⟨F2, n, t, es, r, a, w, rfl, s2.fh, ((f.up g).stp s1).stp s2, hC, hV, Rep.mono s2.ff r1, T, hn, ht, fun u F3 H3 s3 r3 => k u F3 H3 ((s1.trans s2).trans s3) r3⟩⟩
end
theorem atI_last2 {α : Type} {l : List α} {x y : α} : atI (l ++ [x, y]) (-2) = some x := by
  unfold atI ixN
  have h : (l ++ [x, y]).length = l.length + 2 := by simp
  rw [if_neg (by decide), if_pos (by omega)]
  show (l ++ [x, y])[((-2 : Int) + (((l ++ [x, y]).length : Nat) : Int)).toNat]? = some x
  rw [show ((-2 : Int) + (((l ++ [x, y]).length : Nat) : Int)).toNat = l.length by omega]
  simp
/-- what was told behind so many -/
noncomputable def tolds (n : Int) (es : Tr.Roads) (l : List (Int × Int)) (t : Int) (i : Nat) : List Q4 := (List.range i).map fun j => told4 n es (sortP (l.take j)) t
theorem tolds_succ (n : Int) (es : Tr.Roads) (l : List (Int × Int)) (t : Int) (i : Nat) : tolds n es l t (i + 1) = tolds n es l t i ++ [told4 n es (sortP (l.take i)) t] := by
  unfold tolds
  rw [List.range_succ, List.map_append]; rfl
theorem tell_take {l : List (Int × Int)} (nd : l.Nodup) {i : Nat} {e : Int × Int} (h : l[i]? = some e) : tellL (sortP (l.take i)) e = sortP (l.take (i + 1)) := by
  have ht : l.take (i + 1) = l.take i ++ [e] := by rw [List.take_add_one, h]; rfl
  have hn : e ∉ l.take i := fun q => by
    have := nd.sublist (List.take_sublist (i + 1) l)
    rw [ht] at this
    exact (List.nodup_append.mp this).2.2 e q e (by simp) rfl
  unfold tellL
  rw [if_neg fun q => hn (mem_sortP.mp q), ht]
  exact sortP_perm_eq ((sortP_perm _).append_right [e])
theorem back_take {l : List (Int × Int)} (nd : l.Nodup) {i : Nat} {e : Int × Int} (h : l[i]? = some e) : (sortP (l.take (i + 1))).filter (fun f => !decide (f = e)) = sortP (l.take i) := by
  have hi := (List.getElem?_eq_some_iff.mp h).1
  have h2 : (l.take (i + 1))[i]? = some e := by rw [List.getElem?_take, if_pos (by omega)]; exact h
  rw [sort_drop (nd.sublist (List.take_sublist (i + 1) l)) h2]
  congr 1
  rw [List.take_add_one, h]
  show (l.take i ++ [e]).eraseIdx i = _
  rw [List.eraseIdx_append_of_length_le (by rw [List.length_take]; omega), List.length_take, Nat.min_eq_left (by omega), Nat.sub_self]
  simp
def sp_r22 (K : PySem.W.Frag) : Sp := fun vs H Q _ => ∃ (F : Hp) (p : Addr) (m n : Int) (es : Tr.Roads) (st : List Int) (l : List (Int × Int)) (lv w hv : V), vs = [.ref p, lv, w, hv] ∧ Ex F H ∧ Pot F H p m ∧ m ≤ 10 ^ 7 ∧ R K F lv es ∧ R K F w (tab n (dist es)) ∧ R K F hv l ∧ IsTree n es ∧ n ≤ 60 ∧ Tale n es st ∧ Told n st l ∧
  ∀ F' H', StpM (potS p).M F H F' H' → Q (.bl true) H'
end L3

/-! t[::k], a tuple of two, k 1 or -1 -/
namespace L3S
open PySem PySem.Spec PyProof.Rows HT
variable {prog : Program} {w : World} {A : Around} {s : Shared} {E : Value → Shared → Prop}
theorem sliceApplied_step {sl : Addr} {vl vu vs : Value} {k : Int} {n : Nat} {Q : Int × Int × Nat → Shared → Prop} (h0 : ¬ (k == 0) = true) (hs : s.heap.IsSliceOf sl vl vu vs) (pl : IsPart vl none) (pu : IsPart vu none) (ps : IsPart vs (some k))
    (h : Q ((Builtin.Slice.sliceAdjust none none k (n : Int)).1, k, Builtin.Slice.slicePlaces (Builtin.Slice.sliceAdjust none none k (n : Int)).1 (Builtin.Slice.sliceAdjust none none k (n : Int)).2 k) s) : wpAny (model prog w) A (Builtin.Slice.sliceApplied (.ref sl) (pure (n : Int))) Q E s := by
  obtain ⟨os, hos, hcs, hds⟩ := id hs
  unfold Builtin.Slice.sliceApplied Builtin.Slice.sliceFields
  refine wpAny_bind (wpAny_bind (wpAny_field hos hds (x := vl) rfl (wpAny_bind (wpAny_field hos hds (x := vu) rfl (wpAny_bind (wpAny_field hos hds (x := vs) rfl (wpAny_pure ?_)))))))
  refine wpAny_bind (slicePart_ ps ?_)
  show wpAny _ _ (if (k == 0) = true then _ else _) _ _ s
  rw [if_neg h0]
  refine wpAny_bind (slicePart_ pl (wpAny_bind (slicePart_ pu (wpAny_bind (wpAny_pure ?_)))))
  exact wpAny_pure h
theorem getItem_pair_step {t sl : Addr} {a b : Value} {vl vu vs : Value} {k : Int} {Q : Value → Shared → Prop} (ht : IsTup s.heap t #[a, b]) (hs : s.heap.IsSliceOf sl vl vu vs) (pl : IsPart vl none) (pu : IsPart vu none) (ps : IsPart vs (some k))
    (h : (k = 1 ∧ Q (.ref t) s) ∨ (k = -1 ∧ Q (.ref s.heap.objs.size) { s with heap := s.heap.push { cls := .type "tuple", data := .seq #[b, a] } })) : wpAny (model prog w) A (getItem (.ref t) (.ref sl)) Q E s := by
  obtain ⟨os, hos, hcs, hds⟩ := id hs
  have hTs : s.TypeIs (.ref sl) "slice" := ⟨os, hos, hcs⟩
  unfold getItem
  try with_reducible refine wpAny_holding ?_
  first | refine wpAny_bind (wpAny_pure ?_) | skip
  refine wpAny_bind (wpAny_sequenceKey ht.typeIs (by decide) ?_)
  refine wpAny_bind (wpAny_callSpecial?_slot (name := Str.ofString "__getitem__") ht.typeIs PyProof.Rows.slot_tuple_getitem
    (wpAny_call_entry PyProof.Rows.slot_tuple_getitem ht.typeIs entry_tuple_getitem ?_ (args_tuple_getitem _ _)))
  show wpAny _ _ (Builtin.Tuple.tupleItemsOf (.ref t) >>= _) _ _ s
  refine wpAny_bind (tupleItemsOf_ ht ?_)
  refine wpAny_bind (wpAny_typeOf hTs ?_)
  rw [if_pos (by decide)]
  rcases h with ⟨rfl, h⟩ | ⟨rfl, h⟩
  · refine wpAny_bind (sliceApplied_step (n := 2) (by decide) hs pl pu ps ?_)
    show wpAny _ _ (if ((0 : Int) == 0 && (1 : Int) == 1 && (2 : Nat) == 2) = true then _ else _) _ _ s
    rw [if_pos (by decide)]
    unfold Builtin.Tuple.tupleIsExact
    refine wpAny_bind (wpAny_bind (wpAny_typeOf ht.typeIs (wpAny_pure ?_)))
    rw [if_pos (by decide)]
    first
      | exact wpAny_bind (wpAny_rule (wpAny_pure ⟨_, rfl, wpAny_pure h⟩))
      | exact wpAny_bind (wpAny_rule (wpAny_bind (wpAny_pure (wpAny_pure ⟨_, rfl, wpAny_pure h⟩))))
      | exact wpAny_bind (wpAny_rule (wpAny_bind (wpAny_pure ⟨_, rfl, wpAny_pure h⟩)))
  · refine wpAny_bind (sliceApplied_step (n := 2) (by decide) hs pl pu ps ?_)
    show wpAny _ _ (if ((1 : Int) == 0 && (-1 : Int) == 1 && (2 : Nat) == 2) = true then _ else _) _ _ s
    rw [if_neg (by decide)]
    have e : ((List.range 2).filterMap fun (m : Nat) => (#[a, b] : Array Value)[((1 : Int) + (m : Int) * (-1)).toNat]?).toArray = #[b, a] := rfl
    have htake : sizeOk (.seq (#[b, a] : Array Value)) := by
      show 2 ≤ sizeLine
      decide
    show wpAny _ _ (Builtin.Tuple.tupleExact ((List.range 2).filterMap fun (m : Nat) => (#[a, b] : Array Value)[((1 : Int) + (m : Int) * (-1)).toNat]?).toArray >>= _) _ _ s
    rw [e]
    first
      | exact wpAny_bind (m := Builtin.Tuple.tupleExact _) (wpAny_newObj_type (wpAny_pure ⟨_, rfl, wpAny_pure h⟩) htake)
      | exact wpAny_bind (m := Builtin.Tuple.tupleExact _) (wpAny_newObj_type (wpAny_bind (wpAny_pure (wpAny_pure ⟨_, rfl, wpAny_pure h⟩))) htake)
      | exact wpAny_bind (wpAny_bind (m := Builtin.Tuple.tupleExact _) (wpAny_newObj_type (wpAny_pure (wpAny_pure ⟨_, rfl, wpAny_pure h⟩)) htake))
      | exact wpAny_bind (wpAny_bind (m := Builtin.Tuple.tupleExact _) (wpAny_newObj_type (wpAny_pure ⟨_, rfl, wpAny_pure h⟩) htake))
end L3S
namespace L2
open PySem PySem.Spec PyProof.Rows
section
variable {X : Cx}
def Step2 (K : PySem.W.Frag) (x : V) (Q : VK) : Option Int → Hp → Prop
  | some k, H => ∃ a u w, x = .ref a ∧ SqT K H a [u, w] ∧ ((k = 1 ∧ Q (.ref a) H) ∨ (k = -1 ∧ ∀ p, H p = none → Q (.ref p) (upd H p (.tup [w, u]))))
  | none, _ => False
def tStep2 (K : PySem.W.Frag) (te ts : TE) : TE := fun σ H Q => te σ H fun x H1 => ts σ H1 fun o H2 => ∃ k, o = .int k ∧ Step2 K x Q (some k) H2
theorem pe_step2 {e st : Expr} {te ts : TE} {p3 pos : Pos} (he : PE X e te) (hst : PE X st ts) :
    PE X (.Subscript e (.Slice none none (some st) p3) pos) (tStep2 X.K te ts) := by
  refine ⟨fun pins s σ H Q I h => ?_⟩
  refine Subscript_ (thn (he.run pins s σ H _ I h) fun v s1 ⟨x, H1, I1, r1, q1⟩ => ?_)
  refine wpAny_Slice (thn (po_none.run pins s1 σ H1 (fun o H2 => o = none ∧ H2 = H1) I1 ⟨rfl, rfl⟩) fun vl s2 ⟨l, H2, I2, pl, el, e2⟩ => ?_)
  subst el e2
  refine thn (po_none.run pins s2 σ H2 (fun o H3 => o = none ∧ H3 = H2) I2 ⟨rfl, rfl⟩) fun vu s3 ⟨u, H3, I3, pu, eu, e3⟩ => ?_
  subst eu e3
  refine thn ((po_some hst).run pins s3 σ H3 (Step2 X.K x Q) I3 q1) fun vs s4 ⟨o, H4, I4, ps, q⟩ => ?_
  cases o with
  | none => exact q.elim
  | some k =>
  obtain ⟨a, y, z, ex, hx, q⟩ := q
  subst ex
  cases r1
  have I5 : Inv X pins σ H4 { s4 with heap := s4.heap.push { cls := .type "slice", data := .fields #[vl, vu, vs] } } := I4.kept (t' := s4.toks) fun b ob q => Heap.get?_push_of_some _ q
  obtain ⟨its, r, ht, hz⟩ := I5.tuple hx
  obtain ⟨u1, u2, rfl, r1, r2⟩ := vals2 r
  show wpAny (model X.prog X.w) X.A (subscriptTail e (.Slice none none (some st) p3) (.ref a) (.ref s4.heap.objs.size)) (EP X pins σ Q) X.xe { s4 with heap := s4.heap.push { cls := .type "slice", data := .fields #[vl, vu, vs] } }
  refine tail_any (ops := [.ref a, .ref s4.heap.objs.size]) ht.typeIs (PyProof.Rows.slot_tuple_getitem.lookup) ?_ (by with_unfolding_all rfl)
  refine L3S.getItem_pair_step (a := u1) (b := u2) ht (Heap.IsSliceOf.new _ vl vu vs) pl pu ps ?_
  rcases q with ⟨rfl, q⟩ | ⟨rfl, q⟩
  · exact .inl ⟨rfl, ⟨.ref a, H4, I5, rfl, q⟩⟩
  · refine .inr ⟨rfl, ⟨.ref _, _, I5.laid (t' := s4.toks) (o := .tup [z, y]) (fun b ob q => Heap.get?_push_of_some _ q) (Nat.le_refl _) ?_, rfl, q _ (I5.hok.fresh (Nat.le_refl _))⟩⟩
    exact ⟨by show 2 ≤ sizeLine; decide, [u2, u1], .cons r2 (.cons r1 .nil), IsTup.new _ _⟩
theorem k_step2 {K : PySem.W.Frag} {e st : Expr} {te ts : TE} {p3 pos : Pos} (hK : X.K = K) (he : PE X e te) (hst : PE X st ts) : PE X (.Subscript e (.Slice none none (some st) p3) pos) (tStep2 K te ts) := hK ▸ pe_step2 he hst
end
end L2
namespace L3
open PySem L2 Evl PyProof.Rows
open Rep (R)
section
variable {K : PySem.W.Frag} {F G : Hp} {σ : L2.St} {te ts : TE}
/-- t[::k] of a tuple of two ints -/
theorem ev_step2 {x : Int × Int} {k : Int} (h1 : EvX K F G σ te x) (h2 : EvX K F G σ ts k) (hk : k = 1 ∨ k = -1) : EvX K F G σ (tStep2 K te ts) (if k = 1 then x else (x.2, x.1)) := fun H e g Q kk =>
  h1 H e g _ fun v F1 H1 s1 r1 => (h2.up s1.ff) H1 s1.fh (g.trans s1.hh) _ fun u F2 H2 s2 r2 => by
    cases r2
    obtain ⟨a, v1, v2, rfl, ha, q1, q2⟩ := r1
    have ha2 := s2.fh _ _ (s2.ff _ _ ha)
    refine ⟨k, rfl, a, v1, v2, rfl, SqT.of ha2, ?_⟩
    rcases hk with rfl | rfl
    · exact .inl ⟨rfl, kk _ F2 H2 (s1.trans s2) ⟨a, v1, v2, rfl, s2.ff _ _ ha, Rep.mono s2.ff q1, Rep.mono s2.ff q2⟩⟩
    · refine .inr ⟨rfl, fun p hp => kk _ (upd F2 p (.tup [v2, v1])) _ ((s1.trans s2).new hp) ?_⟩
      have e3 : Ex F2 (upd F2 p (.tup [v2, v1])) := Ex.new (fresh_back s2.fh hp)
      exact ⟨p, v2, v1, rfl, upd_same, Rep.mono (s2.ff.trans e3) q2, Rep.mono (s2.ff.trans e3) q1⟩
theorem ev_rev2 {x : Int × Int} (h1 : EvX K F G σ te x) : EvX K F G σ (tStep2 K te (tUn (rU fun i => .int (-i)) (tC (.int 1)))) (x.2, x.1) := ev_step2 h1 (ev_neg ev_int) (.inr rfl)
end
end L3

/-! the bag: a dict of four cells as a source of draws -/
namespace L3
open PySem L2
open Rep (R)
open RepD (toD)
open Evl (Ex ex_l ex_t fresh_back sz_of sz_lt ixN_nat)
def kGreat : Key := .inr "great"
def kLeft : Key := .inr "left"
def kTurn : Key := .inr "turn"
def kFold : Key := .inr "fold"
def bagK (g : Addr) (c t f : Int) : List (Key × V) := [(kGreat, .ref g), (kLeft, .int c), (kTurn, .int t), (kFold, .int f)]
theorem kgl : ¬ kGreat = kLeft := by decide +kernel
theorem kgt : ¬ kGreat = kTurn := by decide +kernel
theorem kgf : ¬ kGreat = kFold := by decide +kernel
theorem klt : ¬ kLeft = kTurn := by decide +kernel
theorem klf : ¬ kLeft = kFold := by decide +kernel
theorem ktf : ¬ kTurn = kFold := by decide +kernel
section
variable {g : Addr} {c t f x : Int}
theorem bk_g : valV (bagK g c t f) kGreat = some (.ref g) := valV_pos rfl
theorem bk_l : valV (bagK g c t f) kLeft = some (.int c) := (valV_neg kgl).trans (valV_pos rfl)
theorem bk_t : valV (bagK g c t f) kTurn = some (.int t) := (valV_neg kgt).trans ((valV_neg klt).trans (valV_pos rfl))
theorem bk_f : valV (bagK g c t f) kFold = some (.int f) := (valV_neg kgf).trans ((valV_neg klf).trans ((valV_neg ktf).trans (valV_pos rfl)))
theorem bk_pl : putK (bagK g c t f) kLeft (.int x) = bagK g x t f := by
  unfold putK bagK
  simp [kgl, klt, klf, Ne.symm kgl, Ne.symm klt, Ne.symm klf, eq_comm]
theorem bk_pt : putK (bagK g c t f) kTurn (.int x) = bagK g c x f := by
  unfold putK bagK
  simp [kgt, klt, ktf, Ne.symm kgt, Ne.symm klt, Ne.symm ktf, eq_comm]
theorem bk_new : mergeK [] (bagK g c t f) = bagK g c t f := by
  unfold mergeK bagK
  simp [putK, kgl, kgt, kgf, klt, klf, ktf, Ne.symm kgl, Ne.symm kgt, Ne.symm kgf, Ne.symm klt, Ne.symm klf, Ne.symm ktf]
end
/-- a bag at b, its great cells at g, n draws of its own behind it -/
def Bag (F H : Hp) (b g : Addr) (n : Int) : Prop := F b = none ∧ F g = none ∧ b ≠ g ∧ ∃ (ds : List Int) (c t f : Int),
  H b = some (.dK (bagK g c t f)) ∧ H g = some (.lst (ds.map V.int)) ∧ ds.length ≤ 1000 ∧ 0 ≤ f ∧ f < 2 ^ 62 ∧ 0 ≤ t ∧ t ≤ n
theorem Bag.stp {F H F' H' : Hp} {b g : Addr} {n : Int} (T : Bag F H b g n) (s : Stp F H F' H') : Bag F' H' b g n := by
  obtain ⟨f1, f2, ne, ds, c, t, f, h1, h2, r⟩ := T
  exact ⟨s.fno h1 f1, s.fno h2 f2, ne, ds, c, t, f, s.hh _ _ h1, s.hh _ _ h2, r⟩
theorem Bag.le {F H : Hp} {b g : Addr} {n m : Int} (T : Bag F H b g n) (h : n ≤ m) : Bag F H b g m := by
  obtain ⟨f1, f2, ne, ds, c, t, f, h1, h2, a1, a2, a3, a4, a5⟩ := T
  exact ⟨f1, f2, ne, ds, c, t, f, h1, h2, a1, a2, a3, a4, by omega⟩
def bagS (b g : Addr) : Src where
  M := TM b g
  I := fun n F H => Bag F H b g n
  stp := fun T s => T.stp s
  le := fun T h => T.le h
  no := fun {n F H a} T h => by
    obtain ⟨f1, f2, ne, ds, c, t, f, h1, h2, _⟩ := T
    rcases h with rfl | rfl
    · exact ⟨(by rw [h1]; exact fun z => by cases z), f1⟩
    · exact ⟨(by rw [h2]; exact fun z => by cases z), f2⟩
  upd_ok := fun {n F H a o u} T h _ _ => by
    obtain ⟨f1, f2, ne, ds, c, t, f, h1, h2, h3⟩ := T
    have n1 : b ≠ a := fun z => h (.inl z.symm)
    have n2 : g ≠ a := fun z => h (.inr z.symm)
    exact ⟨f1, f2, ne, ds, c, t, f, by rw [upd_ne n1]; exact h1, by rw [upd_ne n2]; exact h2, h3⟩
  dn := fun ⟨f1, f2, r⟩ e => ⟨fresh_back e f1, fresh_back e f2, r⟩
  frz := fun {n F H a o} ⟨f1, f2, r⟩ h => ⟨by rw [upd_ne (fun z => h (.inl z.symm))]; exact f1, by rw [upd_ne (fun z => h (.inr z.symm))]; exact f2, r⟩
def sp_bdraw : Sp := fun vs H Q E => ∃ b g, SpD (bagS b g) (.ref b) (10 ^ 9) vs H Q E
theorem draw_bag {b g : Addr} : ∀ vs H Q E, SpD (bagS b g) (.ref b) (10 ^ 9) vs H Q E → sp_bdraw vs H Q E := fun vs H Q E h => ⟨b, g, h⟩
def sp_bag (K : PySem.W.Frag) : Sp := fun vs H Q _ => ∃ (F : Hp) (sc : V) (s : Scr), vs = [sc] ∧ Ex F H ∧ R K F sc s ∧ s.ns.length ≤ 1000 ∧
  ∀ (b g : Addr) (H' : Hp), Stp F H F H' → H b = none → H g = none → Bag F H' b g 0 → Q (.ref b) H'
section
variable {K : PySem.W.Frag} {F G H : Hp} {σ : L2.St} {α : Type} [Rep α] {x : α}
/-- b[k], b a dict that changes -/
theorem ev_dcell {i : Nat} {b : Addr} {kvs : List (Key × V)} {k : Str} {v : V} (hs : σ[i]? = some (some (.ref b))) (h : G b = some (.dK kvs)) (hv : valV kvs (.inr k) = some v) (r : R K F v x) : EvX K F G σ (tIx K (tVar i) (tC (.str k))) x := fun H e g Q kk =>
  .inr ⟨_, hs, b, v, rfl, .inl ⟨kvs, .inr k, .inl (g _ _ h), rfl, hv.symm⟩, kk _ F H (Stp.refl e) r⟩
end
end L3

/-! sorted and min of lists of (int, (int, int)) -/
namespace L3
open PySem L2
open Evl (Ex ex_l ex_t fresh_back sz_of sz_lt ixN_nat)
open Rep (R)
open RepD (toD)
abbrev I3 := Int × (Int × Int)
def ltT (p q : I3) : Prop := p.1 < q.1 ∨ (p.1 = q.1 ∧ ltPB p.2 q.2)
instance (p q : I3) : Decidable (ltT p q) := by unfold ltT; infer_instance
def leT (p q : I3) : Prop := ¬ ltT q p
instance (p q : I3) : Decidable (leT p q) := by unfold leT; infer_instance
theorem leT_tr {a b c : I3} (h1 : leT a b) (h2 : leT b c) : leT a c := by unfold leT ltT ltPB at *; omega
theorem leT_total (a b : I3) : leT a b ∨ leT b a := by unfold leT ltT ltPB; omega
theorem leT_anti {a b : I3} (h1 : leT a b) (h2 : leT b a) : a = b := by
  unfold leT ltT ltPB at *
  have h3 : a.1 = b.1 := by omega
  have h4 : a.2.1 = b.2.1 := by omega
  have h5 : a.2.2 = b.2.2 := by omega
  exact Prod.ext h3 (Prod.ext h4 h5)
theorem leT_fst {a b : I3} (h : leT a b) : a.1 ≤ b.1 := by unfold leT ltT at h; omega
theorem lt_trip (p q : I3) : PySem.W.dataLt (toD p) (toD q) = decide (ltT p q) := by
  obtain ⟨a, b, c⟩ := p
  obtain ⟨x, y, z⟩ := q
  show PySem.W.dataLt (.tuple [.int a, .tuple [.int b, .int c]]) (.tuple [.int x, .tuple [.int y, .int z]]) = _
  rw [PySem.W.dataLt_tuple]
  by_cases h : a = x
  · subst h
    rw [PySem.W.dataLt_all_yes (by simp [PySem.W.alike]) (by simp [PyData.eqv])]
    by_cases g : b = y ∧ c = z
    · obtain ⟨rfl, rfl⟩ := g
      rw [PySem.W.dataLt_all_yes (by simp [PySem.W.alike, PySem.W.alikeAll]) (by simp [PyData.eqv, PyData.eqvAll])]
      rw [decide_eq_false (by unfold ltT ltPB; omega)]
      decide +kernel
    · rw [PySem.W.dataLt_all_no (by simp [PySem.W.alike, PySem.W.alikeAll]) (by simp [PyData.eqv, PyData.eqvAll]; omega), lt_pair]
      exact decide_eq_decide.mpr (by unfold ltT ltPB; simp)
  · rw [PySem.W.dataLt_all_no (by simp [PySem.W.alike]) (by simp [PyData.eqv, h]), PySem.W.dataLt_int]
    exact decide_eq_decide.mpr (by unfold ltT; simp; omega)
def sortT (xs : List I3) : List I3 := xs.mergeSort (fun a b => decide (leT a b))
theorem sortT_perm (xs : List I3) : (sortT xs).Perm xs := List.mergeSort_perm _ _
theorem sortT_sorted (xs : List I3) : (sortT xs).Pairwise leT := by
  have h := List.pairwise_mergeSort (le := fun a b : I3 => decide (leT a b)) (fun a b c h1 h2 => decide_eq_true (leT_tr (of_decide_eq_true h1) (of_decide_eq_true h2))) (fun a b => by
    rcases leT_total a b with q | q <;> simp [q]) xs
  exact h.imp fun q => of_decide_eq_true q
theorem mem_sortT {xs : List I3} {x : I3} : x ∈ sortT xs ↔ x ∈ xs := (sortT_perm xs).mem_iff
theorem dle_trip : (PySem.W.dataLe false (toD : I3 → PyData)) = fun a b => decide (leT a b) := by
  funext a b
  show (!PySem.W.dataLt (toD b) (toD a)) = _
  rw [lt_trip]
  unfold leT
  by_cases h : ltT b a <;> simp [h]
/-- the least -/
def minT (xs : List I3) : I3 := (sortT xs).headD (0, 0, 0)
theorem minT_ok {xs : List I3} (h : xs ≠ []) : minT xs ∈ xs ∧ ∀ y ∈ xs, leT (minT xs) y := by
  have hs := sortT_sorted xs
  have hp := sortT_perm xs
  unfold minT
  cases e : sortT xs with
  | nil =>
    rw [e] at hp
    exact absurd hp.nil_eq.symm h
  | cons a l =>
    rw [e] at hs hp
    refine ⟨hp.mem_iff.mp List.mem_cons_self, fun y hy => ?_⟩
    rcases List.mem_cons.mp (hp.mem_iff.mpr hy) with rfl | q
    · rcases leT_total y y with q | q <;> exact q
    · exact (List.pairwise_cons.mp hs).1 y q
theorem minT_is {xs : List I3} {p : I3} (h1 : p ∈ xs) (h2 : ∀ y ∈ xs, leT p y) : minT xs = p := by
  obtain ⟨a, b⟩ := minT_ok (List.ne_nil_of_mem h1)
  exact leT_anti (b p h1) (h2 _ a)
theorem minT_mems {xs ys : List I3} (h : ∀ x, x ∈ xs ↔ x ∈ ys) (hne : xs ≠ []) : minT xs = minT ys := by
  have hy : ys ≠ [] := by
    obtain ⟨a, ha⟩ := List.exists_mem_of_ne_nil _ hne
    exact List.ne_nil_of_mem ((h a).mp ha)
  obtain ⟨a, b⟩ := minT_ok hy
  exact minT_is ((h _).mpr a) fun y q => b y ((h y).mp q)
def minFT (p : I3) (ps : List I3) : I3 := ps.foldl (fun a y => if ltT y a then y else a) p
theorem minD_trips : ∀ (ps : List I3) (p : I3), PySem.W.minD (toD p) (ps.map toD) = toD (minFT p ps)
  | [], p => rfl
  | y :: ps, p => by
    have h := lt_trip y p
    show PySem.W.minD (if PySem.W.dataLt (toD y) (toD p) = true then toD y else toD p) (ps.map toD) = toD (minFT (if ltT y p then y else p) ps)
    rw [h]
    by_cases q : ltT y p
    · rw [decide_eq_true q, if_pos rfl, if_pos q]
      exact minD_trips ps y
    · rw [decide_eq_false q, if_neg (by decide), if_neg q]
      exact minD_trips ps p
theorem minFT_ok : ∀ (ps : List I3) (p : I3), minFT p ps ∈ p :: ps ∧ ∀ y ∈ p :: ps, leT (minFT p ps) y
  | [], p => ⟨List.mem_cons_self, fun y hy => by
      rw [List.mem_singleton.mp hy]
      rcases leT_total p p with q | q <;> exact q⟩
  | z :: ps, p => by
    obtain ⟨h1, h2⟩ := minFT_ok ps (if ltT z p then z else p)
    show minFT (if ltT z p then z else p) ps ∈ _ ∧ ∀ y ∈ _, leT (minFT (if ltT z p then z else p) ps) y
    have h3 := h2 _ List.mem_cons_self
    refine ⟨?_, fun y hy => ?_⟩
    · rcases List.mem_cons.mp h1 with q | q
      · rw [q]
        by_cases g : ltT z p
        · rw [if_pos g]; simp
        · rw [if_neg g]; simp
      · exact List.mem_cons_of_mem _ (List.mem_cons_of_mem _ q)
    · have key : leT (if ltT z p then z else p) p ∧ leT (if ltT z p then z else p) z := by
        by_cases g : ltT z p
        · rw [if_pos g]
          unfold leT ltT ltPB at *
          omega
        · rw [if_neg g]
          unfold leT ltT ltPB at *
          omega
      rcases List.mem_cons.mp hy with rfl | hy
      · exact leT_tr h3 key.1
      · rcases List.mem_cons.mp hy with rfl | hy
        · exact leT_tr h3 key.2
        · exact h2 y (List.mem_cons_of_mem _ hy)
theorem trip_alike (p q : I3) : PySem.W.alike (toD p) (toD q) = true := by
  obtain ⟨a, b, c⟩ := p
  obtain ⟨x, y, z⟩ := q
  show PySem.W.alike (.tuple [.int a, .tuple [.int b, .int c]]) (.tuple [.int x, .tuple [.int y, .int z]]) = true
  simp [PySem.W.alike, PySem.W.alikeAll]
section
variable {X : Cx}
def rSortT3 (K : PySem.W.Frag) : List V → Hp → VK → Prop := fun vs H Q => ∃ (F : Hp) (a : Addr) (us : List V) (xs : List I3), vs = [.ref a] ∧ Ex F H ∧ SqL K H a us ∧ All2 (R K F) us xs ∧
  ∀ ys p, All2 (R K F) ys (sortT xs) → H p = none → Q (.ref p) (upd H p (.lst ys))
theorem eachIs_all2 {K : PySem.W.Frag} {H : Hp} : ∀ {us : List V} {xs : List I3} {vs : List Value}, All2 (R K H) us xs → Vals us vs → PySem.W.EachIs (fun v b => ∃ x : V, RelV x v ∧ R K H x b) vs xs
  | _, _, _, .nil, r => by cases r; exact .nil
  | _, _, _, .cons h t, r => by
    cases r with
    | cons q r => exact .cons ⟨_, q, h⟩ (eachIs_all2 t r)
theorem all2_eachIs {K : PySem.W.Frag} {H : Hp} : ∀ {out : List Value} {xs : List I3}, PySem.W.EachIs (fun v b => ∃ x : V, RelV x v ∧ R K H x b) out xs → ∃ us, All2 (R K H) us xs ∧ Vals us out
  | _, _, .nil => ⟨[], .nil, .nil⟩
  | _, _, .cons ⟨x, h, r⟩ t => by
    obtain ⟨us, a, b⟩ := all2_eachIs t
    exact ⟨x :: us, .cons r a, .cons h b⟩
theorem readsEach {h : Heap} : ∀ {vs : List Value} {xs : List I3} {as : List Addr}, ReadsAll h vs (xs.map toD) as → PySem.W.EachIs (fun v b => ∃ as, Reads h v (toD b) as) vs xs
  | _, [], _, r => by cases r; exact .nil
  | _, x :: xs, _, r => by
    cases r with
    | cons r1 r2 => exact .cons ⟨_, r1⟩ (readsEach r2)
theorem cr_sortT3 {k : Nat} (hr : Room k X.A) : CallR X (.builtin "sorted") (rSortT3 X.K) := by
  intro pins s σ H vs us Q I r h
  obtain ⟨F, a, zs, xs, rfl, hF, hs, hx, q⟩ := h
  obtain ⟨its, rv, hl, hz⟩ := I.list hs
  rw [Vals.ref1 r]
  have hd := dpAll_of (hx.imp fun _ _ => Rep.mono (K := X.K) (α := I3) hF)
  obtain ⟨as, ra⟩ := Dp.readsAll I _ _ its hd rv
  have hxl : xs.length ≤ sizeLine := by rw [← hx.len]; exact hz
  refine PySem.W.sorted_data (R := fun v b => ∃ x : V, RelV x v ∧ R X.K F x b) (enc := (toD : I3 → PyData)) hl.isList (eachIs_all2 hx rv) (readsEach ra) (fun d hd d' hd' => ?_) (.inl fun d hd => ?_) hxl (fun b hb => ?_) fun out ho eo => ?_
  · obtain ⟨x, _, rfl⟩ := List.mem_map.mp hd
    obtain ⟨y, _, rfl⟩ := List.mem_map.mp hd'
    exact trip_alike x y
  · obtain ⟨x, _, rfl⟩ := List.mem_map.mp hd
    exact ⟨_, _, rfl⟩
  · have := RepD.dep_le b
    have h3 : RepD.dep I3 ≤ 10 := by decide
    have := hr.un
    omega
  · rw [dle_trip] at eo
    obtain ⟨ys, a2, vy⟩ := all2_eachIs eo
    obtain ⟨ep, he'⟩ := PyProof.Rows.sortedAll_at s.heap its out.toArray
    have hlen : ys.length ≤ sizeLine := by rw [vy.length, ho]; exact hxl
    exact ⟨.ref _, upd H (s.heap.objs.size + 1) (.lst ys), I.laid (t' := s.toks) (fun _ _ => PyProof.Rows.sortedAll_old) (Nat.le_succ _) ⟨hlen, out, ep, vy, he'⟩, rfl, q _ _ a2 (I.hok.fresh (Nat.le_succ _))⟩
theorem k_sortT3 {K : PySem.W.Frag} {k : Nat} (hK : X.K = K) (hr : Room k X.A) : CallR X (.builtin "sorted") (rSortT3 K) := hK ▸ cr_sortT3 hr
end
section
variable {K : PySem.W.Frag} {F G H : Hp} {σ : L2.St} {ta tb tc : TE}
theorem en_sortT {xs : List I3} (ha : EvX K F G σ ta xs) : EvN K F G σ (tCB (rSortT3 K) (tCons ta tNil)) (sortT xs) := fun H e g Q k =>
  ha H e g _ fun u F1 H1 s1 r1 => by
    obtain ⟨a, vs, rfl, hs, hv⟩ := r1
    exact ⟨F1, a, vs, xs, rfl, s1.fh, SqL.of (s1.fh _ _ hs), hv, fun ys p hy n => k p ys _ _ (s1.own n) (Ex.dom s1.hh n) (fresh_back s1.fh n) upd_same hy⟩
theorem ev_minT {xs : List I3} (ha : EvX K F G σ ta xs) (hne : xs ≠ []) : EvX K F G σ (tCB (rMinB K) (tCons ta tNil)) (minT xs) :=
  ev_cb1 ha fun F1 u _ h1 H1 e1 _ Q k => by
    obtain ⟨a, vs, rfl, hs, hv⟩ := h1
    cases xs with
    | nil => exact absurd rfl hne
    | cons p ps =>
      have hd := dpAll_of (hv.imp fun _ _ => Rep.mono (K := K) (α := I3) e1)
      have hl := Lay.lay (p :: ps)
      refine .inr ⟨a, vs, toD p, ps.map toD, rfl, SqL.of (e1 _ _ hs), hd, ?_, ?_, ?_, fun i v hi hj => ?_⟩
      · refine ⟨fun x hx y hy => ?_, fun x hx => ?_⟩
        · obtain ⟨x', _, rfl⟩ := List.mem_map.mp (show x ∈ (p :: ps).map toD from hx)
          obtain ⟨y', _, rfl⟩ := List.mem_map.mp (show y ∈ (p :: ps).map toD from hy)
          exact trip_alike x' y'
        · obtain ⟨x', _, rfl⟩ := List.mem_map.mp (show x ∈ (p :: ps).map toD from hx)
          intro z
          cases z
      · have := RepD.dep_le (p :: ps)
        have h2 : (toD (p :: ps)).depth = PyData.depthAll ((p :: ps).map toD) + 1 := by
          show PyData.depth (.list _) = _
          simp only [PyData.depth]
        have h3 : RepD.dep (List I3) ≤ 10 := by decide
        show PyData.depthAll ((p :: ps).map toD) ≤ 20
        omega
      · have h4 : (PyData.list ((p :: ps).map toD)).canLay0 = true := hl
        rw [PyData.canLay0] at h4
        exact h4
      · rw [minD_trips] at hj
        obtain ⟨pr, hpr, rpr⟩ := hv.getl hi
        have h2 : ((p :: ps).map (toD : I3 → PyData))[i]? = some (toD pr) := by rw [List.getElem?_map, hpr]; rfl
        rw [show toD p :: ps.map toD = (p :: ps).map (toD : I3 → PyData) from rfl, h2] at hj
        have e : pr = minFT p ps := by
          have h5 := Option.some.inj hj
          have h6 := RepD.eqv pr (minFT p ps)
          rw [h5, RepD.eqv] at h6
          rw [decide_eq_true rfl] at h6
          exact of_decide_eq_true h6.symm
        obtain ⟨m1, m2⟩ := minFT_ok ps p
        rw [minT_is m1 m2, ← e] at k
        exact k v F1 H1 (Stp.refl e1) rpr
end
end L3

namespace L3
open PySem L2
open Rep (R)
open RepD (toD)
open Evl (Ex ex_l ex_t fresh_back sz_of sz_lt ixN_nat)
/-- a statement, and what is behind it read once -/
theorem x_cut {t tz : TS} {D : Ends} {σ : L2.St} {H : Hp} (P : L2.St → Hp → Prop) (h : ∀ N : L2.St → Hp → Prop, (∀ σ' H', P σ' H' → N σ' H') → t { D with nx := N } σ H) (k : ∀ σ' H', P σ' H' → tz D σ' H') : tSeq t tz D σ H := h (tz D) k
theorem u_par3 {D : Ends} {tz : TS} {ta : TA} {σ : L2.St} {H : Hp} {i j l : Nat} (h : ta σ H fun vs H1 => ∃ u v w, vs = [u, v, w] ∧ tz D (((σ.set i (some u)).set j (some v)).set l (some w)) H1) : tSeq (tPar3 i j l ta) tz D σ H := h
theorem x_augI {tz : TS} {D : Ends} {σ : L2.St} {H : Hp} {i : Nat} {a b c : Int} (hs : σ[i]? = some (some (.int a))) (hc : a + b = c) (k : tz D (σ.set i (some (.int c))) H) : tSeq (tAug i (tC (.int b)) rIpA) tz D σ H := by
  subst hc
  exact ⟨_, hs, .inl ⟨a, b, rfl, rfl, k⟩⟩
theorem erase_map {α β : Type} (f : α → β) : ∀ (l : List α) (j : Nat), (l.map f).eraseIdx j = (l.eraseIdx j).map f
  | [], _ => rfl
  | _ :: _, 0 => rfl
  | a :: l, j + 1 => by simp [erase_map f l j]
end L3

/-! plain: ways by a queue with its tale; steps toward a goal from far houses alone -/
namespace L3
open PySem L2
open Tr (adj hs IsTree dist)
section
variable {n : Int} {es : Tr.Roads} (T : IsTree n es) {s : Int} {t : Nat} {ks : List Int} {f : Int → Int}
include T in
theorem bfs_dist (B : Bfs n es s t ks f) : ∀ (k : Nat) (v : Int), v ∈ ks → f v = (k : Int) → dist es s v = (k : Int) := by
  have hS := B.rng s B.mem
  intro k
  induction k using Nat.strongRecOn with
  | _ k ih =>
    intro v hv hf
    by_cases hvs : v = s
    · subst hvs
      rw [B.zero] at hf
      rw [Tr.dist_self T hS]; exact hf
    · obtain ⟨u, hu, a, hd⟩ := B.back v hv hvs
      have hn := B.nn u hu
      have iu := ih (f u).toNat (by omega) u hu (by omega)
      rcases dist_edge T hS a with q | q
      · omega
      · have hus : u ≠ s := fun z => by
          subst z
          rw [Tr.dist_self T hS] at q
          have := Tr.dist_nn T hS (B.rng v hv)
          omega
        obtain ⟨p, hp, ap, hdp⟩ := B.back u hu hus
        have hpn := B.nn p hp
        have ip := ih (f p).toNat (by omega) p hp (by omega)
        have e := parent_uniq T hS (B.rng p hp) (B.rng v hv) ap a.symm (by omega) q.symm
        subst e
        omega
include T in
theorem bfs_dist' (B : Bfs n es s t ks f) {v : Int} (hv : v ∈ ks) : dist es s v = f v := by
  have h := B.nn v hv
  have := bfs_dist T B (f v).toNat v hv (by omega)
  omega
include T in
theorem bfs_up (B : Bfs n es s t ks f) {u y : Int} (hu : u ∈ ks) (a : adj es u y) (hy : y ∉ ks) : dist es s u + 1 = dist es s y := by
  have hS := B.rng s B.mem
  rcases dist_edge T hS a with q | q
  · exact q.symm
  · have hus : u ≠ s := fun z => by
      subst z
      rw [Tr.dist_self T hS] at q
      have := Tr.dist_nn T hS (Tr.adj_hs T a).2
      omega
    obtain ⟨p, hp, ap, hdp⟩ := B.back u hu hus
    have e := parent_uniq T hS (B.rng p hp) (Tr.adj_hs T a).2 ap a.symm (by rw [bfs_dist' T B hp, bfs_dist' T B hu]; exact hdp) q.symm
    exact absurd (e ▸ hp) hy
include T in
theorem bfs_par (B : Bfs n es s t ks f) {u u' y : Int} (hu : u ∈ ks) (hu' : u' ∈ ks) (a : adj es u y) (a' : adj es u' y) (hy : y ∉ ks) : u' = u :=
  parent_uniq T (B.rng s B.mem) (B.rng u' hu') (B.rng u hu) a' a (bfs_up T B hu' a' hy) (bfs_up T B hu a hy)
include T in
theorem bfs_isc (B : Bfs n es s t ks f) (h : ks.length ≤ t) (v : Int) (hv : hs n v) : f v = dist es s v := (bfs_dist' T B (bfs_closed T B h v hv)).symm
include T in
/-- a house more of a tale, come to by the queue -/
theorem bfs_put (B : Bfs n es s t ks f) {g : Int → Int} (P : Put n es ks g) {u y w : Int} (hu : u ∈ ks) (a : adj es u y) (hy : y ∉ ks) (hw : w = g u ∨ w ∈ nb es (g u)) : Put n es (ks ++ [y]) (fun v => if v = y then w else g v) := by
  have hg := P.rng u hu
  have hwn : hs n w := by
    rcases hw with rfl | q
    · exact hg
    · exact (Tr.adj_hs T (mem_nb q)).2
  refine put_add T P hy hwn fun u' hu' a' => ?_
  have e := bfs_par T B hu hu' a a' hy
  subst e
  rcases hw with rfl | q
  · rw [Tr.dist_self T hg]; omega
  · exact Tr.dist_adj_le T hwn hg (mem_nb q).symm
end
/-! ### steps toward a goal, of far houses alone -/
noncomputable def onL (es : Tr.Roads) (goal k : Int) : List Int := (nb es k).filter fun y => decide (dist es y goal < dist es k goal)
noncomputable def bentG (es : Tr.Roads) (goal near k : Int) : Int := if near < dist es k goal then (onL es goal k ++ [k]).headD 0 else k
section
variable {n : Int} {es : Tr.Roads} (T : IsTree n es) {goal near : Int} (hS : hs n goal)
include T hS in
theorem onL_mem {k y : Int} (hk : hs n k) (h : y ∈ onL es goal k) : adj es y k ∧ dist es goal y + 1 = dist es goal k := by
  obtain ⟨h1, h2⟩ := List.mem_filter.mp h
  have a := mem_nb h1
  have hy := (Tr.adj_hs T a).2
  have h3 := of_decide_eq_true h2
  rw [Tr.dist_symm T hy hS, Tr.dist_symm T hk hS] at h3
  refine ⟨a.symm, ?_⟩
  rcases dist_edge T hS a.symm with q | q <;> omega
include T hS in
theorem bentG_far {k : Int} (hk : hs n k) (h0 : 0 ≤ near) (h : near < dist es k goal) : adj es (bentG es goal near k) k ∧ dist es goal (bentG es goal near k) + 1 = dist es goal k := by
  have hne : k ≠ goal := fun z => by
    subst z
    rw [Tr.dist_self T hk] at h
    omega
  obtain ⟨u, hu, a, hd⟩ := (Tr.dist_is T hS).back k hk hne
  have hm : u ∈ onL es goal k := by
    refine List.mem_filter.mpr ⟨nb_mem (Tr.adj_ne T a).symm a.symm, decide_eq_true ?_⟩
    rw [Tr.dist_symm T hu hS, Tr.dist_symm T hk hS]
    omega
  unfold bentG
  rw [if_pos h]
  cases e : onL es goal k with
  | nil => rw [e] at hm; cases hm
  | cons z l =>
    show adj es z k ∧ dist es goal z + 1 = _
    exact onL_mem T hS hk (by rw [e]; exact List.mem_cons_self)
theorem bentG_near {k : Int} (h : ¬ near < dist es k goal) : bentG es goal near k = k := by
  unfold bentG
  rw [if_neg h]
include T hS in
theorem bentG_hs (h0 : 0 ≤ near) {k : Int} (hk : hs n k) : hs n (bentG es goal near k) := by
  by_cases h : near < dist es k goal
  · exact (Tr.adj_hs T (bentG_far T hS hk h0 h).1).1
  · rw [bentG_near h]; exact hk
include T hS in
theorem bent_tale (h0 : 0 ≤ near) : Tale n es ((rng n).map (bentG es goal near)) := by
  refine tale_map T (fun x hx => bentG_hs T hS h0 hx) fun x y a => ?_
  refine (by_edge T hS (P := fun u v => hs n u ∧ hs n v ∧ dist es (bentG es goal near u) (bentG es goal near v) ≤ 1) (fun x y ⟨h1, h2, h3⟩ => ⟨h2, h1, by rw [Tr.dist_symm T (bentG_hs T hS h0 h2) (bentG_hs T hS h0 h1)]; exact h3⟩) (fun u v a q => ?_) a).2.2
  obtain ⟨hu, hv⟩ := Tr.adj_hs T a
  refine ⟨hu, hv, ?_⟩
  by_cases c : near < dist es v goal
  · obtain ⟨av, dv⟩ := bentG_far T hS hv h0 c
    have e := parent_uniq T hS (Tr.adj_hs T av).1 hu av a dv q
    rw [e]
    by_cases c2 : near < dist es u goal
    · exact Tr.dist_adj_le T (bentG_hs T hS h0 hu) hu (bentG_far T hS hu h0 c2).1
    · rw [bentG_near c2, Tr.dist_self T hu]; omega
  · have c2 : ¬ near < dist es u goal := by
      rw [Tr.dist_symm T hv hS] at c
      rw [Tr.dist_symm T hu hS]
      omega
    rw [bentG_near c, bentG_near c2]
    exact Tr.dist_adj_le T hu hv a
end
end L3

/-! any source of draws: villages, tales, reports drawn; next doors, far as a list of dicts -/
namespace L3
open PySem L2
open Rep (R)
open RepD (toD)
open Evl (Ex ex_l ex_t fresh_back sz_of sz_lt ixN_nat)
open Tr (adj hs IsTree TreeOn dist)
/-- a dict that tells D of each house -/
structure DM where
  n : Int
  D : Int → Int
instance : Rep DM := ⟨fun K F v d => ∃ a kvs, v = .ref a ∧ F a = some (.dK kvs) ∧ ∀ x, hs d.n x → valV kvs (.inl x) = some (.int (d.D x)), fun e ⟨a, kvs, h1, h2, h3⟩ => ⟨a, kvs, h1, e _ _ h2, h3⟩⟩
noncomputable def farD (n : Int) (es : Tr.Roads) : List DM := (rng n).map fun k => ⟨n, dist es k⟩
def doorsL (n : Int) (es : Tr.Roads) : List (List Int) := (rng n).map (nb es)
section
variable {K : PySem.W.Frag} {S : Src} {n m l : Int} {F F' G H H' : Hp} {σ : L2.St} {ta tb tc te tl : TE} {tr : TA} {E : XK}
variable {α β γ : Type} [Rep α] [Rep β] [Rep γ]
theorem ev_dm {d : DM} {i : Int} (ha : EvX K F G σ ta d) (hb : EvX K F G σ tb i) (hi : hs d.n i) : EvX K F G σ (tIx K ta tb) (d.D i) := fun H e g Q k => .inr (
  ha H e g _ fun v F1 H1 s1 r1 => (hb.up s1.ff) H1 s1.fh (g.trans s1.hh) _ fun u F2 H2 s2 r2 => by
    cases r2
    obtain ⟨a, kvs, rfl, h1, h2⟩ := r1
    exact ⟨a, .int (d.D i), rfl, .inl ⟨kvs, .inl i, .inl (s2.fh _ _ (s2.ff _ _ h1)), rfl, (h2 i hi).symm⟩, k _ F2 H2 (s1.trans s2) rfl⟩)
theorem ev_far {es : Tr.Roads} {i j : Int} (ha : EvX K F G σ ta (farD n es)) (hb : EvX K F G σ tb i) (hc : EvX K F G σ tc j) (hi : hs n i) (hj : hs n j) : EvX K F G σ (tIx K (tIx K ta tb) tc) (dist es i j) :=
  ev_dm (d := ⟨n, dist es i⟩) (ev_ix ha hb (map_at (rng_at hi))) hc hj
theorem ev_door {es : Tr.Roads} {i : Int} (ha : EvX K F G σ ta (doorsL n es)) (hb : EvX K F G σ tb i) (hi : hs n i) : EvX K F G σ (tIx K ta tb) (nb es i) := ev_ix ha hb (map_at (rng_at hi))
theorem ev_lenDo {es : Tr.Roads} (hn : 0 ≤ n) (ha : EvX K F G σ ta (doorsL n es)) : EvX K F G σ (tCB (rLenA K) (tCons ta tNil)) n := (ev_len ha).is (by unfold doorsL; rw [List.length_map, rng_len]; omega)
theorem ev_lenFa {es : Tr.Roads} (hn : 0 ≤ n) (ha : EvX K F G σ ta (farD n es)) : EvX K F G σ (tCB (rLenA K) (tCons ta tNil)) n := (ev_len ha).is (by unfold farD; rw [List.length_map, rng_len]; omega)
/-- (a, b, ..)[i], drawn -/
theorem em_tupix {P : List α → Prop} {P2 : Int → Prop} (h : EvML K S n m F σ tr P) (hb : EvM K S m l F σ tb P2) (hx2 : ∀ xs, P xs → xs.length ≤ 1000) (hx : ∀ xs i, P xs → P2 i → xs.length ≤ 1000 ∧ 0 ≤ i ∧ i < xs.length) :
    EvM K S n l F σ (tIx K (tTup tr) tb) (fun x => ∃ xs i, P xs ∧ P2 i ∧ xs[i.toNat]? = some x) := fun F1 H e1 e2 i Q k => .inl (
  h F1 H e1 e2 i _ fun us xs F2 H2 s2 i2 p2 r2 => by
    have hlen := r2.len
    have h1000 : us.length ≤ 1000 ∨ ¬ us.length ≤ 1000 := Classical.em _
    refine ⟨?_, fun p hp => ?_⟩
    · rcases h1000 with q | q
      · exact Nat.le_trans q (by decide)
      · exfalso
        exact q (by rw [hlen]; exact (hx2 xs p2))
    · have nM : ¬ S.M p := fun z => (S.no i2 z).1 hp
      have fp : F2 p = none := fresh_back s2.fh hp
      have i3 := S.frz (o := .tup us) (S.stp i2 ((Stp.refl s2.fh).own (o := .tup us) hp)) nM
      have s3 := s2.new (o := .tup us) hp
      refine hb (upd F2 p (.tup us)) _ (e1.trans s3.ff) s3.fh i3 _ fun v ix F4 H4 s4 i4 p4 r4 => ?_
      cases r4
      obtain ⟨h1, h2, h3⟩ := hx xs ix p2 p4
      have hg : xs[ix.toNat]? = some xs[ix.toNat] := List.getElem?_eq_getElem (by omega)
      have hat : atI xs ix = some xs[ix.toNat] := by
        have := atI_nat hg
        rwa [Int.toNat_of_nonneg h2] at this
      obtain ⟨v, hv1, hv2⟩ := ixN_all2 r2 hat
      have ht : F4 p = some (.tup us) := s4.ff _ _ upd_same
      exact .inr (.inl ⟨p, us, ix, v, rfl, rfl, SqT.of (s4.fh _ _ ht), hv1, k v _ F4 H4 (s3.trans s4) i4 ⟨xs, ix, p2, p4, hg⟩ (Rep.mono ((Ex.new fp).trans s4.ff) hv2)⟩))
end
end L3

/-! promises of defs that draw villages, tales, reports; any source -/
namespace L3
open PySem L2
open Rep (R)
open RepD (toD)
open Evl (Ex ex_l ex_t fresh_back sz_of sz_lt ixN_nat)
open Tr (adj hs IsTree TreeOn dist)
def VilS (K : PySem.W.Frag) (S : Src) (a : V) (lim : Int) : Sp := fun vs H Q _ => ∃ (F : Hp) (n most : Int), vs = [a, .int most] ∧ Ex F H ∧ S.I n F H ∧ n ≤ lim ∧ 0 < most ∧ most ≤ 40 ∧
  ∀ v F' H' m (es : Tr.Roads), IsTree m es → m ≤ most → StpM S.M F H F' H' → S.I (n + 1000) F' H' → R K F' v es → Q v H'
def sp_doors (K : PySem.W.Frag) : Sp := fun vs H Q _ => ∃ (F : Hp) (v : V) (n : Int) (es : Tr.Roads), vs = [v] ∧ Ex F H ∧ R K F v es ∧ IsTree n es ∧ n ≤ 60 ∧ ∀ u F' H', Stp F H F' H' → R K F' u (doorsL n es) → Q u H'
def sp_from (K : PySem.W.Frag) : Sp := fun vs H Q _ => ∃ (F : Hp) (v : V) (n s : Int) (es : Tr.Roads), vs = [v, .int s] ∧ Ex F H ∧ R K F v (doorsL n es) ∧ IsTree n es ∧ n ≤ 60 ∧ hs n s ∧
  ∀ u F' H', Stp F H F' H' → R K F' u (⟨n, dist es s⟩ : DM) → Q u H'
def sp_farD (K : PySem.W.Frag) : Sp := fun vs H Q _ => ∃ (F : Hp) (v : V) (n : Int) (es : Tr.Roads), vs = [v] ∧ Ex F H ∧ R K F v (doorsL n es) ∧ IsTree n es ∧ n ≤ 60 ∧ ∀ u F' H', Stp F H F' H' → R K F' u (farD n es) → Q u H'
/-- a tale drawn, of next doors -/
def TaleS (K : PySem.W.Frag) (S : Src) (a : V) (lim c : Int) : Sp := fun vs H Q _ => ∃ (F : Hp) (m n : Int) (es : Tr.Roads) (w : V), vs = [a, w] ∧ Ex F H ∧ S.I m F H ∧ m ≤ lim ∧ R K F w (doorsL n es) ∧ IsTree n es ∧ n ≤ 60 ∧
  ∀ v F' H' st, Tale n es st → StpM S.M F H F' H' → S.I (m + c) F' H' → R K F' v st → Q v H'
/-- a tale drawn, of next doors and of how far all are -/
def BentS (K : PySem.W.Frag) (S : Src) (a : V) (lim c : Int) : Sp := fun vs H Q _ => ∃ (F : Hp) (m n : Int) (es : Tr.Roads) (w u : V), vs = [a, w, u] ∧ Ex F H ∧ S.I m F H ∧ m ≤ lim ∧ R K F w (doorsL n es) ∧ R K F u (farD n es) ∧ IsTree n es ∧ n ≤ 60 ∧
  ∀ v F' H' st, Tale n es st → StpM S.M F H F' H' → S.I (m + c) F' H' → R K F' v st → Q v H'
/-- reports of a tale -/
def RptS (K : PySem.W.Frag) (S : Src) (a : V) (lim c : Int) : Sp := fun vs H Q _ => ∃ (F : Hp) (m n most : Int) (es : Tr.Roads) (st : List Int) (w : V), vs = [a, w, .int most] ∧ Ex F H ∧ S.I m F H ∧ m ≤ lim ∧ R K F w st ∧ Tale n es st ∧ 0 < n ∧ n ≤ 60 ∧ 0 ≤ most ∧
  ∀ v F' H' l, Told n st l → StpM S.M F H F' H' → S.I (m + c) F' H' → R K F' v l → Q v H'
section
variable {K : PySem.W.Frag} {S : Src} {n m l N lim c : Int} {F F' G H H' : Hp} {σ : L2.St} {ta tb tc te tl : TE} {tr : TA} {E : XK} {a : V} {sp : Sp} {es : Tr.Roads}
theorem em_vilS {j : Nat} {P : Int → Prop} (hs' : σ[j]? = some (some a)) (hsp : ∀ vs H Q E, VilS K S a lim vs H Q E → sp vs H Q E) (hm : EvM K S n m F σ tb P) (hl : m ≤ lim) (hp : ∀ i, P i → 0 < i ∧ i ≤ 40) :
    EvM K S n (m + 1000) F σ (tCall sp [] E (tCons (tVar j) (tCons tb tNil))) (fun es : Tr.Roads => ∃ m, IsTree m es ∧ m ≤ 40) := fun F1 H e1 e2 i Q k =>
  ⟨_, hs', hm F1 H e1 e2 i _ fun v x F' H' s i' p' r => hsp _ _ _ _ ⟨F', m, x, by rw [show v = V.int x from r]; rfl, s.fh, i', hl, (hp x p').1, (hp x p').2, fun u F2 H2 q es T hq s2 i2 r2 => k u es F2 H2 (s.trans s2) i2 ⟨q, T, Int.le_trans hq (hp x p').2⟩ r2⟩⟩
theorem ev_doors (ha : EvX K F G σ ta es) (T : IsTree n es) (hn : n ≤ 60) : EvX K F G σ (tCall (sp_doors K) [] E (tCons ta tNil)) (doorsL n es) := fun H e g Q k =>
  ha H e g _ fun v F1 H1 s1 r1 => ⟨F1, v, n, es, rfl, s1.fh, r1, T, hn, fun u F2 H2 s2 r2 => k u F2 H2 (s1.trans s2) r2⟩
theorem ev_farC (ha : EvX K F G σ ta (doorsL n es)) (T : IsTree n es) (hn : n ≤ 60) : EvX K F G σ (tCall (sp_farD K) [] E (tCons ta tNil)) (farD n es) := fun H e g Q k =>
  ha H e g _ fun v F1 H1 s1 r1 => ⟨F1, v, n, es, rfl, s1.fh, r1, T, hn, fun u F2 H2 s2 r2 => k u F2 H2 (s1.trans s2) r2⟩
theorem ev_from {s : Int} (ha : EvX K F G σ ta (doorsL n es)) (hb : EvX K F G σ tb s) (T : IsTree n es) (hn : n ≤ 60) (hS : hs n s) : EvX K F G σ (tCall (sp_from K) [] E (tCons ta (tCons tb tNil))) (⟨n, dist es s⟩ : DM) := fun H e g Q k =>
  ha H e g _ fun v F1 H1 s1 r1 => (hb.up s1.ff) H1 s1.fh (g.trans s1.hh) _ fun w F2 H2 s2 r2 => by
    cases r2
    exact ⟨F2, v, n, s, es, rfl, s2.fh, Rep.mono s2.ff r1, T, hn, hS, fun u F3 H3 s3 r3 => k u F3 H3 ((s1.trans s2).trans s3) r3⟩
theorem em_taleS {j : Nat} (hs' : σ[j]? = some (some a)) (hsp : ∀ vs H Q E, TaleS K S a lim c vs H Q E → sp vs H Q E) (hb : EvX K F F σ tb (doorsL N es)) (T : IsTree N es) (hn : N ≤ 60) (hl : n ≤ lim) :
    EvM K S n (n + c) F σ (tCall sp [] E (tCons (tVar j) (tCons tb tNil))) (fun st : List Int => Tale N es st) := fun F1 H e1 e2 i Q k =>
  ⟨_, hs', (hb.up e1) H e2 (e1.trans e2) _ fun v F2 H2 s2 r2 => hsp _ _ _ _ ⟨F2, n, N, es, v, rfl, s2.fh, S.stp i s2, hl, r2, T, hn, fun u F3 H3 st hst s3 i3 r3 => k u st F3 H3 (s2.m.trans s3) i3 hst r3⟩⟩
theorem em_bentS {j : Nat} (hs' : σ[j]? = some (some a)) (hsp : ∀ vs H Q E, BentS K S a lim c vs H Q E → sp vs H Q E) (hb : EvX K F F σ tb (doorsL N es)) (hc : EvX K F F σ tc (farD N es)) (T : IsTree N es) (hn : N ≤ 60) (hl : n ≤ lim) :
    EvM K S n (n + c) F σ (tCall sp [] E (tCons (tVar j) (tCons tb (tCons tc tNil)))) (fun st : List Int => Tale N es st) := fun F1 H e1 e2 i Q k =>
  ⟨_, hs', (hb.up e1) H e2 (e1.trans e2) _ fun v F2 H2 s2 r2 => (hc.up (e1.trans s2.ff)) H2 s2.fh ((e1.trans e2).trans s2.hh) _ fun w F3 H3 s3 r3 => hsp _ _ _ _ ⟨F3, n, N, es, v, w, rfl, s3.fh, S.stp i (s2.trans s3), hl, Rep.mono s3.ff r2, r3, T, hn, fun u F4 H4 st hst s4 i4 r4 => k u st F4 H4 ((s2.trans s3).m.trans s4) i4 hst r4⟩⟩
theorem em_rptS {j : Nat} {n1 n2 : Int} (h0 : σ[j]? = some (some a)) (hsp : ∀ vs H Q E, RptS K S a lim c vs H Q E → sp vs H Q E) (hb : EvM K S m n1 F σ tb (fun st : List Int => Tale n es st)) (hc : EvM K S n1 n2 F σ tc (fun z : Int => 0 ≤ z)) (hp : 0 < n) (hn : n ≤ 60) (hm : n2 ≤ lim) :
    EvM K S m (n2 + c) F σ (tCall sp [] E (tCons (tVar j) (tCons tb (tCons tc tNil)))) (fun l : List (Int × Int) => ∃ st, Tale n es st ∧ Told n st l) := fun F1 H e1 e2 i Q k =>
  ⟨_, h0, hb F1 H e1 e2 i _ fun v st F2 H2 s2 i2 hst r2 => hc F2 H2 (e1.trans s2.ff) s2.fh i2 _ fun w most F3 H3 s3 i3 h0 r3 => by
    cases r3
    exact hsp _ _ _ _ ⟨F3, n2, n, most, es, st, v, rfl, s3.fh, i3, hm, Rep.mono s3.ff r2, hst, hp, hn, h0, fun u F4 H4 l hl s4 i4 r4 => k u l F4 H4 ((s2.trans s3).trans s4) i4 ⟨st, hst, hl⟩ r4⟩⟩
theorem em_drawIx {α : Type} [Rep α] {j jx : Nat} {vv : V} {xs : List α} (h0 : σ[j]? = some (some a)) (hsp : ∀ vs H Q E, SpD S a lim vs H Q E → sp vs H Q E) (hj : σ[jx]? = some (some vv)) (r : R K F vv xs) (hx : 0 < xs.length) (hx2 : xs.length ≤ 1000) (hn : n ≤ lim) :
    EvM K S n (n + 1) F σ (tIx K (tVar jx) (tCall sp [] E (tCons (tVar j) (tCons (tCB (rLenA K) (tCons (tVar jx) tNil)) tNil)))) (fun w : α => w ∈ xs) := by
  have h60 : (1000 : Int) ≤ 10 ^ 60 := by decide
  refine EvM.imp (em_ix (em_pure (ev_var hj r)) (fun ys e => em_draw h0 hsp (em_pure (ev_len (ev_var hj r))) hn (fun i h => by subst h; omega)) fun ys i e ⟨z, hz, a, b⟩ => ?_) fun x ⟨ys, i, e, _, hq⟩ => by subst e; exact List.mem_of_getElem? hq
  subst e hz
  exact ⟨a, b⟩
/-- a tuple taken apart into names -/
theorem g3_ok {p : Addr} {i j k : Nat} {u v w : V} {Q : L2.St → Hp → Prop} (h : H p = some (.tup [u, v, w])) (kk : Q (((σ.set i (some u)).set j (some v)).set k (some w)) H) : gTup K 3 (gCons (gName i) (gCons (gName j) (gCons (gName k) gNil))) (.ref p) σ H Q :=
  ⟨p, [u, v, w], rfl, SqT.of h, rfl, u, [v, w], rfl, v, [w], rfl, w, [], rfl, rfl, kk⟩
theorem g2_ok {p : Addr} {i j : Nat} {u v : V} {Q : L2.St → Hp → Prop} (h : H p = some (.tup [u, v])) (kk : Q ((σ.set i (some u)).set j (some v)) H) : gTup K 2 (gCons (gName i) (gCons (gName j) gNil)) (.ref p) σ H Q :=
  ⟨p, [u, v], rfl, SqT.of h, rfl, u, [v], rfl, v, [], rfl, rfl, kk⟩
theorem kvs1 (x y : Int) : mergeK [] [(.inl x, .int y)] = kvsOf [x] fun _ => y := rfl
end
def sp_bvil (K : PySem.W.Frag) : Sp := fun vs H Q E => ∃ b g, VilS K (bagS b g) (.ref b) (10 ^ 8) vs H Q E
def sp_btale (K : PySem.W.Frag) : Sp := fun vs H Q E => ∃ b g, TaleS K (bagS b g) (.ref b) (10 ^ 8) 1000 vs H Q E
def sp_bbent (K : PySem.W.Frag) : Sp := fun vs H Q E => ∃ b g, BentS K (bagS b g) (.ref b) (10 ^ 8) 1000 vs H Q E
def sp_brpt (K : PySem.W.Frag) : Sp := fun vs H Q E => ∃ b g, RptS K (bagS b g) (.ref b) (10 ^ 8) 1000 vs H Q E
theorem vil_bag {K : PySem.W.Frag} {b g : Addr} : ∀ vs H Q E, VilS K (bagS b g) (.ref b) (10 ^ 8) vs H Q E → sp_bvil K vs H Q E := fun vs H Q E h => ⟨b, g, h⟩
theorem tale_bag {K : PySem.W.Frag} {b g : Addr} : ∀ vs H Q E, TaleS K (bagS b g) (.ref b) (10 ^ 8) 1000 vs H Q E → sp_btale K vs H Q E := fun vs H Q E h => ⟨b, g, h⟩
theorem bent_bag {K : PySem.W.Frag} {b g : Addr} : ∀ vs H Q E, BentS K (bagS b g) (.ref b) (10 ^ 8) 1000 vs H Q E → sp_bbent K vs H Q E := fun vs H Q E h => ⟨b, g, h⟩
theorem rpt_bag {K : PySem.W.Frag} {b g : Addr} : ∀ vs H Q E, RptS K (bagS b g) (.ref b) (10 ^ 8) 1000 vs H Q E → sp_brpt K vs H Q E := fun vs H Q E h => ⟨b, g, h⟩
end L3

/-! who may be at home, papers that one has moved -/
namespace L3
open PySem L2
open Rep (R)
open RepD (toD)
open Evl (Ex ex_l ex_t fresh_back sz_of sz_lt ixN_nat)
open Tr (adj hs IsTree TreeOn dist)
noncomputable def isByB (es : Tr.Roads) (l : List (Int × Int)) (c p : Int) : Bool := l.all fun e => decide (dist es p e.2 ≤ dist es c e.1)
theorem isBy_iff {es : Tr.Roads} {l : List (Int × Int)} {c p : Int} : isByB es l c p = true ↔ ∀ e ∈ l, dist es p e.2 ≤ dist es c e.1 := by
  unfold isByB
  rw [List.all_eq_true]
  exact ⟨fun h e he => of_decide_eq_true (h e he), fun h e he => decide_eq_true (h e he)⟩
noncomputable def mayHomeE (n : Int) (es : Tr.Roads) (l : List (Int × Int)) : List Int := (rng n).filter fun c => isByB es l c c
theorem mem_mayHome {n : Int} {es : Tr.Roads} {l : List (Int × Int)} {c : Int} : c ∈ mayHomeE n es l ↔ hs n c ∧ ∀ e ∈ l, dist es c e.2 ≤ dist es c e.1 := by
  unfold mayHomeE
  rw [List.mem_filter, mem_rng, isBy_iff]
  exact Iff.rfl
theorem isBy_held {es : Tr.Roads} {l : List (Int × Int)} {c p : Int} : isByB (held es) l c p = isByB es l c p := by
  unfold isByB
  simp only [dist_held]
theorem isBy_mems {es : Tr.Roads} {l m : List (Int × Int)} {c p : Int} (h : ∀ e, e ∈ l ↔ e ∈ m) : isByB es l c p = isByB es m c p := by
  apply Bool.eq_iff_iff.mpr
  rw [isBy_iff, isBy_iff]
  exact ⟨fun q e he => q e ((h e).mpr he), fun q e he => q e ((h e).mp he)⟩
theorem mayHome_eq {n : Int} {es : Tr.Roads} {l m : List (Int × Int)} (h : ∀ e, e ∈ l ↔ e ∈ m) : mayHomeE n (held es) l = mayHomeE n es m := by
  unfold mayHomeE
  exact List.filter_congr fun c _ => by rw [isBy_held, isBy_mems h]
noncomputable def movL (es : Tr.Roads) (l : List (Int × Int)) (c : Int) : List I3 := l.map fun e => (dist es c e.1 - dist es c e.2, e)
noncomputable def movedE (es : Tr.Roads) (l : List (Int × Int)) (c : Int) : Option (Int × Int) := if movL es l c = [] then none else if 0 ≤ (minT (movL es l c)).1 then none else some (minT (movL es l c)).2
theorem movL_held {es : Tr.Roads} {l : List (Int × Int)} {c : Int} : movL (held es) l c = movL es l c := by
  unfold movL
  simp only [dist_held]
theorem mem_movL {es : Tr.Roads} {l : List (Int × Int)} {c : Int} {x : I3} : x ∈ movL es l c ↔ x.2 ∈ l ∧ x.1 = dist es c x.2.1 - dist es c x.2.2 := by
  unfold movL
  rw [List.mem_map]
  constructor
  · rintro ⟨e, he, rfl⟩
    exact ⟨he, rfl⟩
  · rintro ⟨h1, h2⟩
    exact ⟨x.2, h1, Prod.ext h2.symm rfl⟩
theorem movL_nil {es : Tr.Roads} {l : List (Int × Int)} {c : Int} : movL es l c = [] ↔ l = [] := by
  unfold movL
  exact List.map_eq_nil_iff
theorem movedE_eq {es : Tr.Roads} {l m : List (Int × Int)} {c : Int} (h : ∀ e, e ∈ l ↔ e ∈ m) : movedE (held es) l c = movedE es m c := by
  unfold movedE
  rw [movL_held]
  have hm : ∀ x, x ∈ movL es l c ↔ x ∈ movL es m c := fun x => by rw [mem_movL, mem_movL, h]
  by_cases e : movL es l c = []
  · have e2 : movL es m c = [] := List.eq_nil_iff_forall_not_mem.mpr fun x hx => by
      have := (hm x).mpr hx
      rw [e] at this
      cases this
    rw [if_pos e, if_pos e2]
  · have e2 : ¬ movL es m c = [] := fun z => e (List.eq_nil_iff_forall_not_mem.mpr fun x hx => by
      have := (hm x).mp hx
      rw [z] at this
      cases this)
    rw [if_neg e, if_neg e2, minT_mems hm e]
/-- what a paper says -/
theorem movedE_some {es : Tr.Roads} {l : List (Int × Int)} {c : Int} {d : Int × Int} (h : movedE es l c = some d) : d ∈ l ∧ dist es c d.1 - dist es c d.2 < 0 ∧ ∀ e ∈ l, dist es c d.1 - dist es c d.2 ≤ dist es c e.1 - dist es c e.2 := by
  unfold movedE at h
  by_cases e : movL es l c = []
  · rw [if_pos e] at h; cases h
  · rw [if_neg e] at h
    by_cases q : 0 ≤ (minT (movL es l c)).1
    · rw [if_pos q] at h; cases h
    · rw [if_neg q] at h
      obtain ⟨a, b⟩ := minT_ok e
      obtain ⟨a1, a2⟩ := mem_movL.mp a
      have hd := Option.some.inj h
      rw [hd] at a1 a2
      refine ⟨a1, by omega, fun x hx => ?_⟩
      have := leT_fst (b (dist es c x.1 - dist es c x.2, x) (mem_movL.mpr ⟨hx, rfl⟩))
      simp only at this
      omega
theorem movedE_none {n : Int} {es : Tr.Roads} {l : List (Int × Int)} {c : Int} (hc : hs n c) : movedE es l c = none ↔ c ∈ mayHomeE n es l := by
  rw [mem_mayHome]
  unfold movedE
  by_cases e : movL es l c = []
  · rw [if_pos e]
    rw [movL_nil] at e
    subst e
    simp [hc]
  · rw [if_neg e]
    obtain ⟨a, b⟩ := minT_ok e
    obtain ⟨a1, a2⟩ := mem_movL.mp a
    by_cases q : 0 ≤ (minT (movL es l c)).1
    · rw [if_pos q]
      refine ⟨fun _ => ⟨hc, fun x hx => ?_⟩, fun _ => rfl⟩
      have := leT_fst (b (dist es c x.1 - dist es c x.2, x) (mem_movL.mpr ⟨hx, rfl⟩))
      simp only at this
      omega
    · rw [if_neg q]
      refine ⟨fun z => (by cases z), fun ⟨_, z⟩ => ?_⟩
      have := z _ a1
      omega
theorem moved_least {es : Tr.Roads} {l : List (Int × Int)} {c : Int} {d : Int × Int} (h : movedE es l c = some d) : atL es l c = dist es c d.2 - dist es c d.1 := by
  obtain ⟨h1, h2, h3⟩ := movedE_some h
  unfold atL
  refine (maxL_uniq ?_ ?_).symm
  · exact List.mem_append_right _ (List.mem_map.mpr ⟨d, h1, rfl⟩)
  · intro y hy
    rcases List.mem_append.mp hy with q | q
    · rw [List.mem_singleton.mp q]; omega
    · obtain ⟨e, he, rfl⟩ := List.mem_map.mp q
      have := h3 e he
      omega
theorem em_pick2 {K : PySem.W.Frag} {F : Hp} {σ : L2.St} {E : XK} {S : Src} {sp : Sp} {a : V} {lim n : Int} {j : Nat} {x y : Int} (h0 : σ[j]? = some (some a)) (hsp : ∀ vs H Q E, SpD S a lim vs H Q E → sp vs H Q E) (hn : n ≤ lim) :
    EvM K S n (n + 1) F σ (tIx K (tTup (tCons (tC (.int x)) (tCons (tC (.int y)) tNil))) (tCall sp [] E (tCons (tVar j) (tCons (tC (.int 2)) tNil)))) (fun z : Int => z = x ∨ z = y) :=
  EvM.imp (em_tupix (α := Int) (eml_all (P := fun z : Int => z = x ∨ z = y) (EvM.imp em_int fun z e => .inl e) (eml_all (EvM.imp em_int fun z e => .inr e) eml_nilA)) (em_draw h0 hsp em_int hn (fun i h => by subst h; decide)) (fun xs h => by omega) (fun xs i h ⟨z, e, a, b⟩ => by subst e; omega))
    fun z ⟨xs, i, ⟨_, h⟩, _, hq⟩ => h z (List.mem_of_getElem? hq)
section
variable {K : PySem.W.Frag} {F G H H' : Hp} {σ : L2.St} {ta tb tc td te : TE} {E : XK} {r : Rpt} {CR CV : Addr}
theorem ev_notN {α : Type} [Rep α] {o : Option α} (hn : ∀ F' v (x : α), R K F' v x → v ≠ .non) (ha : EvX K F G σ ta o) : EvX K F G σ (tOp (fun x y H Q => y = .non ∧ Q (.bl (!decide (x = .non))) H) ta (tC .non)) (!o.isNone) := fun H e g Q k =>
  ha H e g _ fun u F1 H1 s1 r1 => ⟨rfl, k _ F1 H1 s1 (by
    cases o with
    | none => cases (show u = .non from r1); rfl
    | some x => show V.bl _ = V.bl true; rw [decide_eq_false (hn F1 u x r1)]; rfl)⟩
/-- new reports that nobody changes any more -/
theorem EvF.ev (h : EvF K F G σ te r) : EvX K F G σ te r := fun H e g Q k =>
  h H e g Q fun a F' H' s n0 f => by
    obtain ⟨fa, dx, vv, vh, h1, rv, rh, ok⟩ := f
    exact k _ (upd F' a (.ins r.C dx (rfs vv vh))) H' (s.frz n0 fa h1) ⟨a, dx, vv, vh, rfl, upd_same, Rep.mono (Ex.new fa) rv, Rep.mono (Ex.new fa) rh, ok⟩
def sp_isBy (K : PySem.W.Frag) (CV : Addr) : Sp := fun vs H Q _ => ∃ (F : Hp) (v : Vil) (l : List (Int × Int)) (c p : Int) (w u : V), vs = [w, u, .int c, .int p] ∧ Ex F H ∧ R K F w v ∧ R K F u l ∧ v.C = CV ∧ hs v.n c ∧ hs v.n p ∧ (∀ e ∈ l, hs v.n e.1 ∧ hs v.n e.2) ∧ l.length ≤ 1000 ∧
  ∀ x F' H', Stp F H F' H' → R K F' x (isByB v.es l c p) → Q x H'
theorem ev_isBy {v : Vil} {l : List (Int × Int)} {c p : Int} (ha : EvX K F G σ ta v) (hb : EvX K F G σ tb l) (hc : EvX K F G σ tc c) (hd : EvX K F G σ td p) (hC : v.C = CV) (h1 : hs v.n c) (h2 : hs v.n p) (h3 : ∀ e ∈ l, hs v.n e.1 ∧ hs v.n e.2) (h4 : l.length ≤ 1000) :
    EvX K F G σ (tCall (sp_isBy K CV) [] E (tCons ta (tCons tb (tCons tc (tCons td tNil))))) (isByB v.es l c p) := fun H e g Q k =>
  ha H e g _ fun w F1 H1 s1 r1 => (hb.up s1.ff) H1 s1.fh (g.trans s1.hh) _ fun u F2 H2 s2 r2 => (hc.up (s1.ff.trans s2.ff)) H2 s2.fh ((g.trans s1.hh).trans s2.hh) _ fun x F3 H3 s3 r3 => (hd.up ((s1.ff.trans s2.ff).trans s3.ff)) H3 s3.fh (((g.trans s1.hh).trans s2.hh).trans s3.hh) _ fun y F4 H4 s4 r4 => by
    cases r3; cases r4
    exact ⟨F4, v, l, c, p, w, u, rfl, s4.fh, Rep.mono (s2.ff.trans (s3.ff.trans s4.ff)) r1, Rep.mono (s3.ff.trans s4.ff) r2, hC, h1, h2, h3, h4, fun z F5 H5 s5 r5 => k z F5 H5 ((((s1.trans s2).trans s3).trans s4).trans s5) r5⟩
theorem en_mayHome (ha : EvX K F G σ ta r) (hC : r.C = CR) (hV : r.v.C = CV) : EvN K F G σ (tCall (PuL1 K (fun r : Rpt => r.C = CR ∧ r.v.C = CV) (fun r => mayHomeE r.v.n r.v.es r.rs)) [] E (tCons ta tNil)) (mayHomeE r.v.n r.v.es r.rs) := en_callL1 (pre := fun r : Rpt => r.C = CR ∧ r.v.C = CV) (f := fun r => mayHomeE r.v.n r.v.es r.rs) ha ⟨hC, hV⟩
theorem ev_moved {c : Int} (ha : EvX K F G σ ta r) (hb : EvX K F G σ tb c) (hC : r.C = CR) (hV : r.v.C = CV) (hc : hs r.v.n c) : EvX K F G σ (tCall (Pu2 K (fun (r : Rpt) (c : Int) => r.C = CR ∧ r.v.C = CV ∧ hs r.v.n c) (fun r c => movedE r.v.es r.rs c)) [] E (tCons ta (tCons tb tNil))) (movedE r.v.es r.rs c) :=
  ev_call2 (pre := fun (r : Rpt) (c : Int) => r.C = CR ∧ r.v.C = CV ∧ hs r.v.n c) (f := fun r c => movedE r.v.es r.rs c) ha hb ⟨hC, hV, hc⟩
theorem ev_movedK {c : Int} (ha : EvX K F G σ ta r) (hb : EvX K F G σ tb c) (hC : r.C = CR) (hV : r.v.C = CV) (hc : hs r.v.n c) : EvX K F G σ (tCallKw (Pu2 K (fun (r : Rpt) (c : Int) => r.C = CR ∧ r.v.C = CV ∧ hs r.v.n c) (fun r c => movedE r.v.es r.rs c)) 2 List.reverse E (tCons tb (tCons ta tNil))) (movedE r.v.es r.rs c) :=
  ev_callK2 (pre := fun (r : Rpt) (c : Int) => r.C = CR ∧ r.v.C = CV ∧ hs r.v.n c) (f := fun r c => movedE r.v.es r.rs c) ha hb ⟨hC, hV, hc⟩
end
end L3

/-! who surely is at home; the two that have changed in every tale -/
namespace L3
open PySem L2
open Rep (R)
open RepD (toD)
open Evl (Ex ex_l ex_t fresh_back sz_of sz_lt ixN_nat)
open Tr (adj hs IsTree TreeOn dist)
noncomputable def sureE (n : Int) (es : Tr.Roads) (l : List (Int × Int)) : List Int := (rng n).filter fun c => decide (mayE n es l c = [c])
theorem sure_eq {n : Int} {es : Tr.Roads} {l m : List (Int × Int)} (h : ∀ e, e ∈ l ↔ e ∈ m) : sureE n (held es) l = sureE n es m := by
  unfold sureE
  exact List.filter_congr fun c _ => by rw [mayE_held, mayE_mems h]
noncomputable def midB (es : Tr.Roads) (l : List (Int × Int)) (e : Int × Int) : Bool := l.all fun x => decide (dist es e.1 x.2 + dist es e.2 x.2 ≤ dist es e.1 x.1 + dist es e.2 x.1)
theorem mid_iff {es : Tr.Roads} {l : List (Int × Int)} {e : Int × Int} : midB es l e = true ↔ ∀ x ∈ l, dist es e.1 x.2 + dist es e.2 x.2 ≤ dist es e.1 x.1 + dist es e.2 x.1 := by
  unfold midB
  rw [List.all_eq_true]
  exact ⟨fun h e he => of_decide_eq_true (h e he), fun h e he => decide_eq_true (h e he)⟩
theorem mid_held {es : Tr.Roads} {l : List (Int × Int)} {e : Int × Int} : midB (held es) l e = midB es l e := by
  unfold midB
  simp only [dist_held]
theorem mid_mems {es : Tr.Roads} {l m : List (Int × Int)} {e : Int × Int} (h : ∀ e, e ∈ l ↔ e ∈ m) : midB es l e = midB es m e := by
  apply Bool.eq_iff_iff.mpr
  rw [mid_iff, mid_iff]
  exact ⟨fun q e he => q e ((h e).mpr he), fun q e he => q e ((h e).mp he)⟩
/-- the roads whose middle no report bars -/
noncomputable def midL (es fs : Tr.Roads) (l : List (Int × Int)) : Tr.Roads := fs.filter (midB es l)
theorem midL_eq {es fs : Tr.Roads} {l m : List (Int × Int)} (h : ∀ e, e ∈ l ↔ e ∈ m) : midL (held es) fs l = midL es fs m := by
  unfold midL
  exact List.filter_congr fun c _ => by rw [mid_held, mid_mems h]
noncomputable def chgE (n : Int) (es : Tr.Roads) (l : List (Int × Int)) : Option (Int × Int) := if mayHomeE n es l = [] then some ((midL es es l).headD (0, 0)) else none
theorem chg_eq {n : Int} {es : Tr.Roads} {l m : List (Int × Int)} (h : ∀ e, e ∈ l ↔ e ∈ m) : chgE n (held es) l = if mayHomeE n es m = [] then some ((midL es (held es) m).headD (0, 0)) else none := by
  unfold chgE
  rw [mayHome_eq h, midL_eq h]
section
variable {n : Int} {es : Tr.Roads} (T : IsTree n es) {l : List (Int × Int)} {st : List Int} (A : Tale n es st) (hl : ∀ e ∈ l, hs n e.1 ∧ stAt st e.1 = e.2)
include T A hl in
theorem home_may {c : Int} (hc : hs n c) (h : stAt st c = c) : c ∈ mayHomeE n es l := by
  refine mem_mayHome.mpr ⟨hc, fun e he => ?_⟩
  obtain ⟨h1, h2⟩ := hl e he
  have := tale_short T A hc h1
  rw [h, h2] at this
  exact this
include T A hl in
theorem mid_ex (h : mayHomeE n es l = []) : ∃ x y, adj es x y ∧ stAt st x = y ∧ stAt st y = x ∧ midB es l (x, y) = true := by
  obtain ⟨x, y, a, h1, h2⟩ := two_changed T A fun x hx z => by
    have := home_may T A hl hx z
    rw [h] at this
    cases this
  obtain ⟨hx, hy⟩ := Tr.adj_hs T a
  refine ⟨x, y, a, h1, h2, mid_iff.mpr fun e he => ?_⟩
  obtain ⟨q1, q2⟩ := hl e he
  have a1 := tale_short T A hx q1
  have a2 := tale_short T A hy q1
  rw [h1, q2] at a1
  rw [h2, q2] at a2
  show dist es x e.2 + dist es y e.2 ≤ dist es x e.1 + dist es y e.1
  omega
theorem mid_swap {es : Tr.Roads} {l : List (Int × Int)} {x y : Int} (h : midB es l (x, y) = true) : midB es l (y, x) = true := by
  rw [mid_iff] at h ⊢
  intro e he
  have := h e he
  simp only at this ⊢
  omega
include T A hl in
theorem midL_ne (h : mayHomeE n es l = []) : midL es (held es) l ≠ [] := by
  obtain ⟨x, y, a, _, _, hm⟩ := mid_ex T A hl h
  rcases (adj_held es x y).mpr a with q | q
  · exact List.ne_nil_of_mem (List.mem_filter.mpr ⟨q, hm⟩)
  · exact List.ne_nil_of_mem (List.mem_filter.mpr ⟨q, mid_swap hm⟩)
include T A hl in
theorem lazy_home : ((rng n).filter fun c => decide (stAt (lazyE n es l) c = c)) = mayHomeE n es l := by
  have F : ∃ st, Tale n es st ∧ ∀ e ∈ l, hs n e.1 ∧ stAt st e.1 = e.2 := ⟨st, A, hl⟩
  unfold mayHomeE
  refine List.filter_congr fun c hc => ?_
  have hc' := mem_rng.mp hc
  obtain ⟨h1, h2⟩ := near_ok T F hc' hc'
  have e1 : stAt (lazyE n es l) c = nearE es (mayE n es l c) c := stAt_map hc'
  rw [e1]
  apply Bool.eq_iff_iff.mpr
  rw [decide_eq_true_iff, isBy_iff]
  constructor
  · intro e
    rw [e] at h1
    exact h1.2
  · intro h
    have h3 : lackL es l c c ≤ 0 := lackL_le (Int.le_refl 0) fun e he => by have := h e he; omega
    have h4 := Tr.dist_nn T hc' h1.1
    exact (Tr.dist_zero T hc' h1.1).mp (by omega)
end
theorem head_headD {α : Type} {l : List α} {d : α} (h : l ≠ []) : l.head? = some (l.headD d) := by
  cases l with
  | nil => exact absurd rfl h
  | cons a l => rfl
section
variable {K : PySem.W.Frag} {F G H H' : Hp} {σ : L2.St} {ta tb tc td te : TE} {E : XK} {r : Rpt} {CR CV : Addr}
theorem en_sure (ha : EvX K F G σ ta r) (hC : r.C = CR) (hV : r.v.C = CV) : EvN K F G σ (tCall (PuL1 K (fun r : Rpt => r.C = CR ∧ r.v.C = CV) (fun r => sureE r.v.n r.v.es r.rs)) [] E (tCons ta tNil)) (sureE r.v.n r.v.es r.rs) := en_callL1 (pre := fun r : Rpt => r.C = CR ∧ r.v.C = CV) (f := fun r => sureE r.v.n r.v.es r.rs) ha ⟨hC, hV⟩
theorem ev_chg (ha : EvX K F G σ ta r) (hC : r.C = CR) (hV : r.v.C = CV) : EvX K F G σ (tCall (Pu1 K (fun r : Rpt => r.C = CR ∧ r.v.C = CV) (fun r => chgE r.v.n r.v.es r.rs)) [] E (tCons ta tNil)) (chgE r.v.n r.v.es r.rs) := ev_call1 (pre := fun r : Rpt => r.C = CR ∧ r.v.C = CV) (f := fun r => chgE r.v.n r.v.es r.rs) ha ⟨hC, hV⟩
theorem en_mayR {x : Int} (ha : EvX K F G σ ta r) (hb : EvX K F G σ tb x) (hC : r.C = CR) (hV : r.v.C = CV) (hx : hs r.v.n x) : EvN K F G σ (tMeth CR "may_live" (PuL2 K (fun (r : Rpt) (x : Int) => r.C = CR ∧ r.v.C = CV ∧ hs r.v.n x) (fun r x => mayE r.v.n r.v.es r.rs x)) [] E ta (tCons tb tNil)) (mayE r.v.n r.v.es r.rs x) :=
  en_rm1 (pre := fun (r : Rpt) (x : Int) => r.C = CR ∧ r.v.C = CV ∧ hs r.v.n x) (f := fun r x => mayE r.v.n r.v.es r.rs x) ha hb hC (by decide +kernel) ⟨hC, hV, hx⟩
def sp_mid (K : PySem.W.Frag) (CV : Addr) : Sp := fun vs H Q _ => ∃ (F : Hp) (v : Vil) (l : List (Int × Int)) (e : Int × Int) (w u x : V), vs = [w, u, x] ∧ Ex F H ∧ R K F w v ∧ R K F u l ∧ R K F x e ∧ v.C = CV ∧ hs v.n e.1 ∧ hs v.n e.2 ∧ (∀ e ∈ l, hs v.n e.1 ∧ hs v.n e.2) ∧ l.length ≤ 1000 ∧
  ∀ x F' H', Stp F H F' H' → R K F' x (midB v.es l e) → Q x H'
theorem ev_mid {v : Vil} {l : List (Int × Int)} {e : Int × Int} (ha : EvX K F G σ ta v) (hb : EvX K F G σ tb l) (hc : EvX K F G σ tc e) (hC : v.C = CV) (h1 : hs v.n e.1) (h2 : hs v.n e.2) (h3 : ∀ e ∈ l, hs v.n e.1 ∧ hs v.n e.2) (h4 : l.length ≤ 1000) :
    EvX K F G σ (tCall (sp_mid K CV) [] E (tCons ta (tCons tb (tCons tc tNil)))) (midB v.es l e) := fun H ee g Q k =>
  ha H ee g _ fun w F1 H1 s1 r1 => (hb.up s1.ff) H1 s1.fh (g.trans s1.hh) _ fun u F2 H2 s2 r2 => (hc.up (s1.ff.trans s2.ff)) H2 s2.fh ((g.trans s1.hh).trans s2.hh) _ fun x F3 H3 s3 r3 =>
    ⟨F3, v, l, e, w, u, x, rfl, s3.fh, Rep.mono (s2.ff.trans s3.ff) r1, Rep.mono s3.ff r2, r3, hC, h1, h2, h3, h4, fun z F5 H5 s5 r5 => k z F5 H5 (((s1.trans s2).trans s3).trans s5) r5⟩
/-- the law's own -/
def sp_chL (K : PySem.W.Frag) : Sp := fun vs H Q _ => ∃ (F : Hp) (n : Int) (es : Tr.Roads) (l : List (Int × Int)) (w u x : V), vs = [w, u, x] ∧ Ex F H ∧ R K F w es ∧ R K F u (farD n es) ∧ R K F x l ∧ IsTree n es ∧ n ≤ 60 ∧ (∀ e ∈ l, hs n e.1 ∧ hs n e.2) ∧ l.length ≤ 1000 ∧
  ∀ x F' H', Stp F H F' H' → R K F' x ((midL es (held es) l).head?) → Q x H'
theorem ev_chL {n : Int} {es : Tr.Roads} {l : List (Int × Int)} (ha : EvX K F G σ ta es) (hb : EvX K F G σ tb (farD n es)) (hc : EvX K F G σ tc l) (T : IsTree n es) (hn : n ≤ 60) (h3 : ∀ e ∈ l, hs n e.1 ∧ hs n e.2) (h4 : l.length ≤ 1000) :
    EvX K F G σ (tCall (sp_chL K) [] E (tCons ta (tCons tb (tCons tc tNil)))) ((midL es (held es) l).head?) := fun H ee g Q k =>
  ha H ee g _ fun w F1 H1 s1 r1 => (hb.up s1.ff) H1 s1.fh (g.trans s1.hh) _ fun u F2 H2 s2 r2 => (hc.up (s1.ff.trans s2.ff)) H2 s2.fh ((g.trans s1.hh).trans s2.hh) _ fun x F3 H3 s3 r3 =>
    ⟨F3, n, es, l, w, u, x, rfl, s3.fh, Rep.mono (s2.ff.trans s3.ff) r1, Rep.mono s3.ff r2, r3, T, hn, h3, h4, fun z F5 H5 s5 r5 => k z F5 H5 (((s1.trans s2).trans s3).trans s5) r5⟩
end
end L3

/-! papers that one is surely at home: two reports are enough -/
namespace L3
open PySem L2
open Rep (R)
open RepD (toD)
open Evl (Ex ex_l ex_t fresh_back sz_of sz_lt ixN_nat)
open Tr (adj hs IsTree TreeOn dist)
noncomputable def shB (n : Int) (es : Tr.Roads) (c : Int) (l : List (Int × Int)) : Bool := decide (mayE n es l c = [c])
theorem single_iff {l : List Int} {c : Int} (nd : l.Nodup) : l = [c] ↔ ∀ p, p ∈ l ↔ p = c := by
  constructor
  · rintro rfl p
    simp
  · intro h
    cases l with
    | nil => exact absurd ((h c).mpr rfl) (by simp)
    | cons a r =>
      have ha := (h a).mp List.mem_cons_self
      subst ha
      cases r with
      | nil => rfl
      | cons b r =>
        have hb := (h b).mp (by simp)
        subst hb
        simp at nd
theorem shB_iff {n : Int} {es : Tr.Roads} {c : Int} {l : List (Int × Int)} : shB n es c l = true ↔ ∀ p, MayP n es l c p ↔ p = c := by
  unfold shB
  have nd : (mayE n es l c).Nodup := by
    unfold mayE
    exact List.Pairwise.filter _ (rng_nodup n)
  rw [decide_eq_true_iff, single_iff nd]
  simp only [mem_mayE]
theorem shB_held {n : Int} {es : Tr.Roads} {c : Int} {l : List (Int × Int)} : shB n (held es) c l = shB n es c l := by
  unfold shB
  rw [mayE_held]
theorem shB_mems {n : Int} {es : Tr.Roads} {c : Int} {l m : List (Int × Int)} (h : ∀ e, e ∈ l ↔ e ∈ m) : shB n es c l = shB n es c m := by
  unfold shB
  rw [mayE_mems h]
section
variable {n : Int} {es : Tr.Roads} (T : IsTree n es) {c : Int} (hc : hs n c)
include T hc in
theorem tight_out {e : Int × Int} {p : Int} (h2 : hs n e.2) (hp : hs n p) (hne : c ≠ p) (ht : dist es c e.1 = dist es c e.2) (hd : dist es (toN es p c) e.2 = dist es c e.2 + 1) : ¬ dist es p e.2 ≤ dist es c e.1 := by
  obtain ⟨a, hdn, hdd⟩ := toN_ok T hc hp hne
  rw [Tr.dist_symm T hdn h2, Tr.dist_symm T hc h2] at hd
  have h0 := Tr.dist_nn T hdn hp
  have hw := walk_out T h2 hp (dist es (toN es p c) p).toNat c (toN es p c) a hd hdd.symm (by omega)
  rw [Tr.dist_symm T hp h2, ht, Tr.dist_symm T hc h2, hw]
  omega
include T hc in
/-- two reports are enough, by which one is surely at home -/
theorem two_enough {l : List (Int × Int)} (hr : ∀ e ∈ l, hs n e.1 ∧ hs n e.2) (h : shB n es c l = true) : shB n es c [] = true ∨ (∃ e ∈ l, shB n es c [e] = true) ∨ ∃ e ∈ l, ∃ o ∈ l, shB n es c [e, o] = true := by
  have hM := shB_iff.mp h
  have hself := ((hM c).mpr rfl).2
  by_cases hone : ∀ p, hs n p → p = c
  · exact .inl (shB_iff.mpr fun p => ⟨fun q => hone p q.1, fun q => by subst q; exact ⟨hc, by simp⟩⟩)
  refine .inr ?_
  obtain ⟨y, hy, hyc⟩ : ∃ y, hs n y ∧ y ≠ c := by
    apply Classical.byContradiction
    intro q
    exact hone fun p hp => Classical.byContradiction fun z => q ⟨p, hp, z⟩
  have A : ∀ d, adj es c d → ∃ e ∈ l, dist es d e.2 = dist es c e.2 + 1 ∧ dist es c e.1 = dist es c e.2 := fun d a => by
    have hd := (Tr.adj_hs T a).2
    have hdc : d ≠ c := (Tr.adj_ne T a).symm
    have : ∃ e ∈ l, ¬ dist es d e.2 ≤ dist es c e.1 := by
      apply Classical.byContradiction
      intro q
      exact hdc ((hM d).mp ⟨hd, fun e he => Classical.byContradiction fun z => q ⟨e, he, z⟩⟩)
    obtain ⟨e, he, hq⟩ := this
    have h2 := (hr e he).2
    have hs' := hself e he
    refine ⟨e, he, ?_⟩
    rw [Tr.dist_symm T hd h2] at hq ⊢
    rw [Tr.dist_symm T hc h2] at hs' ⊢
    rcases dist_edge T h2 a with q | q <;> omega
  have self : ∀ m : List (Int × Int), (∀ e ∈ m, e ∈ l) → MayP n es m c c := fun m hm => ⟨hc, fun e he => hself e (hm e he)⟩
  obtain ⟨e0, he0, hd0, ht0⟩ := A _ (toN_ok T hc hy hyc.symm).1
  have h02 := (hr e0 he0).2
  by_cases hz : c = e0.2
  · refine .inl ⟨e0, he0, shB_iff.mpr fun p => ⟨fun q => ?_, fun q => by subst q; exact self _ fun e he => by rw [List.mem_singleton.mp he]; exact he0⟩⟩
    have hp := q.1
    have := q.2 e0 List.mem_cons_self
    rw [ht0, ← hz, Tr.dist_self T hc] at this
    have h0 := Tr.dist_nn T hp hc
    exact ((Tr.dist_zero T hp hc).mp (by omega)).symm
  · obtain ⟨a1, hd1n, hd1⟩ := toN_ok T hc h02 hz
    obtain ⟨e1, he1, hd1', ht1⟩ := A _ a1
    refine .inr ⟨e0, he0, e1, he1, shB_iff.mpr fun p => ⟨fun q => ?_, fun q => by
      subst q
      refine self _ fun e he => ?_
      simp only [List.mem_cons, List.not_mem_nil, or_false] at he
      rcases he with rfl | rfl
      · exact he0
      · exact he1⟩⟩
    apply Classical.byContradiction
    intro hpc
    have hpc' : c ≠ p := fun z => hpc z.symm
    have hp := q.1
    have q0 := q.2 e0 List.mem_cons_self
    have q1 := q.2 e1 (by simp)
    obtain ⟨ad, hdn, hdd⟩ := toN_ok T hc hp hpc'
    by_cases hdd1 : toN es p c = toN es e0.2 c
    · rw [← hdd1] at hd1'
      exact tight_out T hc (hr e1 he1).2 hp hpc' ht1 hd1' q1
    · have : dist es (toN es p c) e0.2 = dist es c e0.2 + 1 := by
        rw [Tr.dist_symm T hdn h02, Tr.dist_symm T hc h02]
        rcases dist_edge T h02 ad with g | g
        · exact g
        · exfalso
          rw [Tr.dist_symm T hd1n h02, Tr.dist_symm T hc h02] at hd1
          exact hdd1 (parent_uniq T h02 hdn hd1n ad.symm a1.symm g.symm hd1)
      exact tight_out T hc h02 hp hpc' ht0 this q0
end
/-! the search for it -/
structure IsPaper (sh : List (Int × Int) → Bool) (R : List (Int × Int)) (xs : List (Int × Int)) : Prop where
  ok : (xs = [] ∧ sh [] = true) ∨ (sh [] = false ∧ ∃ (i : Nat) (e : Int × Int), R[i]? = some e ∧ xs = [e] ∧ sh [e] = true ∧ ∀ e' ∈ R.take i, sh [e'] = false) ∨
    (sh [] = false ∧ (∀ e ∈ R, sh [e] = false) ∧ ∃ (i j : Nat) (e o : Int × Int), R[i]? = some e ∧ R[j]? = some o ∧ i < j ∧ xs = [e, o] ∧ sh [e, o] = true ∧
      ∀ (i' j' : Nat) (e' o' : Int × Int), R[i']? = some e' → R[j']? = some o' → i' < j' → (i' < i ∨ (i' = i ∧ j' < j)) → sh [e', o'] = false)
theorem IsPaper.uniq {sh : List (Int × Int) → Bool} {R xs ys : List (Int × Int)} (a : IsPaper sh R xs) (b : IsPaper sh R ys) : xs = ys := by
  have one : ∀ {i k : Nat} {e e' : Int × Int}, R[i]? = some e → sh [e] = true → (∀ z ∈ R.take k, sh [z] = false) → ¬ i < k := fun {i k e e'} h1 h2 h3 hk => by
    have hm : e ∈ R.take k := by
      refine List.mem_of_getElem? (i := i) ?_
      rw [List.getElem?_take_of_lt hk]
      exact h1
    rw [h3 e hm] at h2
    cases h2
  rcases a.ok with ⟨rfl, a0⟩ | ⟨a0, i, e, a1, rfl, a2, a3⟩ | ⟨a0, a1, i, j, e, o, a2, a3, a4, rfl, a5, a6⟩ <;> rcases b.ok with ⟨rfl, b0⟩ | ⟨b0, i', e', b1, rfl, b2, b3⟩ | ⟨b0, b1, i', j', e', o', b2, b3, b4, rfl, b5, b6⟩
  · rfl
  · rw [a0] at b0; cases b0
  · rw [a0] at b0; cases b0
  · rw [a0] at b0; cases b0
  · have h1 := one (e' := e) a1 a2 b3
    have h2 := one (e' := e) b1 b2 a3
    have : i = i' := by omega
    subst this
    rw [a1] at b1
    cases b1
    rfl
  · rw [b1 e (List.mem_of_getElem? a1)] at a2; cases a2
  · rw [a0] at b0; cases b0
  · rw [a1 e' (List.mem_of_getElem? b1)] at b2; cases b2
  · have h1 : ¬ (i < i' ∨ (i = i' ∧ j < j')) := fun z => by
      rw [b6 i j e o a2 a3 a4 z] at a5; cases a5
    have h2 : ¬ (i' < i ∨ (i' = i ∧ j' < j)) := fun z => by
      rw [a6 i' j' e' o' b2 b3 b4 z] at b5; cases b5
    have e1 : i = i' := by omega
    have e2 : j = j' := by omega
    subst e1 e2
    rw [a2] at b2
    rw [a3] at b3
    cases b2; cases b3
    rfl
theorem cut_from {α : Type} [Rep α] {l : List α} {i : Int} (h0 : 0 ≤ i) (hi : i ≤ l.length) : cutX l (some i) none = l.drop i.toNat := by
  unfold cutX
  have h1 : HT.sIx l.length l.length none = l.length := rfl
  have h2 : HT.sIx l.length 0 (some i) = i.toNat := by
    obtain ⟨k, rfl⟩ := Int.eq_ofNat_of_zero_le h0
    rw [HT.sIx_nat, Int.toNat_natCast]
    exact Nat.min_eq_left (by omega)
  rw [h1, h2]
  exact List.take_of_length_le (by rw [List.length_drop]; exact Nat.le_refl _)
theorem no_paper {n : Int} {es : Tr.Roads} (T : IsTree n es) {c : Int} (hc : hs n c) {l : List (Int × Int)} (hr : ∀ e ∈ l, hs n e.1 ∧ hs n e.2) (h : shB n es c l = true) (h0 : shB n es c [] = false) (h1 : ∀ e ∈ l, shB n es c [e] = false)
    (h2 : ∀ (i' j' : Nat) (e' o' : Int × Int), l[i']? = some e' → l[j']? = some o' → i' < j' → i' < l.length → shB n es c [e', o'] = false) : False := by
  rcases two_enough T hc hr h with q | ⟨e, he, q⟩ | ⟨e, he, o, ho, q⟩
  · rw [h0] at q; cases q
  · rw [h1 e he] at q; cases q
  · obtain ⟨i, hi, ei⟩ := List.mem_iff_getElem.mp he
    obtain ⟨j, hj, ej⟩ := List.mem_iff_getElem.mp ho
    have gi : l[i]? = some e := by rw [List.getElem?_eq_getElem hi, ei]
    have gj : l[j]? = some o := by rw [List.getElem?_eq_getElem hj, ej]
    rcases Nat.lt_trichotomy i j with g | g | g
    · rw [h2 i j e o gi gj g hi] at q; cases q
    · subst g
      rw [gi] at gj
      cases gj
      rw [shB_mems (m := [e]) (fun z => by simp), h1 e he] at q
      cases q
    · rw [shB_mems (m := [o, e]) (fun z => by simp [or_comm]), h2 j i o e gj gi g hj] at q
      cases q
def sp_shows (K : PySem.W.Frag) (CV : Addr) : Sp := fun vs H Q _ => ∃ (F : Hp) (v : Vil) (l : List (Int × Int)) (c : Int) (w u : V), vs = [w, u, .int c] ∧ Ex F H ∧ R K F w v ∧ R K F u l ∧ v.C = CV ∧ hs v.n c ∧ (∀ e ∈ l, hs v.n e.1 ∧ hs v.n e.2) ∧ l.length ≤ 1000 ∧ (∀ e ∈ l, dist v.es c e.2 ≤ dist v.es c e.1) ∧
  ∀ x F' H', Stp F H F' H' → R K F' x (shB v.n v.es c l) → Q x H'
def sp_lshows (K : PySem.W.Frag) : Sp := fun vs H Q _ => ∃ (F : Hp) (n c : Int) (es : Tr.Roads) (l : List (Int × Int)) (w u : V), vs = [w, u, .int c] ∧ Ex F H ∧ R K F w (farD n es) ∧ R K F u l ∧ IsTree n es ∧ n ≤ 60 ∧ hs n c ∧ (∀ e ∈ l, hs n e.1 ∧ hs n e.2) ∧ l.length ≤ 1000 ∧
  ∀ x F' H', Stp F H F' H' → R K F' x (shB n es c l) → Q x H'
def PapO (sh : List (Int × Int) → Bool) (R : List (Int × Int)) (o : Option (List (Int × Int))) : Prop := (sh R = false ∧ o = none) ∨ (sh R = true ∧ ∃ xs, o = some xs ∧ IsPaper sh R xs)
theorem PapO.uniq {sh : List (Int × Int) → Bool} {R : List (Int × Int)} {o q : Option (List (Int × Int))} (a : PapO sh R o) (b : PapO sh R q) : o = q := by
  rcases a with ⟨a1, rfl⟩ | ⟨a1, xs, rfl, a2⟩ <;> rcases b with ⟨b1, rfl⟩ | ⟨b1, ys, rfl, b2⟩
  · rfl
  · rw [a1] at b1; cases b1
  · rw [a1] at b1; cases b1
  · rw [a2.uniq b2]
def sp_lpaper (K : PySem.W.Frag) : Sp := fun vs H Q _ => ∃ (F : Hp) (n c : Int) (es : Tr.Roads) (l : List (Int × Int)) (w u : V), vs = [w, u, .int c] ∧ Ex F H ∧ R K F w (farD n es) ∧ R K F u l ∧ IsTree n es ∧ n ≤ 60 ∧ hs n c ∧ (∀ e ∈ l, hs n e.1 ∧ hs n e.2) ∧ l.length ≤ 1000 ∧
  ∀ o x F' H', PapO (shB n es c) (sortP l) o → Stp F H F' H' → R K F' x o → Q x H'
/-- a paper, a list of its own -/
def sp_paper (K : PySem.W.Frag) (CR CV : Addr) : Sp := fun vs H Q _ => ∃ (F : Hp) (r : Rpt) (c : Int) (w : V), vs = [w, .int c] ∧ Ex F H ∧ R K F w r ∧ r.C = CR ∧ r.v.C = CV ∧ hs r.v.n c ∧
  (∀ H', PapO (shB r.v.n r.v.es c) r.rs none → Ex H H' → Q .non H') ∧
  ∀ xs p us F' H', PapO (shB r.v.n r.v.es c) r.rs (some xs) → Stp F H F' H' → H p = none → F' p = none → H' p = some (.lst us) → All2 (R K F') us xs → Q (.ref p) H'
section
variable {K : PySem.W.Frag} {F G H H' : Hp} {σ : L2.St} {ta tb tc td te : TE} {E : XK} {CR CV : Addr}
theorem ev_shows {v : Vil} {l : List (Int × Int)} {c : Int} (ha : EvX K F G σ ta v) (hb : EvX K F G σ tb l) (hc : EvX K F G σ tc c) (hC : v.C = CV) (h1 : hs v.n c) (h3 : ∀ e ∈ l, hs v.n e.1 ∧ hs v.n e.2) (h4 : l.length ≤ 1000) (h5 : ∀ e ∈ l, dist v.es c e.2 ≤ dist v.es c e.1) :
    EvX K F G σ (tCall (sp_shows K CV) [] E (tCons ta (tCons tb (tCons tc tNil)))) (shB v.n v.es c l) := fun H ee g Q k =>
  ha H ee g _ fun w F1 H1 s1 r1 => (hb.up s1.ff) H1 s1.fh (g.trans s1.hh) _ fun u F2 H2 s2 r2 => (hc.up (s1.ff.trans s2.ff)) H2 s2.fh ((g.trans s1.hh).trans s2.hh) _ fun x F3 H3 s3 r3 => by
    cases r3
    exact ⟨F3, v, l, c, w, u, rfl, s3.fh, Rep.mono (s2.ff.trans s3.ff) r1, Rep.mono s3.ff r2, hC, h1, h3, h4, h5, fun z F5 H5 s5 r5 => k z F5 H5 (((s1.trans s2).trans s3).trans s5) r5⟩
theorem ev_lshows {n c : Int} {es : Tr.Roads} {l : List (Int × Int)} (ha : EvX K F G σ ta (farD n es)) (hb : EvX K F G σ tb l) (hc : EvX K F G σ tc c) (T : IsTree n es) (hn : n ≤ 60) (h1 : hs n c) (h3 : ∀ e ∈ l, hs n e.1 ∧ hs n e.2) (h4 : l.length ≤ 1000) :
    EvX K F G σ (tCall (sp_lshows K) [] E (tCons ta (tCons tb (tCons tc tNil)))) (shB n es c l) := fun H ee g Q k =>
  ha H ee g _ fun w F1 H1 s1 r1 => (hb.up s1.ff) H1 s1.fh (g.trans s1.hh) _ fun u F2 H2 s2 r2 => (hc.up (s1.ff.trans s2.ff)) H2 s2.fh ((g.trans s1.hh).trans s2.hh) _ fun x F3 H3 s3 r3 => by
    cases r3
    exact ⟨F3, n, c, es, l, w, u, rfl, s3.fh, Rep.mono (s2.ff.trans s3.ff) r1, Rep.mono s3.ff r2, T, hn, h1, h3, h4, fun z F5 H5 s5 r5 => k z F5 H5 (((s1.trans s2).trans s3).trans s5) r5⟩
theorem ev_paperK {r : Rpt} {c : Int} {o : Option (List (Int × Int))} (ha : EvX K F G σ ta r) (hb : EvX K F G σ tb c) (hC : r.C = CR) (hV : r.v.C = CV) (hc : hs r.v.n c) (hp : PapO (shB r.v.n r.v.es c) r.rs o) :
    EvX K F G σ (tCallKw (sp_paper K CR CV) 2 List.reverse E (tCons tb (tCons ta tNil))) o := fun H ee g Q k =>
  hb H ee g _ fun u F1 H1 s1 r1 => (ha.up s1.ff) H1 s1.fh (g.trans s1.hh) _ fun w F2 H2 s2 r2 => by
    cases r1
    refine ⟨rfl, F2, r, c, w, rfl, s2.fh, r2, hC, hV, hc, fun H' q e => ?_, fun xs p us F' H' q s n0 n1 h1 r1 => ?_⟩
    · have := hp.uniq q
      subst this
      exact k .non F2 H' ((s1.trans s2).ext e) rfl
    · have := hp.uniq q
      subst this
      exact k (.ref p) (upd F' p (.lst us)) H' ((s1.trans s2).trans (s.frz n0 n1 h1)) ⟨p, us, rfl, upd_same, r1.imp fun _ _ => Rep.mono (Ex.new n1)⟩
end
end L3

/-! all reports of a tale; who is at home hangs together -/
namespace L3
open PySem L2
open Rep (R)
open RepD (toD)
open Evl (Ex ex_l ex_t fresh_back sz_of sz_lt ixN_nat)
open Tr (adj hs IsTree TreeOn dist)
def hmL (n : Int) (st : List Int) : List Int := (rng n).filter fun x => decide (stAt st x = x)
theorem mem_hm {n : Int} {st : List Int} {x : Int} : x ∈ hmL n st ↔ hs n x ∧ stAt st x = x := by
  unfold hmL
  rw [List.mem_filter, mem_rng, decide_eq_true_iff]
  exact Iff.rfl
theorem hm_nodup {n : Int} {st : List Int} : (hmL n st).Nodup := List.Pairwise.filter _ (rng_nodup n)
noncomputable def pairL (n : Int) (es : Tr.Roads) (st : List Int) : List (Int × Int) := (((rng n).filter fun x => decide (x < stAt st x) && decide (stAt st (stAt st x) = x)).map fun x => (x, stAt st x)).filter fun p => decide (dist es p.1 p.2 = 1)
section
variable {n : Int} {es : Tr.Roads} (T : IsTree n es) {l : List (Int × Int)} {st : List Int} (A : Tale n es st) (hl : ∀ e ∈ l, hs n e.1 ∧ stAt st e.1 = e.2) (hf : ∀ x, hs n x → (x, stAt st x) ∈ l)
include T A hl hf in
theorem mayHome_full : mayHomeE n es l = hmL n st := by
  unfold mayHomeE hmL
  refine List.filter_congr fun c hc => ?_
  have hc' := mem_rng.mp hc
  apply Bool.eq_iff_iff.mpr
  rw [isBy_iff, decide_eq_true_iff]
  constructor
  · intro h
    have := h _ (hf c hc')
    simp only at this
    rw [Tr.dist_self T hc'] at this
    have h0 := Tr.dist_nn T hc' (A.hs hc')
    exact (Tr.dist_zero T hc' (A.hs hc')).mp (by omega)
  · intro h
    exact (mem_mayHome.mp (home_may T A hl hc' h)).2
include T A hl hf in
theorem sure_full : sureE n es l = hmL n st := by
  unfold sureE hmL
  refine List.filter_congr fun c hc => ?_
  have hc' := mem_rng.mp hc
  have hM : ∀ p, MayP n es l c p ↔ p = stAt st c := fun p => by
    constructor
    · intro h
      have := h.2 _ (hf c hc')
      simp only at this
      rw [Tr.dist_self T hc'] at this
      have h0 := Tr.dist_nn T h.1 (A.hs hc')
      exact ((Tr.dist_zero T h.1 (A.hs hc')).mp (by omega)).symm
    · rintro rfl
      refine ⟨A.hs hc', fun e he => ?_⟩
      obtain ⟨h1, h2⟩ := hl e he
      rw [← h2]
      exact tale_short T A hc' h1
  show shB n es c l = _
  apply Bool.eq_iff_iff.mpr
  rw [shB_iff, decide_eq_true_iff]
  constructor
  · intro h
    exact ((h _).mp ((hM _).mpr rfl))
  · intro h p
    rw [hM, h]
include T A hl hf in
theorem mid_full (hn : homes st = []) {e : Int × Int} (he : adj es e.1 e.2) : midB es l e = (decide (stAt st e.1 = e.2) && decide (stAt st e.2 = e.1)) := by
  obtain ⟨h1, h2⟩ := Tr.adj_hs T he
  have hno := homes_no A.len hn
  have d1 := (Tr.dist_one T h1 h2).mpr he
  have d2 := Tr.dist_symm T h1 h2
  have key : ∀ a b, hs n a → hs n b → dist es a b = 1 → dist es a (stAt st a) + dist es b (stAt st a) ≤ 1 → stAt st a = b := fun a b ha hb hd h => by
    have hsa := A.hs ha
    have p1 := Tr.dist_pos T ha hsa (hno a ha)
    have p2 := Tr.dist_nn T hb hsa
    exact (Tr.dist_zero T hb hsa).mp (by omega)
  apply Bool.eq_iff_iff.mpr
  rw [mid_iff, Bool.and_eq_true, decide_eq_true_iff, decide_eq_true_iff]
  constructor
  · intro h
    have a1 := h _ (hf _ h1)
    have a2 := h _ (hf _ h2)
    simp only at a1 a2
    rw [Tr.dist_self T h1] at a1
    rw [Tr.dist_self T h2] at a2
    exact ⟨key _ _ h1 h2 d1 (by omega), key _ _ h2 h1 (by omega) (by omega)⟩
  · rintro ⟨q1, q2⟩ x hx
    obtain ⟨r1, r2⟩ := hl x hx
    have b1 := tale_short T A h1 r1
    have b2 := tale_short T A h2 r1
    rw [q1, r2] at b1
    rw [q2, r2] at b2
    omega
theorem homes_hm (h : st.length = n.toNat) : homes st = hmL n st := homes_eq h
include T A hl hf in
theorem chg_full {C : Addr} : (if mayHomeE n es l = [] then some ((midL es (held es) l).headD (0, 0)) else none) = changed ⟨C, n, held es⟩ st := by
  rw [mayHome_full T A hl hf, ← homes_hm A.len]
  unfold changed
  by_cases hn : homes st = []
  · rw [if_pos hn, if_pos hn]
    congr 2
    show (held es).filter (midB es l) = _
    exact List.filter_congr fun e he => mid_full T A hl hf hn ((adj_held es e.1 e.2).mp (.inl he))
  · rw [if_neg hn, if_neg hn]
include T A in
theorem mem_pairL {e : Int × Int} : e ∈ pairL n es st ↔ ∃ e0 ∈ es, e = normR e0 ∧ stAt st e0.1 = e0.2 ∧ stAt st e0.2 = e0.1 := by
  unfold pairL
  rw [List.mem_filter, List.mem_map]
  constructor
  · rintro ⟨⟨x, hx, rfl⟩, hd⟩
    obtain ⟨h1, h2⟩ := List.mem_filter.mp hx
    have hx' := mem_rng.mp h1
    simp only [Bool.and_eq_true, decide_eq_true_eq] at h2 hd
    have a := (Tr.dist_one T hx' (A.hs hx')).mp hd
    rcases a with a | a
    · refine ⟨_, a, ?_, rfl, h2.2⟩
      unfold normR
      rw [Int.min_eq_left (by simp only; omega), Int.max_eq_right (by simp only; omega)]
    · refine ⟨_, a, ?_, h2.2, rfl⟩
      unfold normR
      rw [Int.min_eq_right (by simp only; omega), Int.max_eq_left (by simp only; omega)]
  · rintro ⟨e0, he, rfl, h1, h2⟩
    have a : adj es e0.1 e0.2 := .inl he
    have ne := Tr.adj_ne T a
    obtain ⟨q1, q2⟩ := Tr.adj_hs T a
    have d1 := (Tr.dist_one T q1 q2).mpr a
    have d2 := Tr.dist_symm T q1 q2
    unfold normR
    rcases Int.le_total e0.1 e0.2 with z | z
    · rw [Int.min_eq_left z, Int.max_eq_right z]
      refine ⟨⟨e0.1, List.mem_filter.mpr ⟨mem_rng.mpr q1, ?_⟩, by rw [h1]⟩, by simp only [decide_eq_true_eq]; exact d1⟩
      simp only [Bool.and_eq_true, decide_eq_true_eq]
      rw [h1]
      exact ⟨by omega, h2⟩
    · rw [Int.min_eq_right z, Int.max_eq_left z]
      refine ⟨⟨e0.2, List.mem_filter.mpr ⟨mem_rng.mpr q2, ?_⟩, by rw [h2]⟩, by simp only [decide_eq_true_eq]; omega⟩
      simp only [Bool.and_eq_true, decide_eq_true_eq]
      rw [h2]
      exact ⟨by omega, h1⟩
theorem pairL_nodup : (pairL n es st).Nodup := by
  unfold pairL
  refine List.Pairwise.filter _ ?_
  refine List.pairwise_map.mpr ?_
  exact ((List.Pairwise.filter _ (rng_nodup n))).imp fun h z => h (congrArg Prod.fst z)
include T A in
theorem pairL_one {C : Addr} (hn : homes st = []) : (pairL n es st).length = 1 ∧ changed ⟨C, n, held es⟩ st = some ((pairL n es st).headD (0, 0)) := by
  obtain ⟨h1, h2⟩ := changed_law (C := C) T A hn (l := pairL n es st) fun e => mem_pairL T A
  refine ⟨?_, h2⟩
  have nd := pairL_nodup (n := n) (es := es) (st := st)
  have all : ∀ a ∈ pairL n es st, ∀ b ∈ pairL n es st, a = b := fun a ha b hb => by
    obtain ⟨e0, g1, rfl, g2, g3⟩ := (mem_pairL T A).mp ha
    obtain ⟨e1, k1, rfl, k2, k3⟩ := (mem_pairL T A).mp hb
    rcases changed_uniq T A (x := e0.1) (y := e0.2) (u := e1.1) (v := e1.2) (.inl g1) (.inl k1) g2 g3 k2 k3 with ⟨w1, w2⟩ | ⟨w1, w2⟩
    · unfold normR; rw [w1, w2]
    · unfold normR; rw [w1, w2, Int.min_comm, Int.max_comm]
  match hq : pairL n es st with
  | [] => exact absurd hq h1
  | [a] => rfl
  | a :: b :: r =>
    exfalso
    rw [hq] at nd all
    have := all a (by simp) b (by simp)
    subst this
    simp at nd
end
/-! hanging together -/
structure Hang (n : Int) (es : Tr.Roads) (hm : List Int) (s : Int) (t : Nat) (row : List Int) : Prop where
  nd : row.Nodup
  sub : ∀ x ∈ row, x ∈ hm
  mem : s ∈ row
  done : ∀ (i : Nat) (u y : Int), i < t → row[i]? = some u → adj es u y → y ∈ hm → y ∈ row
  le : t ≤ row.length
def hangN (es : Tr.Roads) (hm row : List Int) (u : Int) : List Int := (nb es u).filter fun y => decide (y ∈ hm) && !decide (y ∈ row)
section
variable {n : Int} {es : Tr.Roads} (T : IsTree n es) {hm : List Int} {s : Int} {t : Nat} {row : List Int}
include T in
theorem hang_step (h : Hang n es hm s t row) {u : Int} (hu : row[t]? = some u) : Hang n es hm s (t + 1) (row ++ hangN es hm row u) := by
  have hN : ∀ y, y ∈ hangN es hm row u ↔ y ∈ nb es u ∧ y ∈ hm ∧ y ∉ row := fun y => by
    unfold hangN
    rw [List.mem_filter]
    simp
  have htl := (List.getElem?_eq_some_iff.mp hu).1
  refine ⟨List.nodup_append.mpr ⟨h.nd, List.Pairwise.filter _ (nb_nodup T u), fun a ha b hb z => ((hN b).mp hb).2.2 (z ▸ ha)⟩, fun x hx => ?_, List.mem_append_left _ h.mem, fun i w y hi hw a hy => ?_, by rw [List.length_append]; omega⟩
  · rcases List.mem_append.mp hx with q | q
    · exact h.sub x q
    · exact ((hN x).mp q).2.1
  · rw [List.getElem?_append_left (by omega)] at hw
    by_cases z : i = t
    · subst z
      rw [hu] at hw
      cases hw
      by_cases hr : y ∈ row
      · exact List.mem_append_left _ hr
      · exact List.mem_append_right _ ((hN y).mpr ⟨nb_mem (Tr.adj_ne T a) a, hy, hr⟩)
    · exact List.mem_append_left _ (h.done i w y (by omega) hw a hy)
include T in
theorem hang_len (h : Hang n es hm s t row) (hr : ∀ x ∈ hm, hs n x) : row.length ≤ n.toNat := by
  have := nodup_le row (rng n) h.nd fun x hx => mem_rng.mpr (hr x (h.sub x hx))
  rwa [rng_len] at this
include T in
theorem hang_all {st : List Int} (A : Tale n es st) (h : Hang n es (hmL n st) s t row) (ht : row.length ≤ t) : ∀ (k : Nat) (y : Int), y ∈ hmL n st → dist es y s = (k : Int) → y ∈ row := by
  have hsm := mem_hm.mp (h.sub s h.mem)
  intro k
  induction k with
  | zero =>
    intro y hy hd
    have := (Tr.dist_zero T (mem_hm.mp hy).1 hsm.1).mp hd
    exact this ▸ h.mem
  | succ k ih =>
    intro y hy hd
    obtain ⟨hy1, hy2⟩ := mem_hm.mp hy
    have hne : y ≠ s := fun z => by
      subst z
      rw [Tr.dist_self T hy1] at hd
      omega
    obtain ⟨a, hn', hdd⟩ := toN_ok T hy1 hsm.1 hne
    have hw : toN es s y ∈ wayL es y s := mem_trail.mpr ⟨1, by omega, rfl⟩
    have hfix := way_home T A hy1 hsm.1 hy2 hsm.2 hw
    have hin := ih _ (mem_hm.mpr ⟨hn', hfix⟩) (by omega)
    obtain ⟨i, hi, e⟩ := List.mem_iff_getElem.mp hin
    exact h.done i _ y (by omega) (by rw [List.getElem?_eq_getElem hi, e]) a.symm hy
include T in
theorem hang_sorted {st : List Int} (A : Tale n es st) (h : Hang n es (hmL n st) s t row) (ht : row.length ≤ t) : sortI row = sortI (hmL n st) := by
  have hsm := mem_hm.mp (h.sub s h.mem)
  have p : row.Perm (hmL n st) := (List.perm_ext_iff_of_nodup h.nd hm_nodup).mpr fun x => ⟨h.sub x, fun hx => by
    have h0 := Tr.dist_nn T (mem_hm.mp hx).1 hsm.1
    exact hang_all T A h ht (dist es x s).toNat x hx (by omega)⟩
  exact sortI_uniq ((sortI_perm row).trans p) (sortI_sorted row)
end
theorem x_augI1 {D : Ends} {σ : L2.St} {H : Hp} {i : Nat} {a b c : Int} (hs : σ[i]? = some (some (.int a))) (hc : a + b = c) (k : D.nx (σ.set i (some (.int c))) H) : tAug i (tC (.int b)) rIpA D σ H := by
  subst hc
  exact ⟨_, hs, .inl ⟨a, b, rfl, rfl, k⟩⟩
def sp_hang (K : PySem.W.Frag) : Sp := fun vs H Q _ => ∃ (F : Hp) (n : Int) (es : Tr.Roads) (st : List Int) (w u : V), vs = [w, u] ∧ Ex F H ∧ R K F w (doorsL n es) ∧ R K F u (hmL n st) ∧ IsTree n es ∧ n ≤ 60 ∧ Tale n es st ∧ ∀ H', Ex H H' → Q (.bl true) H'
theorem ev_hang {K : PySem.W.Frag} {F G : Hp} {σ : L2.St} {ta tb : TE} {E : XK} {n : Int} {es : Tr.Roads} {st : List Int} (ha : EvX K F G σ ta (doorsL n es)) (hb : EvX K F G σ tb (hmL n st)) (T : IsTree n es) (hn : n ≤ 60) (A : Tale n es st) : EvX K F G σ (tCall (sp_hang K) [] E (tCons ta (tCons tb tNil))) true := fun H ee g Q k =>
  ha H ee g _ fun w F1 H1 s1 r1 => (hb.up s1.ff) H1 s1.fh (g.trans s1.hh) _ fun u F2 H2 s2 r2 =>
    ⟨F2, n, es, st, w, u, rfl, s2.fh, Rep.mono s2.ff r1, r2, T, hn, A, fun H' e => k _ F2 H' ((s1.trans s2).ext e) rfl⟩
end L3

/-! refusals: raised, caught, kept as values -/
namespace L3
open PySem L2 PySem.Spec
open Rep (R)
open Evl (Ex ex_l ex_t fresh_back sz_of sz_lt ixN_nat)
/-- an exception that was caught, at a, of a class, its dict at d -/
def exv (a : Addr) (cls : Value) (d : Option Addr) : HO := .ext fun h => ∃ (oe : Obj) (vs : Array Value), h.get? a = some oe ∧ Zc cls d oe ∧ oe.data = .fields vs
theorem exv_ok {P : Program} {w : World} {H : Hp} {h : Heap} {a : Addr} {cls : Value} {d : Option Addr} {oe : Obj} {vs : Array Value} (e : h.get? a = some oe) (z : Zc cls d oe) (q : oe.data = .fields vs) : ObjOk P w H h a (exv a cls d) :=
  ⟨⟨oe, vs, e, z, q⟩, ⟨oe, e⟩, fun _ _ ⟨o, v, g, r⟩ k => ⟨o, v, k o g, r⟩⟩
theorem exv_at {P : Program} {w : World} {H : Hp} {h : Heap} {a : Addr} {cls : Value} {d : Option Addr} (ok : HOk P w H h) (e : H a = some (exv a cls d)) : ∃ (oe : Obj) (vs : Array Value), h.get? a = some oe ∧ Zc cls d oe ∧ oe.data = .fields vs :=
  (show ObjOk P w H h a (exv a cls d) from ok a _ e).1
section
variable {X : Cx} {pins : List (Addr × Obj)} {σ : L2.St} {H : Hp} {s : Shared}
/-- the caught exception is tracked from the suite on -/
theorem track {a : Addr} {oe : Obj} {vs : Array Value} {cls : Value} {d : Option Addr} (I : Inv X pins σ H s) (ea : s.heap.get? a = some oe) (z : Zc cls d oe) (q : oe.data = .fields vs) (na : H a = none) (nl : a ≠ X.env.locals) (np : ∀ p ∈ X.pn ++ pins, p.1 ≠ a) (n0 : X.s_0.heap.get? a = none) :
    Inv (X.suite a (X.pn ++ pins)) [] σ (upd H a (exv a cls d)) s where
  ok := I.ok.suite _ _
  os := I.os
  bare := I.bare
  base := {
    keep := I.base.keep
    slot := I.base.slot
    free := fun b o e n hx => (upd_ne (fun y => by subst y; rw [n0] at e; cases e)).trans (I.base.free b o e n hx)
    there := I.base.there
    tups := fun b xs e => (upd_ne (ne_of_none (I.base.tups b xs e) na)).trans (I.base.tups b xs e)
    frzs := fun b o u e => (upd_ne (ne_of_none (I.base.frzs b o u e) na)).trans (I.base.frzs b o u e)
    tbls := fun b ps e => by
      obtain ⟨m, g⟩ := I.base.tbls b ps e
      exact ⟨m, (upd_ne (ne_of_none g na)).trans g⟩ }
  loc := I.loc
  cell := I.cell
  free := (upd_ne (Ne.symm nl)).trans I.free
  freeC := fun x c e => (upd_ne (fun y => by
    subst y
    obtain ⟨v, o, ho, hd⟩ := I.cell x c e
    rw [ea] at ho
    cases ho
    rw [q] at hd
    cases hd)).trans (I.freeC x c e)
  pin := fun p hp => by
    have hp' : p ∈ X.pn ++ pins := by rw [List.append_nil] at hp; exact hp
    obtain ⟨g1, g2, g3⟩ := I.pin p hp'
    exact ⟨g1, (upd_ne (np p hp')).trans g2, g3⟩
  hok := fun b u e => by
    by_cases hb : b = a
    · subst hb
      rw [upd_same] at e
      cases e
      exact exv_ok ea z q
    · rw [upd_ne hb] at e
      exact (I.hok b u e).stay (fun c v _ g => g) (fun c g => (upd_ne (ne_of_none g na)).trans g) fun c xs g => (upd_ne (ne_of_none g na)).trans g
  len := I.len
theorem untrack {a : Addr} {pn' : List (Addr × Obj)} (I : Inv (X.suite a (X.pn ++ pins)) pn' σ H s) (ok : X.Ok) : Inv X pins σ H s :=
  ⟨ok, I.os, I.bare, I.base, I.loc, I.cell, I.free, I.freeC, fun p hp => I.pin p (List.mem_append_left _ hp), I.hok, I.len⟩
end
/-- what a clause wishes of an exception of the body: in the suite it is tracked, slot i is its name's -/
def wT (K : PySem.W.Frag) (c : Value) (i : Nat) (ts : Addr → Value → Option Addr → TS) (Wout : WX) (D : Ends) : WX := fun cls d σ H =>
  ∃ b, PySem.W.exmOne K cls c = some b ∧
    (b = true → ∀ a, H a = none → ts a cls d { nx := fun σ1 H1 => D.nx (σ1.set i none) H1, rt := D.rt, bk := fun σ1 H1 => D.bk (σ1.set i none) H1, ct := fun σ1 H1 => D.ct (σ1.set i none) H1 } (σ.set i (some (.ref a))) (upd H a (exv a cls d))) ∧
    (b = false → Wout cls d σ H)
theorem ps_tryT {X : Cx} {x n : Str} {c : Value} {i : Nat} {body su : List Stmt} {b0 : Stmt} {np pos p2 : Pos} {tb : WX → TS} {ts : Addr → Value → Option Addr → TS} {Wout : WX}
    (h1 : X.stack = X.env :: X.outer) (h2 : X.env.frame = some X.env.locals) (h3 : X.ex = []) (h4 : X.N.Nodup) (h5 : X.N[i]? = some n) (h6 : X.env.kindOf n = some .local) (h7 : Names X x c) (tk : Takes X Wout)
    (hbody : ∀ (W : WX) (pn : List (Addr × Obj)) (xe : Value → Shared → Prop), Takes (X.tr pn xe) W → PassesOwn (model X.prog X.w) X.A X.env xe → PSs (X.tr pn xe) body (tb W))
    (hsu : ∀ (a : Addr) (cls : Value) (d : Option Addr) (pn : List (Addr × Obj)), PSs (X.suite a pn) (b0 :: su) (ts a cls d)) :
    PS X (.Try body [.ExceptHandler (some (.Name x np)) (some n) (b0 :: su) p2] [] [] pos) (fun D σ H => tb (wT X.K c i ts Wout D) D σ H) := by
  refine ⟨fun pins s σ H D I0 hD => ?_⟩
  have ok := I0.ok
  have frm : X.A.frames = some (X.env :: X.outer) := ok.frames.trans (congrArg some h1)
  refine wpAny_Try_except (wpAny_mono ((hbody (wT X.K c i ts Wout D) (X.pn ++ pins) (fun e t1 => wpAny (model X.prog X.w) X.A (noteFrame e X.env) (fun _ t2 => wpAny (model X.prog X.w) X.A (setFlight e none) (fun _ t3 =>
    wpAny (model X.prog X.w) X.A (handleBy e X.env [.ExceptHandler (some (.Name x np)) (some n) (b0 :: su) p2]) (SP X pins D) X.xe t3) X.xe t2) X.xe t1) (fun u t0 air => ?_) PassesOwn.looking).run [] s σ H D (I0.toTry _) hD) (fun f t1 hf => ?_) fun _ _ z => z)
  · obtain ⟨a, B, tI, pinsI, σ1, H1, cls, d, rfl, J0, grd, up0, sk, na, os0, bare0, b, hb1, byes, bno⟩ := air
    have J1 : Inv X pins σ1 H1 tI := J0.ofTry ok
    rw [h1] at sk
    show wpAny (model X.prog X.w) X.A (noteFrame (.ref a) X.env) _ _ _
    refine Sky.land Zc.steady frm h2 sk fun g1 fly1 up1 => ?_
    have J2 : Inv X pins σ1 H1 { t0 with heap := g1 } := J1.landed grd fly1.1 (up0.trans up1) os0 bare0
    obtain ⟨ob, vb, eb, zb, db⟩ := fly1.there
    have off : a ∉ frs (X.env :: X.outer) := fun hm => by
      obtain ⟨_, o2, e2, nf⟩ := fly1.2.2.1.mem hm
      rw [eb] at e2
      cases e2
      exact nf _ db
    have nl : a ≠ X.env.locals := fun y => off (List.mem_filterMap.mpr ⟨X.env, List.mem_cons_self, by rw [h2, y]⟩)
    have nf : a ∉ X.fs := fun hm => by
      obtain ⟨e2, m2, q2⟩ := List.mem_filterMap.mp hm
      exact off (List.mem_filterMap.mpr ⟨e2, List.mem_cons_of_mem _ m2, q2⟩)
    have Ba : B.get? a = none := fly1.2.1
    have inB : ∀ {q : Addr} {o : Obj}, tI.heap.get? q = some o → q ∉ frs X.stack → q ≠ a := fun {q o} e nn y => by
      have := grd q o e nn
      rw [y, Ba] at this
      cases this
    have offS : a ∉ frs X.stack := by rw [h1]; exact off
    have npn : ∀ p ∈ X.pn ++ pins, p.1 ≠ a := fun p hp => by
      obtain ⟨g1, g2, g3, g4, _⟩ := J1.pin p hp
      refine inB g1 fun hm => ?_
      rw [h1] at hm
      obtain ⟨e2, m2, q2⟩ := List.mem_filterMap.mp hm
      rcases List.mem_cons.mp m2 with y | y
      · subst y
        rw [h2] at q2
        exact g3 (Option.some.inj q2).symm
      · exact g4 (List.mem_filterMap.mpr ⟨e2, y, q2⟩)
    have n0 : X.s_0.heap.get? a = none := by
      cases e : X.s_0.heap.get? a with
      | none => rfl
      | some o =>
        obtain ⟨o2, e2⟩ := J1.base.there a o e (by rw [h3]; exact fun y => nomatch y)
        exact absurd rfl (inB e2 offS)
    have S2 := track J2 eb zb db na nl npn n0
    refine wpAny_handleBy_cons (codeAny_handlers_test ?_) (by intro q; cases q)
    have ty : PySem.W.Looks (model X.prog X.w) g1 (typeOf (.ref a)) cls := fun A Q E t k q => wpAny_typeOf_ref (k _ _ eb) (by rw [zb.1]; exact q)
    have look := PySem.W.exm_one (M := model X.prog X.w) J2.kIn ty hb1
    have name : ∀ {Q : Value → Shared → Prop} {E : Value → Shared → Prop}, Q c { t0 with heap := g1 } → wpAny (model X.prog X.w) (X.A.mark (some (.ref a))) (eval (.Name x np) X.env) Q E { t0 with heap := g1 } := fun {Q E} q => by
      obtain ⟨gl, dbg, m1 | ⟨m1, m2, m3⟩⟩ := h7
      · exact ld_glob (X := X.suite a (X.pn ++ pins)) S2 gl m1 q dbg
      · exact ld_blt (X := X.suite a (X.pn ++ pins)) S2 gl m1 m2 q m3 dbg
    refine name (look.here ?_)
    cases b with
    | true =>
      refine codeAny_handlers_suite_as (HandSPX.lands_againZ fly1 fun g2 fly2 up2 => ?_)
      have J3 : Inv X pins σ1 H1 { t0 with heap := g2 } := J1.landed grd fly2.1 ((up0.trans up1).trans up2) os0 bare0
      obtain ⟨oc, vc, ec, zc, dc⟩ := fly2.there
      have S3 := track J3 ec zc dc na nl npn n0
      refine store_ok (X := X.suite a (X.pn ++ pins)) (v := .ref a) S3 h4 h5 (.inl h6) rfl (fun t4 S4 => ?_) (.inr h6)
      refine wpAny_mono ((hsu a cls d (X.pn ++ pins)).run [] t4 _ _ _ S4 (byes rfl a na)) (fun f t5 hf => ?_) fun _ _ z => z.elim
      have fin : ∀ {σ2 : L2.St} {H2 : Hp} {Q : Shared → Prop}, Inv (X.suite a (X.pn ++ pins)) [] σ2 H2 t5 → (∀ t6, Inv X pins (σ2.set i none) H2 t6 → Q t6) →
          wpAny (model X.prog X.w) X.A (do bindName X.env n .none; unbindBehindTheSuite X.env n p2) (fun _ t6 => Q t6) X.xe t5 := fun {σ2 H2 Q} S q => gone_ok (untrack S ok) h4 h5 h6 q
      match f, hf with
      | .next, ⟨σ2, H2, S, q⟩ => exact fin S fun t6 J => ⟨_, _, J, q⟩
      | .brk, ⟨σ2, H2, S, q⟩ => exact fin S fun t6 J => ⟨_, _, J, q⟩
      | .cont, ⟨σ2, H2, S, q⟩ => exact fin S fun t6 J => ⟨_, _, J, q⟩
      | .ret u, ⟨v2, σ2, H2, S, r, q⟩ => exact fin S fun t6 J => ⟨_, _, _, J, r, q⟩
    | false =>
      show wpAny _ X.A (handleBy (.ref a) X.env []) _ _ _
      refine wpAny_handleBy_nil ?_
      obtain ⟨_, _, _, ox, vx, Tx, oT, tx, ex, zx, dx, x1, rx⟩ := id fly1
      unfold PySem.passOn
      refine wpAny_bind (wpAny_field ex dx x1 ?_)
      rw [if_neg (show ¬ ((Value.ref Tx == Value.none) = true) from by simp)]
      have go : wpAny (model X.prog X.w) X.A (setFlight (.ref a) X.env.frame) (fun _ t4 => wpAny (model X.prog X.w) X.A (throw (.ref a) : Sem Flow) (SP X pins D) X.xe t4) X.xe { t0 with heap := g1 } := by
        rw [h2]
        exact HandSPX.setFlight_upZ fly1 fun g2 held up2 => wpAny_throw (tk _ _ ⟨a, B, tI, pins, σ1, H1, cls, d, rfl, J1, grd, (up0.trans up1).trans up2, .inr (.inr (by rw [h1]; exact held)), na, os0, bare0, bno rfl⟩)
      first
        | exact wpAny_bind (wpAny_pure (wpAny_bind go))
        | exact wpAny_bind go
  · match f, hf with
    | .next, ⟨σ1, H1, J, q⟩ => exact wpAny_execs_nil ⟨σ1, H1, J.ofTry ok, q⟩
    | .brk, ⟨σ1, H1, J, q⟩ => exact ⟨σ1, H1, J.ofTry ok, q⟩
    | .cont, ⟨σ1, H1, J, q⟩ => exact ⟨σ1, H1, J.ofTry ok, q⟩
    | .ret u, ⟨v, σ1, H1, J, r, q⟩ => exact ⟨v, σ1, H1, J.ofTry ok, r, q⟩
end L3

/-! refusals: what stands for one, made, raised, asked -/
namespace L3
open PySem L2 PySem.Spec PyProof.Rows
open Rep (R)
open RepD (toD)
open Evl (Ex ex_l ex_t fresh_back sz_of sz_lt ixN_nat)
/-- a refusal of the class at C, with what it was made with -/
structure Exc (β : Type) where
  C : Addr
  what : β
/-- the dict of one -/
abbrev xdW (w : V) : HO := .xd [("what", w)]
instance {β : Type} [Rep β] : Rep (Exc β) :=
  ⟨fun K F v x => ∃ a d w, v = .ref a ∧ F a = some (exv a (.ref x.C) (some d)) ∧ F d = some (xdW w) ∧ R K F w x.what,
   fun e ⟨a, d, w, h1, h2, h3, h4⟩ => ⟨a, d, w, h1, e _ _ h2, e _ _ h3, Rep.mono e h4⟩⟩
theorem exc_ref {β : Type} [Rep β] {K : PySem.W.Frag} {F : Hp} {v : V} {x : Exc β} (h : R K F v x) : v ≠ .non := by
  obtain ⟨a, d, w, rfl, _⟩ := h
  exact fun z => nomatch z
/-- the promise's other end: a refusal -/
def Rz {β : Type} [Rep β] (K : PySem.W.Frag) (F H : Hp) (E : XK) (C : Addr) (what : β) : Prop :=
  ∀ d w F' H', Stp F H F' H' → F' d = some (xdW w) → R K F' w what → E (.ref C) (some d) H'
theorem Rz.up {β : Type} [Rep β] {K : PySem.W.Frag} {F H F' H' : Hp} {E : XK} {C : Addr} {what : β} (k : Rz K F H E C what) (s : Stp F H F' H') : Rz K F' H' E C what := fun d w F2 H2 s2 h1 h2 => k d w F2 H2 (s.trans s2) h1 h2

/-! ### what the top says of the classes -/
/-- a class of refusals as a value -/
structure ExD (K : PySem.W.Frag) (mg : Str → Option Value) (x : Str) (C : Addr) : Prop where
  at_ : mg x = some (.ref C)
  isC : (PySem.W.clsIn K C).isSome = true
  ty : PySem.W.typeIn K (.ref C) = some (.type "type")
  sb : PySem.W.subIn K (.ref C) (.type "BaseException") = some true
/-- a class of which some are made -/
structure ExA (K : PySem.W.Frag) (C : Addr) : Prop where
  x : XfC K C
  wh : PySem.W.findIn K (.ref C) "what" = some none
  cl : PySem.W.findIn K (.ref C) "__class__" = some (some (.builtin "object.__class__"))
  ga : PySem.W.specialIn K (.builtin "object.__class__") "__get__" = some (some (.builtin "getset_descriptor.__get__"))
  tk : PySem.W.takesIn K (.builtin "object.__class__") = some true
  ob : PySem.W.mroIn K C (.type "object") = some true
theorem ExA.isC {K : PySem.W.Frag} {C : Addr} (c : ExA K C) : (PySem.W.clsIn K C).isSome = true := by
  obtain ⟨cd, e, _⟩ := PySem.W.any_some c.x.hdC
  rw [e]
  rfl
structure ExK (K : PySem.W.Frag) (mg : Str → Option Value) (x qual : Str) (C : Addr) (st : Stmt) : Prop where
  d : ExD K mg x C
  a : ExA K C
  o : OexC K C
  ini : ∃ fI fd, PySem.W.findIn K (.ref C) "__init__" = some (some (.ref fI)) ∧ PySem.W.typeIn K (.ref fI) = some (.type "function") ∧ Fun K "__init__" qual st fI fd ∧ Binds K fd ["self", "what"] []

theorem exd_of {K : PySem.W.Frag} {mg : Str → Option Value} {x : Str} {C : Addr} (h1 : mg x = some (.ref C)) (h2 : PySem.W.hasDictIn K C = true) (h3 : PySem.W.typeIn K (.ref C) = some (.type "type")) (h4 : PySem.W.subIn K (.ref C) (.type "BaseException") = some true) : ExD K mg x C :=
  ⟨h1, by obtain ⟨cd, e, _⟩ := PySem.W.any_some h2; rw [e]; rfl, h3, h4⟩
theorem exa_of {K : PySem.W.Frag} {C : Addr} (h1 : PySem.W.findIn K (.ref C) "__getattribute__" = some (some (.builtin "BaseException.__getattribute__"))) (h2 : PySem.W.findIn K (.ref C) "__getattr__" = some none) (h3 : PySem.W.subIn K (.ref C) (.type "BaseException") = some true)
    (h4 : PySem.W.hasDictIn K C = true) (h5 : PySem.W.findIn K (.ref C) "what" = some none) (h6 : PySem.W.findIn K (.ref C) "__class__" = some (some (.builtin "object.__class__"))) (h7 : PySem.W.specialIn K (.builtin "object.__class__") "__get__" = some (some (.builtin "getset_descriptor.__get__")))
    (h8 : PySem.W.takesIn K (.builtin "object.__class__") = some true) (h9 : PySem.W.mroIn K C (.type "object") = some true) : ExA K C := ⟨⟨h1, h2, h3, h4⟩, h5, h6, h7, h8, h9⟩

/-! ### raising defs -/
section
variable {P : Program} {w : World} {K : PySem.W.Frag} {mg : Str → Option Value} {base : Heap}
theorem Ft.okx {x : Str} {st : Stmt} {N ps : List Str} {k : Nat} {sp : Sp} (T : Ft K mg x st ps) (S : FnScope N ps (defScope st)) (len : ∀ vs H Q E, sp vs H Q E → vs.length = ps.length)
    (hbody : ∀ (f : Addr) (cdv : Value) (A : Around) (outer : List Env) (s : Shared) (H : Hp) (vs : List V) (Q : VK) (E : XK), Room k (A.deeper (envOfC x (defScope st) s.heap.objs.size f cdv)) → sp vs H Q E →
      ∃ t, PSs (cxOf (L2.CX P w) P w K mg base N x (defScope st) f cdv A outer s H E) (defBody st) t ∧ t { nx := fun _ H' => Q .non H', rt := Q } (start N vs) H) : Cal P w K mg base (L2.CX P w) (k + 1) x st ps sp := by
  obtain ⟨f, fd, e, Fu, bi⟩ := T.ex
  exact ⟨f, fd, e, Fu, bi, Fu.okX S len fun cdv A outer s H vs Q E => hbody f cdv A outer s H vs Q E⟩
theorem Mt.okx {C : Addr} {m qual : Str} {st : Stmt} {N ps : List Str} {k : Nat} {sp : Sp} (T : Mt K C m qual st ps) (S : FnScope N ps (defScope st)) (len : ∀ vs H Q E, sp vs H Q E → vs.length = ps.length)
    (hbody : ∀ (f : Addr) (cdv : Value) (A : Around) (outer : List Env) (s : Shared) (H : Hp) (vs : List V) (Q : VK) (E : XK), Room k (A.deeper (envOfC qual (defScope st) s.heap.objs.size f cdv)) → sp vs H Q E →
      ∃ t, PSs (cxOf (L2.CX P w) P w K mg base N qual (defScope st) f cdv A outer s H E) (defBody st) t ∧ t { nx := fun _ H' => Q .non H', rt := Q } (start N vs) H) : MCal P w K mg base (L2.CX P w) C (k + 1) m ps sp := by
  obtain ⟨f, fd, me, Fu, bi⟩ := T.ex
  exact ⟨T.cl, f, fd, me, bi, Fu.okX S len fun cdv A outer s H vs Q E => hbody f cdv A outer s H vs Q E⟩
end

/-! ### one is asked -/
section
variable {X : Cx} {K : PySem.W.Frag} {e : Expr} {te : TE} {n : Str} {pos : Pos}
theorem exv_inst {P : Program} {w : World} {H : Hp} {h : Heap} {a d C : Addr} {fs : List (Str × V)} (ok : HOk P w H h) (ea : H a = some (exv a (.ref C) (some d))) (ed : H d = some (.xd fs)) :
    ∃ (oe od : Obj), PySem.W.InstAt h a oe C (some od) ∧ ∃ mA : Str → Option Value, PySem.W.lookIn n od = some (mA n) ∧ RelO (fs.lookup n) (mA n) := by
  obtain ⟨oe, vs, h1, z, h2⟩ := exv_at ok ea
  obtain ⟨mA, hns, rel⟩ := (show ObjOk P w H h d (.xd fs) from ok d _ ed)
  obtain ⟨od, ho, hl⟩ := lookIn_ns hns
  exact ⟨oe, od, ⟨h1, z.1, by unfold PySem.W.notCls; rw [h2] <;> rfl, by rw [z.2]; exact ho⟩, mA, hl n, rel n⟩
/-- the reading of e.what -/
def tWhat (K : PySem.W.Frag) (n : Str) (te : TE) : TE := fun σ H Q => te σ H fun x H1 => ∃ (a C d : Addr) (fs : List (Str × V)) (v : V), x = .ref a ∧ H1 a = some (exv a (.ref C) (some d)) ∧ H1 d = some (.xd fs) ∧ XfC K C ∧ PySem.W.findIn K (.ref C) n = some none ∧ fs.lookup n = some v ∧ Q v H1
theorem k_what (hK : X.K = K) (he : PE X e te) (hb : attributeBase e n X.env (eval e X.env) = eval e X.env) : PE X (.Attribute e n pos) (tWhat K n te) := by
  subst hK
  refine ⟨fun pins s σ H Q I h => attr_of hb (thn (he.run pins s σ H _ I h) fun u s1 hh => ?_)⟩
  obtain ⟨x, H1, I1, rx, a, C, d, fs, v, rfl, ea, ed, T, hn, l, q⟩ := hh
  cases (show u = Value.ref a from rx)
  obtain ⟨oe, od, J, mA, h1, h2⟩ := exv_inst (n := n) I1.hok ea ed
  rw [l] at h2
  obtain ⟨y, hy, ry⟩ := RelO.some_of (v := v) (o := mA n) h2
  exact HandSPX.exc_get I1.kIn J T.ga T.gg T.exC (PySem.W.findObj_own T.hdC hn rfl (by rw [h1, hy])) (handed_of ry) ⟨v, H1, I1.tok _, ry, q⟩
/-- isinstance(e, c) -/
def rIsX (K : PySem.W.Frag) : List V → Hp → VK → Prop := fun xs H Q => ∃ (a C d : Addr) (fs : List (Str × V)) (c : V) (u : Value) (b : Bool), xs = [.ref a, c] ∧ H a = some (exv a (.ref C) (some d)) ∧ H d = some (.xd fs) ∧ ExA K C ∧ ClsV c u ∧ PySem.W.kitOne K (.ref C) u = some b ∧ Q (.bl b) H
/-- isinstance(e, (c, ..)) -/
def rIsXT (K : PySem.W.Frag) : List V → Hp → VK → Prop := fun xs H Q => ∃ (a C d : Addr) (fs : List (Str × V)) (tp : Addr) (cs : List V) (us : List Value) (b : Bool), xs = [.ref a, .ref tp] ∧ H a = some (exv a (.ref C) (some d)) ∧ H d = some (.xd fs) ∧ ExA K C ∧
  H tp = some (.tup cs) ∧ Paired ClsV cs us ∧ PySem.W.kitAny K (.ref C) us = some b ∧ Q (.bl b) H
theorem ExA.kit {C a : Addr} {oe od : Obj} (c : ExA K C) : PySem.W.KitX K (.ref a) (.ref C) (fun h => PySem.W.InstAt h a oe C (some od)) :=
  PySem.W.kitx_exc c.isC c.x.ga c.x.gg c.x.exC c.cl c.ga c.tk c.ob
theorem call_isX : CallR X (.builtin "isinstance") (rIsX X.K) := by
  intro pins s σ H xs us Q I r h
  obtain ⟨a, C, d, fs, c, u, b, rfl, ea, ed, cx, cv, e, q⟩ := h
  obtain ⟨u1, u2, rfl, r1, r2⟩ := vals2 r
  cases cv.eq r2
  cases (show u1 = Value.ref a from r1)
  obtain ⟨oe, od, J, _⟩ := exv_inst (n := "what") I.hok ea ed
  exact PySem.W.kia_one cx.kit I.kIn J e (fun z => nomatch z) fun tk => ⟨.bl b, H, I.tok tk, rfl, q⟩
theorem call_isXT : CallR X (.builtin "isinstance") (rIsXT X.K) := by
  intro pins s σ H xs us Q I r h
  obtain ⟨a, C, d, fs, tp, cs, ws, b, rfl, ea, ed, cx, hT, k, e, q⟩ := h
  obtain ⟨u1, u2, rfl, r1, r2⟩ := vals2 r
  cases (show u2 = Value.ref tp from r2)
  cases (show u1 = Value.ref a from r1)
  obtain ⟨oe, od, J, _⟩ := exv_inst (n := "what") I.hok ea ed
  obtain ⟨_, its, rv, ⟨oc, odd, dt, sl⟩, h1, h2, n, h3⟩ := (show ObjOk X.prog X.w H s.heap tp (.tup cs) from I.hok tp _ hT)
  cases ClsV.all k rv
  simp only at h2 h3
  subst h2 h3
  exact PySem.W.kia_tup cx.kit I.kIn J h1 e (fun z => nomatch z) fun tk => ⟨.bl b, H, I.tok tk, rfl, q⟩
theorem k_isX (hK : X.K = K) : CallR X (.builtin "isinstance") (rIsX K) := hK ▸ call_isX
theorem k_isXT (hK : X.K = K) : CallR X (.builtin "isinstance") (rIsXT K) := hK ▸ call_isXT
end
section
variable {K : PySem.W.Frag} {F F' G H H' : Hp} {σ : L2.St} {ta tb te : TE} {β : Type} [Rep β] {x : Exc β} {mg : Str → Option Value}
/-- a class as a value -/
structure ClV where
  u : Value
instance : Rep ClV := ⟨fun _ _ v c => ClsV v c.u, fun _ h => h⟩
theorem ev_cls {C : Addr} : EvX K F G σ (tC (.ref C)) (⟨.ref C⟩ : ClV) := fun H e _ Q k => k _ F H (Stp.refl e) (ClsV.own C)
theorem ev_clT {n : String} : EvX K F G σ (tC (.ty n)) (⟨.type n⟩ : ClV) := fun H e _ Q k => k _ F H (Stp.refl e) (ClsV.ty n)
theorem ev_what (he : EvX K F G σ te x) (c : ExA K x.C) : EvX K F G σ (tWhat K "what" te) x.what := fun H e g Q k =>
  he H e g _ fun v F1 H1 s1 h1 => by
    obtain ⟨a, d, w, rfl, ha, hd, hw⟩ := h1
    exact ⟨a, x.C, d, _, w, rfl, s1.fh _ _ ha, s1.fh _ _ hd, c.x, c.wh, rfl, k w F1 H1 s1 hw⟩
theorem ev_isX {c : ClV} {b : Bool} (he : EvX K F G σ ta x) (hc : EvX K F G σ tb c) (cx : ExA K x.C) (hb : PySem.W.kitOne K (.ref x.C) c.u = some b) : EvX K F G σ (tCB (rIsX K) (tCons ta (tCons tb tNil))) b := fun H e g Q k =>
  he H e g _ fun v F1 H1 s1 h1 => (hc.up s1.ff) H1 s1.fh (g.trans s1.hh) _ fun w F2 H2 s2 h2 => by
    obtain ⟨a, d, y, rfl, ha, hd, hw⟩ := h1
    exact ⟨a, x.C, d, _, w, c.u, b, rfl, s2.fh _ _ (s2.ff _ _ ha), s2.fh _ _ (s2.ff _ _ hd), cx, h2, hb, k _ F2 H2 (s1.trans s2) rfl⟩
theorem cls_pair : ∀ {vs : List V} {cs : List ClV}, All2 (R K F) vs cs → Paired ClsV vs (cs.map (·.u))
  | _, _, .nil => .nil
  | _, _, .cons p t => .cons p (cls_pair t)
theorem ev_isXT {ts : TA} {cs : List ClV} {b : Bool} (he : EvX K F G σ ta x) (hc : ∀ F', Ex F F' → EvL K F' G σ ts cs) (hl : cs.length ≤ 100000) (cx : ExA K x.C) (hb : PySem.W.kitAny K (.ref x.C) (cs.map (·.u)) = some b) :
    EvX K F G σ (tCB (rIsXT K) (tCons ta (tCons (tTup ts) tNil))) b := fun H e g Q k =>
  he H e g _ fun v F1 H1 s1 h1 => hc F1 s1.ff H1 s1.fh (g.trans s1.hh) _ fun vs F2 H2 s2 h2 => by
    obtain ⟨a, d, y, rfl, ha, hd, hw⟩ := h1
    refine ⟨by rw [h2.len]; exact sz_of hl, fun p hp => ?_⟩
    have na : ∀ {q : Addr} {o : HO}, H2 q = some o → q ≠ p := fun {q o} z y => by
      subst y
      rw [hp] at z
      cases z
    have g1 := s2.fh _ _ (s2.ff _ _ ha)
    have g2 := s2.fh _ _ (s2.ff _ _ hd)
    exact ⟨a, x.C, d, _, p, vs, _, b, rfl, (upd_ne (na g1)).trans g1, (upd_ne (na g2)).trans g2, cx, upd_same, cls_pair h2, hb, k _ _ _ ((s1.trans s2).new hp) rfl⟩
/-- how the answers are told from what the top says -/
theorem kit_ref {C D : Addr} {b : Bool} (d : ExD K mg x' D) (h : PySem.W.subIn K (.ref C) (.ref D) = some b) (hc : PySem.W.subIn K (.ref C) (.ref C) = some true) : PySem.W.kitOne K (.ref C) (.ref D) = some b := by
  unfold PySem.W.kitOne
  by_cases e : (Value.ref C == Value.ref D) = true
  · have e2 : C = D := Value.ref.inj (beq_iff_eq.mp e)
    subst e2
    rw [h] at hc
    rw [if_pos e, ← hc]
  · rw [if_neg e]
    show (if ((PySem.W.clsIn K D).isSome && PySem.W.typeIn K (.ref D) == some (.type "type")) = true then PySem.W.subIn K (.ref C) (.ref D) else none) = some b
    rw [if_pos (by rw [d.isC, d.ty]; rfl), h]
theorem kit_tyE {C : Addr} {n : String} {b : Bool} (hm : PySem.W.kitMeta n = true) (h : PySem.W.subIn K (.ref C) (.type n) = some b) : PySem.W.kitOne K (.ref C) (.type n) = some b := by
  unfold PySem.W.kitOne
  rw [if_neg (by intro z; cases (beq_iff_eq.mp z))]
  show (if PySem.W.kitMeta n = true then PySem.W.subIn K (.ref C) (.type n) else none) = some b
  rw [if_pos hm, h]
theorem exm_D {C D : Addr} {b : Bool} (d : ExD K mg x' D) (h : PySem.W.subIn K (.ref C) (.ref D) = some b) : PySem.W.exmOne K (.ref C) (.ref D) = some b := by
  unfold PySem.W.exmOne
  rw [if_pos (by rw [d.sb]; rfl)]
  show (if ((PySem.W.clsIn K D).isSome && PySem.W.typeIn K (.ref D) == some (.type "type")) = true then PySem.W.subIn K (.ref C) (.ref D) else none) = some b
  rw [if_pos (by rw [d.isC, d.ty]; rfl), h]
end

/-! ### one is made and raised -/
/-- __init__(self, what): self.what = what -/
def sp_exi (K : PySem.W.Frag) : Sp := fun vs H Q _ => ∃ (a C : Addr) (v : V), vs = [.ref a, v] ∧ H a = some (exo a C none) ∧ OexC K C ∧ PySem.W.findIn K (.ref C) "what" = some none ∧
  ∀ dx, H dx = none → dx ≠ a → Q .non (upd (upd H dx (exd dx [("what", v)])) a (exo a C (some dx)))
section
variable {P : Program} {w : World} {K : PySem.W.Frag} {mg : Str → Option Value} {base : Heap}
theorem ok_exi {qual : Str} {st : Stmt} {f : Addr} {fd : FuncData} {p1 p2 p3 p4 : Pos} (Fl : Fun K "__init__" qual st f fd) (S : FnScope ["self", "what"] ["self", "what"] (defScope st)) (hb : defBody st = [.Assign [.Attribute (.Name "self" p1) "what" p2] (.Name "what" p3) p4]) (v1 : Vis (defScope st) "self") (v2 : Vis (defScope st) "what") :
    FnOk P w K mg base CX0 1 f fd ["self", "what"] (sp_exi K) := by
  refine Fl.ok S (fun vs H Q E h => ?_) (fun cdv A outer s H vs Q E hr h => ?_)
  · obtain ⟨a, C, v, rfl, _⟩ := h
    rfl
  obtain ⟨a, C, v, rfl, ha, T, hw, k⟩ := h
  refine ⟨_, hb ▸ pss_one (ps_ost (pv 0 rfl v1) (pv 1 rfl v2)), ?_⟩
  exact ⟨v, rfl, .ref a, rfl, a, C, rfl, T, hw, .inl ⟨ha, fun dx n ne => k dx n ne⟩⟩
end
section
variable {X : Cx} {K : PySem.W.Frag} {mg : Str → Option Value} {C : Addr} {x qual : Str} {st : Stmt} {p pos p1 p2 p3 p4 : Pos} {e : Expr} {ta : TA} {j : Nat}
theorem pmk_exc (c : ExK X.K X.mg x qual C st) (S : FnScope ["self", "what"] ["self", "what"] (defScope st)) (hb : defBody st = [.Assign [.Attribute (.Name "self" p1) "what" p2] (.Name "what" p3) p4]) (v1 : Vis (defScope st) "self") (v2 : Vis (defScope st) "what") (hr : Room j X.A) (hj : 2 ≤ j) (hg : Gl X x) (ha : PA X [e] ta)
    (hdb : (x == ("__debug__" : Str)) = false := by decide) (he : starEach [e] X.env = (false, eval e X.env) :: starEach [] X.env := by rfl) (hpl : (backTo pos (starEach [] X.env)).any (·.1) = false := by rfl) :
    PMk X (.Call (.Name x p) [e] [] pos) (tMkO C (sp_exi X.K) [] ta) := by
  obtain ⟨fI, fd, iC, tI, Fl, b⟩ := c.ini
  exact pmk_oex c.o iC tI (ok_exi Fl S hb v1 v2) (hr.mono hj) b .nil pass0 hg c.d.at_ ha hdb he hpl
end
section
variable {K : PySem.W.Frag} {F G H : Hp} {σ : L2.St} {te : TE} {β : Type} [Rep β] {w : β} {E : XK} {C : Addr}
theorem x_raise (h : EvX K F H σ te w) (e : Ex F H) (o : OexC K C) (hw : PySem.W.findIn K (.ref C) "what" = some none) (k : Rz K F H E C w) : tMkO C (sp_exi K) [] (tCons te tNil) σ H E :=
  h.go e fun v F1 H1 s1 r1 => by
    refine ⟨by show 1 ≤ 1000; decide, fun a na => ⟨a, C, v, rfl, upd_same, o, hw, fun dx nd ne => ⟨rfl, dx, [("what", v)], upd_same, by rw [upd_ne ne]; exact upd_same, by rw [upd_ne ne] at nd; exact nd, ?_⟩⟩⟩
    have nd1 : H1 dx = none := by rw [upd_ne ne] at nd; exact nd
    have eH : upd (del (upd (upd (upd H1 a (exo a C none)) dx (exd dx [("what", v)])) a (exo a C (some dx))) a) dx (xdW v) = upd H1 dx (xdW v) := by
      funext b
      by_cases hb : b = dx
      · rw [hb, upd_same, upd_same]
      · rw [upd_ne hb, upd_ne hb]
        by_cases hba : b = a
        · rw [hba, del_same, na]
        · rw [del_ne hba, upd_ne hba, upd_ne hb, upd_ne hba]
    show E (.ref C) (some dx) (upd (del (upd (upd (upd H1 a (exo a C none)) dx (exd dx [("what", v)])) a (exo a C (some dx))) a) dx (xdW v))
    rw [eH]
    exact k dx v _ _ (s1.new nd1) upd_same (Rep.mono (Ex.new (fresh_back s1.fh nd1)) r1)
end

/-! ### calls that may be refused -/
section
variable {X : Cx} {k j : Nat} {ps : List Str} {sp : Sp} {W : WX} {x m : Str} {C : Addr} {p pos apos : Pos} {e o : Expr} {es : List Expr} {ta : TE} {t : TA}
theorem pe_calS {st : Stmt} (c : Cal X.prog X.w X.K X.mg X.base (L2.CX X.prog X.w) k x st ps sp) (hr : Room j X.A) (hk : k ≤ j) (hg : Gl X x) (tk : Takes X W)
    (ha : PA X (e :: es) t) (hdb : (x == ("__debug__" : Str)) = false := by decide) (he : starEach (e :: es) X.env = (false, eval e X.env) :: starEach es X.env := by rfl) (hpl : (backTo pos (starEach es X.env)).any (·.1) = false := by rfl) :
    PE X (.Call (.Name x p) (e :: es) [] pos) (tCallS sp (WE W) t) := by
  obtain ⟨f, fd, hm, kp, hb, Fk⟩ := c.ex
  exact pe_callS Fk (hr.mono hk) hg hm kp.kp hb (fun σ => passAt tk σ) ha hdb he hpl
def tMethS (C : Addr) (m : Str) (sp : Sp) (W : WX) (ta : TE) (t : TA) : TE := fun σ H Q => ta σ H fun x H1 => ∃ a dx fs, x = .ref a ∧ H1 a = some (.ins C dx fs) ∧ fs.lookup m = none ∧ t σ H1 fun vs H2 => sp (x :: vs) H2 Q (WE W σ)
theorem pe_mcalS {pl : Sem Bool} (c : MCal X.prog X.w X.K X.mg X.base (L2.CX X.prog X.w) C k m ps sp) (hr : Room j X.A) (hk : k ≤ j) (tk : Takes X W) (he : PE X o ta) (ha : PA X (e :: es) t)
    (hst : starEach (e :: es) X.env = (false, eval e X.env) :: starEach es X.env := by rfl) (hpl : (backTo pos (starEach es X.env)).any (·.1) = false := by rfl)
    (ht : eval (.Call (.Attribute o m apos) (e :: es) [] pos) X.env = (do
      let ov ← eval o X.env
      standAt apos.atName
      let (f, first) ← holding [ov] (getMethod ov m pl)
      callWith pos f first (backTo pos (starEach (e :: es) X.env)) (backToKw pos (keywordEach [] X.env))) := by rfl) :
    PE X (.Call (.Attribute o m apos) (e :: es) [] pos) (tMethS C m sp W ta t) := by
  obtain ⟨f, fd, hm, hb, Fk⟩ := c.ex
  refine ⟨fun pins s σ H Q I h => PySem.W.methodCall_KW (pl := pl) (thn (he.run pins s σ H _ I h) fun u s1 hh => ?_) ht⟩
  obtain ⟨x, H1, I1, rx, a, dx, fs, rfl, ea, l, q⟩ := hh
  cases (show u = Value.ref a from rx)
  refine getmeth_ok I1 ea c.cl hm l (PySem.W.callWith_K (first := [.ref a]) (h₀ := X.base) I.ok.mod.kin hm.kp (thn (ha.run pos pins s1 σ H1 _ I1 q) fun us s2 h2 => ?_) hst hpl)
  obtain ⟨vs, H2, I2, r, q2⟩ := h2
  exact ⟨I2.kIn, run_fnS (us := .ref a :: us) (vs := .ref a :: vs) Fk (hr.mono hk) hb (passAt tk σ) I2 (.cons rfl r) q2⟩
variable {ks : List Str} {kws : List Keyword} {tk : TA}
def tCallKS (sp : Sp) (n : Nat) (ρV : List V → List V) (W : WX) (tk : TA) : TE := fun σ H Q => tk σ H fun zs H2 => zs.length = n ∧ sp (ρV zs) H2 Q (WE W σ)
theorem pe_kcalS {st : Stmt} {ρ : List Value → List Value} {ρV : List V → List V} (c : Cal X.prog X.w X.K X.mg X.base (L2.CX X.prog X.w) k x st ps sp) (hb : KwB x x st ps ks ρ) (hρ : ∀ {zs : List V} {ws : List Value}, Vals zs ws → Vals (ρV zs) (ρ ws)) (hr : Room j X.A) (hk : k ≤ j) (hg : Gl X x) (tk' : Takes X W)
    (hkw : PK X kws tk) (hall : (backToKw pos (keywordEach kws X.env)).all (·.1.isSome) = true := by rfl) (hks : (backToKw pos (keywordEach kws X.env)).filterMap (·.1) = ks := by rfl)
    (hdb : (x == ("__debug__" : Str)) = false := by decide)
    (hpl : ((backTo pos (starEach [] X.env)).any (·.1) || (backToKw pos (keywordEach kws X.env)).any (·.1.isNone)) = false := by rfl) :
    PE X (.Call (.Name x p) [] kws pos) (tCallKS sp ks.length ρV W tk) := by
  obtain ⟨f, fd, hm, Fn, _, G⟩ := c.ex
  obtain ⟨oc, od, kV, doc, pm, an, cdv, ct, osl, hfd, lk, hcd⟩ := Fn.ex
  refine ⟨fun pins s σ H Q I h => ?_⟩
  refine wpAny_Call_Name_kw (ld_glob I hg hm ?_ hdb)
  refine PySem.W.callWith_KW0 (h₀ := X.base) I.ok.mod.kin Fn.kp hall (thn (hkw.run pos pins s σ H _ I h) fun ws s2 ⟨zs, H2, I2, rz, hn, q2⟩ => ⟨I2.kIn, ?_⟩) hpl
  rw [hks, List.append_nil]
  have r2 := hρ rz
  have hl : (ρ ws).length = ps.length := by rw [← r2.length]; exact G.len _ _ _ _ q2
  have hz : ws.length = ks.length := by rw [← rz.length]; exact hn
  refine wpAny_call (codeAny_mono (G.run X.A X.stack s2 H2 ⟨[], ks.zip ws⟩ (ρ ws) (ρV zs) Q (WE W σ) (hr.mono hk) I2.env0 (.of_eq (by rw [hfd]; exact hb kV doc pm an cdv ct ws hz)) r2 q2) fun r s' hq => ?_)
  cases r with
  | error e => exact passAt tk' σ pins H2 s2 e s' I2 hq
  | ok fl =>
    cases fl with
    | ret u => exact I2.after hq
    | next => exact False.elim hq
    | brk => exact False.elim hq
    | cont => exact False.elim hq
end
/-! ### the promises of what is refused -/
section
variable (K : PySem.W.Frag) {α β γ δ ε : Type} [Rep α] [Rep β] [Rep γ] [Rep δ] [Rep ε]
def Bd1 (pre : α → Prop) (C : Addr) (f : α → ε) : Sp := fun vs H _ E => ∃ F x v, vs = [v] ∧ Ex F H ∧ R K F v x ∧ pre x ∧ Rz K F H E C (f x)
def Bd2 (pre : α → β → Prop) (C : Addr) (f : α → β → ε) : Sp := fun vs H _ E => ∃ F x y v w, vs = [v, w] ∧ Ex F H ∧ R K F v x ∧ R K F w y ∧ pre x y ∧ Rz K F H E C (f x y)
def Bd3 (pre : α → β → γ → Prop) (C : Addr) (f : α → β → γ → ε) : Sp := fun vs H _ E => ∃ F x y z v w t, vs = [v, w, t] ∧ Ex F H ∧ R K F v x ∧ R K F w y ∧ R K F t z ∧ pre x y z ∧ Rz K F H E C (f x y z)
def Bd4 (pre : α → β → γ → δ → Prop) (C : Addr) (f : α → β → γ → δ → ε) : Sp := fun vs H _ E => ∃ F x y z a v w t u, vs = [v, w, t, u] ∧ Ex F H ∧ R K F v x ∧ R K F w y ∧ R K F t z ∧ R K F u a ∧ pre x y z a ∧ Rz K F H E C (f x y z a)
end
section
variable {K : PySem.W.Frag} {F G H : Hp} {σ : L2.St} {ta tb tc td : TE} {Q : VK} {E : XK} {W : WX} {C D : Addr} {m : Str}
variable {α β γ δ ε : Type} [Rep α] [Rep β] [Rep γ] [Rep δ] [Rep ε] {x : α} {y : β} {z : γ} {a : δ}
/-- a call that is refused: in a def that lets the refusal out -/
theorem xb_call1 {pre : α → Prop} {f : α → ε} (ha : EvX K F H σ ta x) (e : Ex F H) (hp : pre x) (k : Rz K F H E C (f x)) : tCall (Bd1 K pre C f) [] E (tCons ta tNil) σ H Q :=
  ha.go e fun v F1 H1 s1 r1 => ⟨F1, x, v, rfl, s1.fh, r1, hp, k.up s1⟩
theorem xb_call2 {pre : α → β → Prop} {f : α → β → ε} (ha : EvX K F H σ ta x) (hb : EvX K F H σ tb y) (e : Ex F H) (hp : pre x y) (k : Rz K F H E C (f x y)) : tCall (Bd2 K pre C f) [] E (tCons ta (tCons tb tNil)) σ H Q :=
  ha.go e fun v F1 H1 s1 r1 => (hb.up s1.ff) H1 s1.fh s1.hh _ fun w F2 H2 s2 r2 => ⟨F2, x, y, v, w, rfl, s2.fh, Rep.mono s2.ff r1, r2, hp, k.up (s1.trans s2)⟩
theorem xb_call3 {pre : α → β → γ → Prop} {f : α → β → γ → ε} (ha : EvX K F H σ ta x) (hb : EvX K F H σ tb y) (hc : EvX K F H σ tc z) (e : Ex F H) (hp : pre x y z) (k : Rz K F H E C (f x y z)) : tCall (Bd3 K pre C f) [] E (tCons ta (tCons tb (tCons tc tNil))) σ H Q :=
  ha.go e fun v F1 H1 s1 r1 => (hb.up s1.ff) H1 s1.fh s1.hh _ fun w F2 H2 s2 r2 => (hc.up (s1.ff.trans s2.ff)) H2 s2.fh (s1.hh.trans s2.hh) _ fun t F3 H3 s3 r3 =>
    ⟨F3, x, y, z, v, w, t, rfl, s3.fh, Rep.mono (s2.ff.trans s3.ff) r1, Rep.mono s3.ff r2, r3, hp, k.up ((s1.trans s2).trans s3)⟩
/-- .. in a try's body -/
theorem xb_callS1 {pre : α → Prop} {f : α → ε} (ha : EvX K F H σ ta x) (e : Ex F H) (hp : pre x) (k : Rz K F H (WE W σ) C (f x)) : tCallS (Bd1 K pre C f) (WE W) (tCons ta tNil) σ H Q :=
  ha.go e fun v F1 H1 s1 r1 => ⟨F1, x, v, rfl, s1.fh, r1, hp, k.up s1⟩
theorem xb_callS2 {pre : α → β → Prop} {f : α → β → ε} (ha : EvX K F H σ ta x) (hb : EvX K F H σ tb y) (e : Ex F H) (hp : pre x y) (k : Rz K F H (WE W σ) C (f x y)) : tCallS (Bd2 K pre C f) (WE W) (tCons ta (tCons tb tNil)) σ H Q :=
  ha.go e fun v F1 H1 s1 r1 => (hb.up s1.ff) H1 s1.fh s1.hh _ fun w F2 H2 s2 r2 => ⟨F2, x, y, v, w, rfl, s2.fh, Rep.mono s2.ff r1, r2, hp, k.up (s1.trans s2)⟩
theorem xb_callS3 {pre : α → β → γ → Prop} {f : α → β → γ → ε} (ha : EvX K F H σ ta x) (hb : EvX K F H σ tb y) (hc : EvX K F H σ tc z) (e : Ex F H) (hp : pre x y z) (k : Rz K F H (WE W σ) C (f x y z)) : tCallS (Bd3 K pre C f) (WE W) (tCons ta (tCons tb (tCons tc tNil))) σ H Q :=
  ha.go e fun v F1 H1 s1 r1 => (hb.up s1.ff) H1 s1.fh s1.hh _ fun w F2 H2 s2 r2 => (hc.up (s1.ff.trans s2.ff)) H2 s2.fh (s1.hh.trans s2.hh) _ fun t F3 H3 s3 r3 =>
    ⟨F3, x, y, z, v, w, t, rfl, s3.fh, Rep.mono (s2.ff.trans s3.ff) r1, Rep.mono s3.ff r2, r3, hp, k.up ((s1.trans s2).trans s3)⟩
theorem xb_callS4 {pre : α → β → γ → δ → Prop} {f : α → β → γ → δ → ε} (ha : EvX K F H σ ta x) (hb : EvX K F H σ tb y) (hc : EvX K F H σ tc z) (hd : EvX K F H σ td a) (e : Ex F H) (hp : pre x y z a) (k : Rz K F H (WE W σ) C (f x y z a)) :
    tCallS (Bd4 K pre C f) (WE W) (tCons ta (tCons tb (tCons tc (tCons td tNil)))) σ H Q :=
  ha.go e fun v F1 H1 s1 r1 => (hb.up s1.ff) H1 s1.fh s1.hh _ fun w F2 H2 s2 r2 => (hc.up (s1.ff.trans s2.ff)) H2 s2.fh (s1.hh.trans s2.hh) _ fun t F3 H3 s3 r3 =>
    (hd.up ((s1.ff.trans s2.ff).trans s3.ff)) H3 s3.fh ((s1.hh.trans s2.hh).trans s3.hh) _ fun u F4 H4 s4 r4 =>
    ⟨F4, x, y, z, a, v, w, t, u, rfl, s4.fh, Rep.mono ((s2.ff.trans s3.ff).trans s4.ff) r1, Rep.mono (s3.ff.trans s4.ff) r2, Rep.mono s4.ff r3, r4, hp, k.up (((s1.trans s2).trans s3).trans s4)⟩
/-- .. by names, as they are handed -/
theorem xb_callK2 {pre : α → β → Prop} {f : α → β → ε} (ha : EvX K F H σ ta x) (hb : EvX K F H σ tb y) (e : Ex F H) (hp : pre x y) (k : Rz K F H (WE W σ) C (f x y)) : tCallKS (Bd2 K pre C f) 2 id W (tCons ta (tCons tb tNil)) σ H Q :=
  ha.go e fun v F1 H1 s1 r1 => (hb.up s1.ff) H1 s1.fh s1.hh _ fun w F2 H2 s2 r2 => ⟨rfl, F2, x, y, v, w, rfl, s2.fh, Rep.mono s2.ff r1, r2, hp, k.up (s1.trans s2)⟩
theorem xb_callK2r {pre : β → α → Prop} {f : β → α → ε} (ha : EvX K F H σ ta x) (hb : EvX K F H σ tb y) (e : Ex F H) (hp : pre y x) (k : Rz K F H (WE W σ) C (f y x)) : tCallKS (Bd2 K pre C f) 2 List.reverse W (tCons ta (tCons tb tNil)) σ H Q :=
  ha.go e fun v F1 H1 s1 r1 => (hb.up s1.ff) H1 s1.fh s1.hh _ fun w F2 H2 s2 r2 => ⟨rfl, F2, y, x, w, v, rfl, s2.fh, r2, Rep.mono s2.ff r1, hp, k.up (s1.trans s2)⟩
/-- the clause takes it -/
theorem wT_hit {c : Value} {i : Nat} {ts : Addr → Value → Option Addr → TS} {Wout : WX} {Dn : Ends} {w : ε} (hm : PySem.W.exmOne K (.ref C) c = some true)
    (k : ∀ (v : V) (d : Addr) (F' H' : Hp), Stp F H F' H' → R K F' v (⟨C, w⟩ : Exc ε) → ∀ a, v = .ref a → ts a (.ref C) (some d) { nx := fun σ1 H1 => Dn.nx (σ1.set i none) H1, rt := Dn.rt, bk := fun σ1 H1 => Dn.bk (σ1.set i none) H1, ct := fun σ1 H1 => Dn.ct (σ1.set i none) H1 } (σ.set i (some v)) H') :
    Rz K F H (WE (wT K c i ts Wout Dn) σ) C w := fun d y F1 H1 s1 hd r1 => by
  refine ⟨true, hm, fun _ a na => ?_, fun z => nomatch z⟩
  exact k (.ref a) d _ _ (s1.new na) ⟨a, d, y, rfl, upd_same, (Ex.new (fresh_back s1.fh na)) _ _ hd, Rep.mono (Ex.new (fresh_back s1.fh na)) r1⟩ a rfl
end
end L3

/-! truths counted and found in a list -/
namespace L3
open PySem L2 PySem.Spec PyProof.Rows
open Rep (R)
open Evl (Ex ex_l ex_t fresh_back sz_of sz_lt ixN_nat)
def isB (b : Bool) (v : Value) : Bool := match v with
  | .bool c => c == b
  | _ => false
theorem bools_of : ∀ {bs : List Bool} {us : List Value}, Vals (bs.map V.bl) us → us = bs.map Value.bool
  | [], _, h => by cases h; rfl
  | b :: bs, _, h => by
    cases h with
    | cons r t =>
      cases (show _ = Value.bool b from r)
      rw [bools_of t]
      rfl
theorem isB_count (b : Bool) : ∀ bs : List Bool, (bs.map Value.bool).countP (isB b) = bs.count b
  | [] => rfl
  | c :: bs => by
    rw [List.map_cons, List.countP_cons, isB_count b bs, List.count_cons]
    rfl
section
variable {X : Cx} {K : PySem.W.Frag}
def rCntB (K : PySem.W.Frag) : V → List V → Hp → VK → Prop := fun x xs H Q => ∃ (p : Addr) (bs : List Bool) (b : Bool), x = .ref p ∧ xs = [.bl b] ∧ SqL K H p (bs.map V.bl) ∧ Q (.int (bs.count b : Nat)) H
theorem mt_countB : MtR X "list.count" (rCntB X.K) := fun pins s σ H x xs v us Q I rx rxs h => by
  obtain ⟨p, bs, b, rfl, rfl, hs, q⟩ := h
  cases rx
  obtain ⟨u, rfl, ru⟩ := rxs.one
  cases (show u = Value.bool b from ru)
  obtain ⟨its, rv, ⟨⟨ct, dd, dt, sl⟩, n, h1, h2, h3, h4⟩, _⟩ := I.list hs
  simp only at h2 h4
  subst h2 h4
  have ei := bools_of rv
  subst ei
  have ec : (bs.map Value.bool).toArray.toList.countP (isB b) = bs.count b := isB_count b bs
  refine call_meets PySem.F.slot_list_count ⟨_, h1, rfl⟩ PySem.F.entry_list_count (PySem.F.args_list_count_2 _ _) (SeqAt.list_countAt p _ n dd sl (.bool b) (isB b)) ⟨h1, fun y hy => ?_, ⟨.int (bs.count b : Nat), H, I.tok _, ⟨s.toks, ?_⟩, q⟩⟩
  · obtain ⟨c, _, rfl⟩ := List.mem_map.mp (show y ∈ bs.map Value.bool from by simpa using hy)
    exact eqAt_V (y := .bl c) (x := .bl b) rfl rfl rfl rfl
  · show Value.int (((bs.map Value.bool).toArray.toList.countP (isB b) : Nat) : Int) s.toks = Value.int ((bs.count b : Nat) : Int) s.toks
    rw [ec]
theorem mk_countB (hK : X.K = K) : MtR X "list.count" (rCntB K) := hK ▸ mt_countB
end
section
variable {K : PySem.W.Frag} {F G H : Hp} {σ : L2.St} {ta tb : TE} {bs : List Bool} {b : Bool}
theorem ev_countB (ha : EvX K F G σ ta bs) (hb : EvX K F G σ tb b) : EvX K F G σ (tBM K "list" (rCntB K) ta (tCons tb tNil)) ((bs.count b : Nat) : Int) := fun H e g Q k =>
  ha H e g _ fun v F1 H1 s1 h1 => by
    obtain ⟨p, vs, rfl, hp, hv⟩ := h1
    have ev := all2_bls.mp hv
    subst ev
    refine ⟨.inl ⟨rfl, _, SqL.of (s1.fh _ _ hp)⟩, (hb.up s1.ff) H1 s1.fh (g.trans s1.hh) _ fun w F2 H2 s2 h2 => ?_⟩
    cases h2
    exact ⟨p, bs, b, rfl, rfl, SqL.of (s2.fh _ _ (s2.ff _ _ hp)), k _ F2 H2 (s1.trans s2) rfl⟩
theorem ev_indexB {j : Nat} (ha : EvX K F G σ ta bs) (hb : EvX K F G σ tb b) (hj : bs[j]? = some b) (hn : ∀ m, m < j → bs[m]? ≠ some b) : EvX K F G σ (tBM K "list" (rIndex K) ta (tCons tb tNil)) ((j : Nat) : Int) := fun H e g Q k =>
  ha H e g _ fun v F1 H1 s1 h1 => by
    obtain ⟨p, vs, rfl, hp, hv⟩ := h1
    have ev := all2_bls.mp hv
    subst ev
    refine ⟨.inl ⟨rfl, _, SqL.of (s1.fh _ _ hp)⟩, (hb.up s1.ff) H1 s1.fh (g.trans s1.hh) _ fun w F2 H2 s2 h2 => ?_⟩
    cases h2
    refine ⟨p, bs.map V.bl, .bl b, j, .bl b, rfl, rfl, SqL.of (s2.fh _ _ (s2.ff _ _ hp)), rfl, ?_, by rw [List.getElem?_map, hj]; rfl, by simp [eqV], fun m z hm hz => ?_, k _ F2 H2 (s1.trans s2) rfl⟩
    · refine List.all_eq_true.mpr fun y hy => ?_
      obtain ⟨c, _, rfl⟩ := List.mem_map.mp hy
      rfl
    · rw [List.getElem?_map] at hz
      cases q : bs[m]? with
      | none => rw [q] at hz; cases hz
      | some c =>
        rw [q] at hz
        cases hz
        have := hn m hm
        rw [q] at this
        simp only [eqV]
        cases c <;> cases b <;> simp_all
end
end L3

/-! refusals: of houses that there are not -/
namespace L3
open PySem L2
open Rep (R)
open RepD (toD)
open Tr (adj hs IsTree TreeOn dist)
open Evl (Ex ex_l ex_t fresh_back sz_of sz_lt ixN_nat)
def isH (n x : Int) : Bool := decide (0 ≤ x) && decide (x < n)
theorem isH_iff {n x : Int} : isH n x = true ↔ hs n x := by
  unfold isH hs
  rw [Bool.and_eq_true, decide_eq_true_eq, decide_eq_true_eq]
/-- the first house that there is not -/
def badH (n : Int) (xs : List Int) : Int := (xs.find? fun x => !isH n x).getD 0
theorem badH_at {n x : Int} {xs : List Int} {i : Nat} (h : xs[i]? = some x) (hx : isH n x = false) (ha : ∀ j y, j < i → xs[j]? = some y → isH n y = true) : badH n xs = x := by
  have : xs.find? (fun x => !isH n x) = some x := by
    induction xs generalizing i with
    | nil => simp at h
    | cons y ys ih =>
      cases i with
      | zero =>
        have : y = x := by simpa using h
        subst this
        simp [List.find?_cons, hx]
      | succ i =>
        have hy := ha 0 y (by omega) rfl
        rw [List.find?_cons]
        simp only [hy, Bool.not_true]
        exact ih (i := i) (by simpa using h) fun j z hj hz => ha (j + 1) z (by omega) (by simpa using hz)
  unfold badH
  rw [this]
  rfl
theorem badH_one {n x : Int} (h : ¬ hs n x) : badH n [x] = x := badH_at (i := 0) rfl (by cases e : isH n x with | false => rfl | true => exact absurd (isH_iff.mp e) h) fun j y hj => by omega
section
variable {K : PySem.W.Frag} {S : Src} {n m l : Int} {F F' G H H' : Hp} {σ : L2.St} {ta tb tc te tl : TE} {tt : TT} {E : XK} {tr : TA} {D : Ends} {tz tu tw : TS}
variable {α β γ δ : Type} [Rep α] [Rep β] [Rep γ] [Rep δ] {x : α} {y : β} {z : γ}
theorem em_call3 {pre : α → β → γ → Prop} {f : α → β → γ → δ} {P : γ → Prop} (ha : EvX K F F σ ta x) (hb : EvX K F F σ tb y) (hc : EvM K S n m F σ tc P) (hp : ∀ z, P z → pre x y z) :
    EvM K S n m F σ (tCall (Pu3 K pre f) [] E (tCons ta (tCons tb (tCons tc tNil)))) (fun u => ∃ z, P z ∧ u = f x y z) := fun F0 H e1 e2 i Q k =>
  (ha.up e1) H e2 (e1.trans e2) _ fun v F1 H1 s1 r1 => (hb.up (e1.trans s1.ff)) H1 s1.fh ((e1.trans e2).trans s1.hh) _ fun w F2 H2 s2 r2 =>
    hc F2 H2 (e1.trans (s1.ff.trans s2.ff)) s2.fh (S.stp (S.stp i s1) s2) _ fun t z F3 H3 s3 i3 p3 r3 =>
      ⟨F3, x, y, z, v, w, t, rfl, s3.fh, Rep.mono (s2.ff.trans s3.ff) r1, Rep.mono s3.ff r2, r3, hp z p3, fun u F4 H4 s4 r4 => k u _ F4 H4 (((s1.m.trans s2.m).trans s3).trans s4.m) (S.stp i3 s4) ⟨z, p3, rfl⟩ r4⟩
/-- what is drawn is not the other -/
theorem em_neX [DecidableEq α] [RepD α] {P : α → Prop} (ha : EvM K S n m F σ ta P) (hb : EvX K F F σ tb x) (hy : ∀ y, P y → (toD y).canLay0 = true) (hx : (toD x).canLay0 = true) (hd : RepD.dep α ≤ 64 := by decide) : EvM K S n m F σ (tOp (rNeA K) ta tb) (fun b => ∃ y, P y ∧ b = !decide (y = x)) := fun F0 H e1 e2 i Q k =>
  ha F0 H e1 e2 i _ fun v y F1 H1 s1 i1 p1 r1 => by
    have hk := ev_neL (K := K) (F := F1) (G := H1) (σ := [some v]) (ta := tVar 0) (tb := fun _ H Q => tb σ H Q) (x := y) (y := x) (hy y p1) hx hd (ev_var rfl r1) (fun H2 g1 g2 Q2 k2 => (hb.up (e1.trans s1.ff)) H2 g1 (e1.trans (s1.ff.trans g1)) Q2 k2)
    have := hk H1 s1.fh (Ex.refl H1) Q fun u F2 H2 s2 r2 => k u _ F2 H2 (s1.trans s2.m) (S.stp i1 s2) ⟨y, p1, rfl⟩ r2
    obtain ⟨v', e', h'⟩ := this
    cases (show some (some v) = some (some v') from e')
    exact h'
theorem u_seq {t : TS} (h : t { D with nx := tz D } σ H) : tSeq t tz D σ H := h
theorem u_try {tb : WX → TS} {c : Value} {i : Nat} {ts : Addr → Value → Option Addr → TS} {Wout : WX} (h : tb (wT K c i ts Wout { D with nx := tz D }) { D with nx := tz D } σ H) : tSeq (fun D σ H => tb (wT K c i ts Wout D) D σ H) tz D σ H := h
end
theorem pe_excN {X : Cx} {x : Str} {C : Addr} {pos : Pos} (hg : Gl X x) (d : ExD X.K X.mg x C) (hd : (x == ("__debug__" : Str)) = false := by decide) : PE X (.Name x pos) (tC (.ref C)) := pe_glob (v := .ref C) hg d.at_ rfl hd
theorem lay_word {a : Str} {o : Option Int} (h : (toD a).canLay0 = true) : (toD (a, o)).canLay0 = true := by
  show (PyData.tuple [toD a, toD o]).canLay0 = true
  have : (toD o).canLay0 = true := Lay.lay o
  simp [PyData.canLay0, PyData.canLayAll0, h, this]
/-- _law_asked of k21 -/
def ask21 (r : Rpt) (h : Int) : Str × Option Int := if isH r.v.n h = true then ("none", none) else ("house", some h)
theorem lay_ask {r : Rpt} {h : Int} : (toD (ask21 r h)).canLay0 = true := by
  unfold ask21
  split
  · exact lay_word (by decide +kernel)
  · exact lay_word (by decide +kernel)
def sp_r21 (K : PySem.W.Frag) (CR CV : Addr) : Sp := fun vs H Q _ => ∃ (F : Hp) (p : Addr) (m n : Int) (es : Tr.Roads) (l : List (Int × Int)) (r w : V), vs = [.ref p, r, w, .int n] ∧ Ex F H ∧ Pot F H p m ∧ m ≤ 10 ^ 8 ∧ R K F r (⟨CR, ⟨CV, n, held es⟩, sortP l⟩ : Rpt) ∧ R K F w l ∧ IsTree n es ∧ n ≤ 60 ∧ l.length ≤ 1000 ∧
  ∀ F' H', StpM (potS p).M F H F' H' → Pot F' H' p (m + 5000) → Q (.bl true) H'
end L3

/-! refusals that come out of parts of statements -/
namespace L3
open PySem L2
open Rep (R)
open RepD (toD)
open Tr (adj hs IsTree TreeOn dist)
open Evl (Ex ex_l ex_t fresh_back sz_of sz_lt ixN_nat)
section
variable {K : PySem.W.Frag} {S : Src} {n m l : Int} {F F' G H H' : Hp} {σ : L2.St} {ta tb tc te tl : TE} {tt : TT} {E : XK} {tr : TA} {D : Ends} {t tz tu tw : TS} {W : WX}
variable {α β γ δ ε : Type} [Rep α] [Rep β] [Rep γ] [Rep δ] [Rep ε] {x : α} {y : β} {z : γ}
theorem bad_op {r : R2} {Q : VK} (h : ∀ Q, ta σ H Q) : tOp r ta tb σ H Q := h _
theorem bad_test {Q : Bool → Hp → Prop} (h : ∀ Q, te σ H Q) : tTest te σ H Q := h _
theorem bad_if (h : ∀ Q, tt σ H Q) : tIfS tt tu tw D σ H := h _
theorem bad_ret (h : ∀ Q, te σ H Q) : tRet te D σ H := h _
theorem bad_drop (h : ∀ Q, te σ H Q) : tDrop te D σ H := h _
theorem bad_asg {g : TG} (h : ∀ Q, te σ H Q) : tAsg te g D σ H := h _
theorem bad_not {Q : Bool → Hp → Prop} (h : ∀ Q, tt σ H Q) : tNot tt σ H Q := h _
theorem bad_B {Q : Bool → Hp → Prop} (h : ∀ Q, te σ H Q) : tB te σ H Q := h _
/-- a method that is refused: of reports, of a village -/
theorem xb_rm1 {r : Rpt} {C CX : Addr} {m : Str} {pre : Rpt → β → Prop} {f : Rpt → β → ε} {Q : VK} (ha : EvX K F H σ ta r) (hb : EvX K F H σ tb y) (e : Ex F H) (hC : r.C = C) (hm : NoR m) (hp : pre r y) (k : Rz K F H E CX (f r y)) : tMeth C m (Bd2 K pre CX f) [] E ta (tCons tb tNil) σ H Q :=
  ha.go e fun u F1 H1 s1 r1 => by
    obtain ⟨a, dx, vv, vh, rfl, h2, _⟩ := id r1
    subst hC
    exact ⟨a, dx, _, rfl, s1.fh _ _ h2, rfs_no hm vv vh, (hb.up s1.ff) H1 s1.fh s1.hh _ fun w F2 H2 s2 r2 => ⟨F2, r, y, _, w, rfl, s2.fh, Rep.mono s2.ff r1, r2, hp, k.up (s1.trans s2)⟩⟩
theorem xb_vm2 {v : Vil} {C CX : Addr} {m : Str} {pre : Vil → β → γ → Prop} {f : Vil → β → γ → ε} {Q : VK} (ha : EvX K F H σ ta v) (hb : EvX K F H σ tb y) (hc : EvX K F H σ tc z) (e : Ex F H) (hC : v.C = C) (hm : NoV m) (hp : pre v y z) (k : Rz K F H E CX (f v y z)) :
    tMeth C m (Bd3 K pre CX f) [] E ta (tCons tb (tCons tc tNil)) σ H Q :=
  ha.go e fun u F1 H1 s1 r1 => by
    obtain ⟨a, dx, q, b, s, rfl, h2, _⟩ := id r1
    subst hC
    exact ⟨a, dx, _, rfl, s1.fh _ _ h2, vfs_no hm q b s, (hb.up s1.ff) H1 s1.fh s1.hh _ fun w F2 H2 s2 r2 => (hc.up (s1.ff.trans s2.ff)) H2 s2.fh (s1.hh.trans s2.hh) _ fun t F3 H3 s3 r3 =>
      ⟨F3, v, y, z, _, w, t, rfl, s3.fh, Rep.mono (s2.ff.trans s3.ff) r1, Rep.mono s3.ff r2, r3, hp, k.up ((s1.trans s2).trans s3)⟩⟩
/-- for over a tuple of which parts are drawn -/
theorem x_forT {P : List α → Prop} {g : TG} {B : Hp → α → L2.St → L2.St → Prop} (h : EvML K S n m F σ tr P) (hl : ∀ xs, P xs → xs.length ≤ 1000) (e : Ex F H) (i : S.I n F H) (hg : Tgt K g B)
    (k : ∀ xs F1 H1, StpM S.M F H F1 H1 → S.I m F1 H1 → P xs → ∃ Inv : Nat → Hp → L2.St → Hp → Prop, Inv 0 F1 σ H1 ∧ (∀ i F' σ' H', Inv i F' σ' H' → Ex F1 F' ∧ Ex F' H') ∧
      (∀ i x F' σ' H', xs[i]? = some x → Inv i F' σ' H' → ∀ F2 H2, Stp F' H' F2 H2 → ∀ σ2, B F2 x σ' σ2 →
        tu { D with nx := fun σ H => ∃ F, Inv (i + 1) F σ H, ct := fun σ H => ∃ F, Inv (i + 1) F σ H, bk := tz D } σ2 H2) ∧
      (∀ F' σ' H', Inv xs.length F' σ' H' → tz D σ' H')) : tSeq (tFor (iTup K (tTup tr)) g tu) tz D σ H :=
  h F H (Ex.refl F) e i _ fun vs xs F1 H1 s1 i1 p1 r1 => by
    have ev : EvL K F1 H1 σ (fun _ H Q => Q vs H) xs := fun H e g Q k => k vs F1 H (Stp.refl e) r1
    exact x_for (it_tupL ev (hl xs p1)) s1.fh hg fun F2 H2 s2 => k xs F2 H2 (s1.trans s2.m) (S.stp i1 s2) p1
end
theorem badH_fst {n x y : Int} (h : ¬ hs n x) : badH n [x, y] = x := badH_at (i := 0) rfl (by cases e : isH n x with | false => rfl | true => exact absurd (isH_iff.mp e) h) fun j y hj => by omega
theorem badH_two {n x y : Int} (h1 : hs n x) (h : ¬ hs n y) : badH n [x, y] = y := badH_at (i := 1) rfl (by cases e : isH n y with | false => rfl | true => exact absurd (isH_iff.mp e) h) fun j z hj hz => by
  obtain rfl : j = 0 := by omega
  cases hz
  exact isH_iff.mpr h1
theorem not_isH {n x : Int} (h : ¬ hs n x) : isH n x = false := by
  cases e : isH n x with
  | false => rfl
  | true => exact absurd (isH_iff.mp e) h
/-- what a refusal of a house tells -/
def catE (n c : Int) : Option (Bool × Int) := if isH n c = true then none else some (true, c)
end L3

/-! tales refused: which kind, with what -/
namespace L3
open PySem L2
open Rep (R)
open RepD (toD)
open Tr (adj hs IsTree TreeOn dist)
open Evl (Ex ex_l ex_t fresh_back sz_of sz_lt ixN_nat)
def allH (n : Int) (st : List Int) : Bool := st.all (isH n)
theorem allH_iff {n : Int} {st : List Int} : allH n st = true ↔ ∀ x ∈ st, hs n x := by
  unfold allH
  rw [List.all_eq_true]
  exact ⟨fun h x hx => isH_iff.mp (h x hx), fun h x hx => isH_iff.mpr (h x hx)⟩
theorem not_allH {n : Int} {st : List Int} (h : allH n st = false) : ∃ x ∈ st, ¬ hs n x := by
  by_cases q : ∃ x ∈ st, ¬ hs n x
  · exact q
  · rw [allH_iff.mpr fun x hx => Classical.byContradiction fun z => q ⟨x, hx, z⟩] at h
    cases h
/-- what a refusal tells: 0 a house, 1 no tale, 2 no days -/
noncomputable def out35 (v : Vil) (st ends : List Int) (often d : Int) : Option (Nat × Option Int) :=
  if allH v.n st = false then some (0, some (badH v.n st)) else if d = 0 then none else if isT v st = false then some (1, none) else if d = 3 ∧ often < 0 then some (2, some often) else if d = 4 ∧ allH v.n ends = false then some (0, some (badH v.n ends)) else none
theorem out_0 {v : Vil} {st ends : List Int} {often : Int} : out35 v st ends often 0 = out35 v st [] 0 0 := by unfold out35; simp
theorem out_1 {v : Vil} {st ends : List Int} {often : Int} : out35 v st ends often 1 = out35 v st [] 0 1 := by unfold out35; simp
theorem out_2 {v : Vil} {st ends : List Int} {often : Int} : out35 v st ends often 2 = out35 v st [] 0 1 := by unfold out35; simp
theorem out_3 {v : Vil} {st ends : List Int} {often : Int} : out35 v st ends often 3 = out35 v st [] often 3 := by unfold out35; simp
theorem out_4 {v : Vil} {st ends : List Int} {often : Int} : out35 v st ends often 4 = out35 v st ends 0 4 := by unfold out35; simp
theorem out_tale {v : Vil} {st ends : List Int} {often d : Int} (hd : d ≠ 0) : (allH v.n st = true ∧ isT v st = true) ∨ out35 v st ends often d = out35 v st [] 0 1 ∧ ∃ o, out35 v st [] 0 1 = some o := by
  unfold out35
  cases h1 : allH v.n st with
  | false => exact .inr ⟨by simp, _, by simp; rfl⟩
  | true =>
    cases h2 : isT v st with
    | false => exact .inr ⟨by simp [hd], _, by simp; rfl⟩
    | true => exact .inl ⟨rfl, rfl⟩
theorem tale_of {v : Vil} {st : List Int} (Th : IsTree v.n v.es) (h1 : allH v.n st = true) (h2 : isT v st = true) : Tale v.n v.es st := by
  have h := allH_iff.mp h1
  unfold isT at h2
  simp only [Bool.and_eq_true, decide_eq_true_eq, List.all_eq_true] at h2
  obtain ⟨l, q⟩ := h2
  refine ⟨l, h, fun x y a => ?_⟩
  have e : ∀ z, hs v.n z → hs v.n (stAt st z) := fun z hz => (stA_of h (by rw [l]; exact ⟨hz.1, by have := hz.2; have := hz.1; omega⟩)).2
  rcases a with a | a
  · exact q _ a
  · obtain ⟨hy, hx⟩ := Th.tr.rng _ a
    rw [Tr.dist_symm Th (e x hx) (e y hy)]
    exact q _ a
/-- the classes by their kinds -/
def cl3 (a b c : Addr) (i : Nat) : Addr := if i = 0 then a else if i = 1 then b else c
def wd3 (i : Nat) : Str := if i = 0 then "house" else if i = 1 then "tale" else "days"
section
variable (K : PySem.W.Frag) {α β γ δ ε : Type} [Rep α] [Rep β] [Rep γ] [Rep δ] [Rep ε]
def Bo2 (pre : α → β → Prop) (cl : Nat → Addr) (out : α → β → Option (Nat × ε)) : Sp := fun vs H _ E => ∃ F x y v w i a, vs = [v, w] ∧ Ex F H ∧ R K F v x ∧ R K F w y ∧ pre x y ∧ out x y = some (i, a) ∧ Rz K F H E (cl i) a
def Bo3 (pre : α → β → γ → Prop) (cl : Nat → Addr) (out : α → β → γ → Option (Nat × ε)) : Sp := fun vs H _ E => ∃ F x y z v w t i a, vs = [v, w, t] ∧ Ex F H ∧ R K F v x ∧ R K F w y ∧ R K F t z ∧ pre x y z ∧ out x y z = some (i, a) ∧ Rz K F H E (cl i) a
def Bo4 (pre : α → β → γ → δ → Prop) (cl : Nat → Addr) (out : α → β → γ → δ → Option (Nat × ε)) : Sp := fun vs H _ E => ∃ F x y z q v w t u i a, vs = [v, w, t, u] ∧ Ex F H ∧ R K F v x ∧ R K F w y ∧ R K F t z ∧ R K F u q ∧ pre x y z q ∧ out x y z q = some (i, a) ∧ Rz K F H E (cl i) a
end
section
variable {K : PySem.W.Frag} {F G H : Hp} {σ : L2.St} {ta tb tc td : TE} {Q : VK} {E : XK} {W : WX} {cl : Nat → Addr} {i : Nat}
variable {α β γ δ ε : Type} [Rep α] [Rep β] [Rep γ] [Rep δ] [Rep ε] {x : α} {y : β} {z : γ} {q : δ} {a : ε}
theorem xo_call2 {pre : α → β → Prop} {out : α → β → Option (Nat × ε)} (ha : EvX K F H σ ta x) (hb : EvX K F H σ tb y) (e : Ex F H) (hp : pre x y) (ho : out x y = some (i, a)) (k : Rz K F H E (cl i) a) : tCall (Bo2 K pre cl out) [] E (tCons ta (tCons tb tNil)) σ H Q :=
  ha.go e fun v F1 H1 s1 r1 => (hb.up s1.ff) H1 s1.fh s1.hh _ fun w F2 H2 s2 r2 => ⟨F2, x, y, v, w, i, a, rfl, s2.fh, Rep.mono s2.ff r1, r2, hp, ho, k.up (s1.trans s2)⟩
theorem xo_callS2 {pre : α → β → Prop} {out : α → β → Option (Nat × ε)} (ha : EvX K F H σ ta x) (hb : EvX K F H σ tb y) (e : Ex F H) (hp : pre x y) (ho : out x y = some (i, a)) (k : Rz K F H (WE W σ) (cl i) a) : tCallS (Bo2 K pre cl out) (WE W) (tCons ta (tCons tb tNil)) σ H Q :=
  ha.go e fun v F1 H1 s1 r1 => (hb.up s1.ff) H1 s1.fh s1.hh _ fun w F2 H2 s2 r2 => ⟨F2, x, y, v, w, i, a, rfl, s2.fh, Rep.mono s2.ff r1, r2, hp, ho, k.up (s1.trans s2)⟩
theorem xo_callS3 {pre : α → β → γ → Prop} {out : α → β → γ → Option (Nat × ε)} (ha : EvX K F H σ ta x) (hb : EvX K F H σ tb y) (hc : EvX K F H σ tc z) (e : Ex F H) (hp : pre x y z) (ho : out x y z = some (i, a)) (k : Rz K F H (WE W σ) (cl i) a) :
    tCallS (Bo3 K pre cl out) (WE W) (tCons ta (tCons tb (tCons tc tNil))) σ H Q :=
  ha.go e fun v F1 H1 s1 r1 => (hb.up s1.ff) H1 s1.fh s1.hh _ fun w F2 H2 s2 r2 => (hc.up (s1.ff.trans s2.ff)) H2 s2.fh (s1.hh.trans s2.hh) _ fun t F3 H3 s3 r3 =>
    ⟨F3, x, y, z, v, w, t, i, a, rfl, s3.fh, Rep.mono (s2.ff.trans s3.ff) r1, Rep.mono s3.ff r2, r3, hp, ho, k.up ((s1.trans s2).trans s3)⟩
theorem xo_callS4 {pre : α → β → γ → δ → Prop} {out : α → β → γ → δ → Option (Nat × ε)} (ha : EvX K F H σ ta x) (hb : EvX K F H σ tb y) (hc : EvX K F H σ tc z) (hd : EvX K F H σ td q) (e : Ex F H) (hp : pre x y z q) (ho : out x y z q = some (i, a)) (k : Rz K F H (WE W σ) (cl i) a) :
    tCallS (Bo4 K pre cl out) (WE W) (tCons ta (tCons tb (tCons tc (tCons td tNil)))) σ H Q :=
  ha.go e fun v F1 H1 s1 r1 => (hb.up s1.ff) H1 s1.fh s1.hh _ fun w F2 H2 s2 r2 => (hc.up (s1.ff.trans s2.ff)) H2 s2.fh (s1.hh.trans s2.hh) _ fun t F3 H3 s3 r3 =>
    (hd.up ((s1.ff.trans s2.ff).trans s3.ff)) H3 s3.fh ((s1.hh.trans s2.hh).trans s3.hh) _ fun u F4 H4 s4 r4 =>
    ⟨F4, x, y, z, q, v, w, t, u, i, a, rfl, s4.fh, Rep.mono ((s2.ff.trans s3.ff).trans s4.ff) r1, Rep.mono (s3.ff.trans s4.ff) r2, Rep.mono s4.ff r3, r4, hp, ho, k.up (((s1.trans s2).trans s3).trans s4)⟩
end
/-- _law_kind -/
def sp_kind (K : PySem.W.Frag) (cl : Nat → Addr) : Sp := fun vs H Q _ => ∃ (F : Hp) (i : Nat) (a : Option Int) (v : V), vs = [v] ∧ Ex F H ∧ i < 3 ∧ R K F v (⟨cl i, a⟩ : Exc (Option Int)) ∧ ∀ u F' H', Stp F H F' H' → R K F' u (wd3 i, a) → Q u H'
theorem ev_kind {K : PySem.W.Frag} {F G : Hp} {σ : L2.St} {ta : TE} {E : XK} {cl : Nat → Addr} {i : Nat} {a : Option Int} (ha : EvX K F G σ ta (⟨cl i, a⟩ : Exc (Option Int))) (hi : i < 3) : EvX K F G σ (tCall (sp_kind K cl) [] E (tCons ta tNil)) (wd3 i, a) := fun H e g Q k =>
  ha H e g _ fun v F1 H1 s1 r1 => ⟨F1, i, a, v, rfl, s1.fh, hi, r1, fun u F2 H2 s2 r2 => k u F2 H2 (s1.trans s2) r2⟩
noncomputable def ask35 (v : Vil) (st ends : List Int) (often d : Int) : Str × Option Int := match out35 v st ends often d with
  | none => ("none", none)
  | some (i, a) => (wd3 i, a)
theorem out_lt {v : Vil} {st ends : List Int} {often d : Int} {i : Nat} {a : Option Int} (h : out35 v st ends often d = some (i, a)) : i < 3 := by
  unfold out35 at h
  split at h
  · cases h; decide
  split at h
  · cases h
  split at h
  · cases h; decide
  split at h
  · cases h; decide
  split at h
  · cases h; decide
  · cases h
end L3

/-! what is due of lists that are no tales -/
namespace L3
open PySem L2
open Rep (R)
open RepD (toD)
open Tr (adj hs IsTree TreeOn dist)
open Evl (Ex ex_l ex_t fresh_back sz_of sz_lt ixN_nat)
/-- int(b) -/
theorem ev_intB {K : PySem.W.Frag} {F G : Hp} {σ : L2.St} {ta : TE} {b : Bool} (ha : EvX K F G σ ta b) : EvX K F G σ (tCB (fun xs H Q => (∃ i, xs = [V.int i] ∧ Q (.int i) H) ∨ ∃ k, xs = [V.bl k] ∧ Q (.int (if k then 1 else 0)) H) (tCons ta tNil)) (if b = true then (1 : Int) else 0) :=
  ev_cb1 ha fun F1 u _ h1 H1 e1 _ Q k => by
    cases h1
    exact .inr ⟨b, rfl, k _ F1 H1 (Stp.refl e1) rfl⟩
theorem rz_some {K : PySem.W.Frag} {F H : Hp} {E : XK} {C : Addr} {α : Type} [Rep α] {x : α} (k : Rz K F H E C (some x : Option α)) : Rz K F H E C x := fun d w F' H' s h1 h2 => k d w F' H' s h1 h2
theorem rz_opt {K : PySem.W.Frag} {F H : Hp} {E : XK} {C : Addr} {α : Type} [Rep α] {x : α} (k : Rz K F H E C x) : Rz K F H E C (some x : Option α) := fun d w F' H' s h1 h2 => k d w F' H' s h1 h2
abbrev WdO := Str × Option Int
def strL (n : Int) (xs : List Int) : List WdO := (xs.filter fun x => !(isH n x)).map fun x => (("house" : Str), some x)
theorem strL_nil {n : Int} {xs : List Int} : strL n xs = [] ↔ allH n xs = true := by
  unfold strL
  rw [List.map_eq_nil_iff, List.filter_eq_nil_iff]
  unfold allH
  rw [List.all_eq_true]
  simp
theorem strL_head {n : Int} {xs : List Int} (h : allH n xs = false) (m : List WdO) (d : WdO) : (strL n xs ++ m).headD d = (("house" : Str), some (badH n xs)) := by
  have hh : strL n xs ≠ [] := fun z => by rw [strL_nil.mp z] at h; cases h
  have e : (strL n xs).head? = some (("house" : Str), some (badH n xs)) := by
    unfold strL badH
    rw [List.head?_map, List.head?_filter]
    cases q : xs.find? (fun x => !(isH n x)) with
    | some x => rfl
    | none =>
      exfalso
      rw [List.find?_eq_none] at q
      have : allH n xs = true := allH_iff.mpr fun x hx => isH_iff.mp (by simpa using q x hx)
      rw [this] at h
      cases h
  cases q : strL n xs with
  | nil => exact absurd q hh
  | cons a l =>
    rw [q] at e
    exact Option.some.inj e
theorem strL_len (n : Int) (xs : List Int) : (strL n xs).length ≤ xs.length := by
  unfold strL
  rw [List.length_map]
  exact List.length_filter_le _ _
noncomputable def nonT (v : Vil) (st : List Int) : Bool := decide (strL v.n st = []) && !isT v st
noncomputable def noneL (v : Vil) (st : List Int) : List WdO := strL v.n st ++ List.replicate (if nonT v st = true then (1 : Int) else 0).toNat (("tale" : Str), (none : Option Int))
noncomputable def daysL (often : Int) : List WdO := List.replicate (if decide (often < 0) = true then (1 : Int) else 0).toNat (("days" : Str), some often)
noncomputable def duesL (v : Vil) (st ends : List Int) (often : Int) : List (List WdO) := [strL v.n st, noneL v st, noneL v st, noneL v st ++ daysL often] ++ [noneL v st ++ strL v.n ends]
theorem rep1 (b : Bool) (x : WdO) : List.replicate (if b = true then (1 : Int) else 0).toNat x = if b = true then [x] else [] := by
  cases b
  · rfl
  · rfl
theorem headD_app {α : Type} {l m : List α} {d e : α} (h : l ≠ []) : (l ++ m).headD d = l.headD e := by
  cases l with
  | nil => exact absurd rfl h
  | cons a l => rfl
theorem due35 {v : Vil} {st ends : List Int} {often d : Int} (h0 : 0 ≤ d) (h5 : d < 5) : ∃ l, atI (duesL v st ends often) d = some l ∧ l.length ≤ st.length + 2 + ends.length ∧ atI (l ++ [(("none" : Str), (none : Option Int))]) 0 = some (ask35 v st ends often d) := by
  have at0 : ∀ l : List WdO, atI (l ++ [(("none" : Str), (none : Option Int))]) 0 = some ((l ++ [(("none" : Str), (none : Option Int))]).headD (("" : Str), none)) := fun l => at_head
  have ln : (noneL v st).length ≤ st.length + 1 := by
    unfold noneL
    rw [rep1, List.length_append]
    have := strL_len v.n st
    split <;> simp <;> omega
  have ld : (daysL often).length ≤ 1 := by
    unfold daysL
    rw [rep1]
    split <;> simp
  have lt := strL_len v.n st
  have le := strL_len v.n ends
  have hw : ∀ x : Option Int, wd3 0 = ("house" : Str) := fun _ => rfl
  -- the head behind a list that is none
  have main : ∀ (m : List WdO), (allH v.n st = true → isT v st = true → (m ++ [(("none" : Str), (none : Option Int))]).headD (("" : Str), none) = ask35 v st ends often d) → d ≠ 0 → ((noneL v st ++ m) ++ [(("none" : Str), (none : Option Int))]).headD (("" : Str), none) = ask35 v st ends often d := by
    intro m hm hd
    cases h1 : allH v.n st with
    | false =>
      have : ask35 v st ends often d = (("house" : Str), some (badH v.n st)) := by unfold ask35 out35; rw [h1]; rfl
      rw [this]
      unfold noneL
      rw [List.append_assoc, List.append_assoc]
      exact strL_head h1 _ _
    | true =>
      have e0 := strL_nil.mpr h1
      cases h2 : isT v st with
      | false =>
        have : ask35 v st ends often d = (("tale" : Str), (none : Option Int)) := by unfold ask35 out35; rw [h1, h2]; simp [hd]; rfl
        rw [this]
        unfold noneL nonT
        rw [rep1, e0, h2]
        rfl
      | true =>
        have : noneL v st = [] := by
          unfold noneL nonT
          rw [rep1, e0, h2]
          rfl
        rw [this]
        exact hm h1 h2
  rcases (by omega : d = 0 ∨ d = 1 ∨ d = 2 ∨ d = 3 ∨ d = 4) with rfl | rfl | rfl | rfl | rfl
  · refine ⟨_, rfl, by omega, ?_⟩
    rw [at0]
    congr 1
    cases h1 : allH v.n st with
    | false =>
      rw [strL_head h1]
      unfold ask35 out35
      rw [h1]; rfl
    | true =>
      rw [strL_nil.mpr h1]
      unfold ask35 out35
      rw [h1]; rfl
  · refine ⟨_, rfl, by omega, ?_⟩
    rw [at0]
    congr 1
    have := main [] (fun h1 h2 => by unfold ask35 out35; rw [h1, h2]; simp) (by decide)
    rwa [List.append_nil] at this
  · refine ⟨_, rfl, by omega, ?_⟩
    rw [at0]
    congr 1
    have := main [] (fun h1 h2 => by unfold ask35 out35; rw [h1, h2]; simp) (by decide)
    rwa [List.append_nil] at this
  · refine ⟨_, rfl, by rw [List.length_append]; omega, ?_⟩
    rw [at0]
    congr 1
    refine main (daysL often) (fun h1 h2 => ?_) (by decide)
    unfold ask35 out35 daysL
    rw [h1, h2, rep1]
    by_cases q : often < 0
    · simp [q]; rfl
    · simp [q]
  · refine ⟨_, rfl, by rw [List.length_append]; omega, ?_⟩
    rw [at0]
    congr 1
    refine main (strL v.n ends) (fun h1 h2 => ?_) (by decide)
    cases h3 : allH v.n ends with
    | false =>
      rw [strL_head h3]
      unfold ask35 out35
      rw [h1, h2, h3]; simp; rfl
    | true =>
      rw [strL_nil.mpr h3]
      unfold ask35 out35
      rw [h1, h2, h3]; simp
/-- by the roads alone -/
theorem isT_max {C : Addr} {n : Int} {es : Tr.Roads} {st : List Int} (T : IsTree n es) (hl : st.length = n.toNat) (h : ∀ y ∈ st, hs n y) : isT ⟨C, n, held es⟩ st = decide (maxL ((es.map fun e => dist es (stAt st e.1) (stAt st e.2)) ++ [0]) < 2) := by
  have hne : (es.map fun e => dist es (stAt st e.1) (stAt st e.2)) ++ [0] ≠ [] := by simp
  have hz : ∀ z, hs n z → hs n (stAt st z) := fun z hz => (stA_of h (by have := hz.1; have := hz.2; exact ⟨hz.1, by omega⟩)).2
  have key : isT ⟨C, n, held es⟩ st = true ↔ ∀ x y, adj es x y → dist es (stAt st x) (stAt st y) ≤ 1 := by
    unfold isT
    simp only [Bool.and_eq_true, decide_eq_true_eq, List.all_eq_true]
    constructor
    · intro ⟨_, q⟩ x y a
      have := (adj_held es x y).mpr a
      rcases this with a | a
      · have := q _ a
        rwa [dist_held] at this
      · have := q _ a
        rw [dist_held] at this
        have hh := Tr.adj_hs T ((adj_held es x y).mp (.inr a))
        rw [Tr.dist_symm T (hz _ hh.1) (hz _ hh.2)]
        exact this
    · intro q
      refine ⟨hl, fun e he => ?_⟩
      rw [dist_held]
      exact q _ _ ((adj_held es e.1 e.2).mp (.inl he))
  cases q : isT ⟨C, n, held es⟩ st with
  | true =>
    have k := key.mp q
    symm
    rw [decide_eq_true_eq]
    rcases List.mem_append.mp (maxL_mem hne) with m | m
    · obtain ⟨e, he, e2⟩ := List.mem_map.mp m
      have := k e.1 e.2 (.inl he)
      omega
    · have := List.mem_singleton.mp m
      omega
  | false =>
    symm
    rw [decide_eq_false_iff_not]
    intro z
    have : isT ⟨C, n, held es⟩ st = true := key.mpr fun x y a => by
      rcases a with a | a
      · have := le_maxL (List.mem_append_left [0] (List.mem_map.mpr ⟨(x, y), a, rfl⟩ : dist es (stAt st x) (stAt st y) ∈ es.map fun e => dist es (stAt st e.1) (stAt st e.2)))
        omega
      · have := le_maxL (List.mem_append_left [0] (List.mem_map.mpr ⟨(y, x), a, rfl⟩ : dist es (stAt st y) (stAt st x) ∈ es.map fun e => dist es (stAt st e.1) (stAt st e.2)))
        have hh := Tr.adj_hs T (.inl a : adj es y x)
        rw [Tr.dist_symm T (hz _ hh.2) (hz _ hh.1)]
        omega
    rw [q] at this
    cases this
def sp_a35 (K : PySem.W.Frag) (CV : Addr) : Sp := fun vs H Q _ => ∃ (F : Hp) (d often : Int) (v : Vil) (st ends : List Int) (w u t : V), vs = [.int d, w, u, t, .int often] ∧ Ex F H ∧ R K F w v ∧ R K F u st ∧ R K F t ends ∧ v.C = CV ∧ 0 ≤ d ∧ d < 5 ∧ ends.length = 2 ∧
  ∀ u F' H', Stp F H F' H' → R K F' u (ask35 v st ends often d) → Q u H'
def sp_t35 (K : PySem.W.Frag) : Sp := fun vs H Q _ => ∃ (F : Hp) (n : Int) (es : Tr.Roads) (st : List Int) (w l s : V), vs = [w, l, s] ∧ Ex F H ∧ R K F w (tab n (dist es)) ∧ R K F l es ∧ R K F s st ∧ IsTree n es ∧ n ≤ 60 ∧ (∀ y ∈ st, hs n y) ∧
  ∀ H', Ex H H' → Q (.bl (isT ⟨0, n, held es⟩ st)) H'
def sp_b35 (K : PySem.W.Frag) : Sp := fun vs H Q _ => ∃ (F : Hp) (p : Addr) (m n : Int) (es : Tr.Roads) (st : List Int) (w s : V), vs = [.ref p, w, s] ∧ Ex F H ∧ Pot F H p m ∧ m ≤ 2 * 10 ^ 8 ∧ R K F w (tab n (dist es)) ∧ R K F s st ∧ IsTree n es ∧ n ≤ 60 ∧ Tale n es st ∧
  ∀ u F' H' (l : List Int), l.length ≤ 1000 → StpM (potS p).M F H F' H' → Pot F' H' p (m + 1000) → R K F' u l → Q u H'
def sp_r35 (K : PySem.W.Frag) (CV : Addr) : Sp := fun vs H Q _ => ∃ (F : Hp) (p : Addr) (m n : Int) (es : Tr.Roads) (w l v : V), vs = [.ref p, w, l, v] ∧ Ex F H ∧ Pot F H p m ∧ m ≤ 10 ^ 7 ∧ R K F w (tab n (dist es)) ∧ R K F l es ∧ R K F v (⟨CV, n, held es⟩ : Vil) ∧ IsTree n es ∧ n ≤ 60 ∧
  ∀ F' H', StpM (potS p).M F H F' H' → Pot F' H' p (m + 10000) → Q (.bl true) H'
section
variable {K : PySem.W.Frag} {F G H : Hp} {σ : L2.St} {ta tb tc td te : TE} {E : XK} {n d often : Int} {es : Tr.Roads} {st ends : List Int} {v : Vil} {C : Addr}
theorem ev_a35 (h1 : EvX K F G σ ta d) (h2 : EvX K F G σ tb v) (h3 : EvX K F G σ tc st) (h4 : EvX K F G σ td ends) (h5 : EvX K F G σ te often) (hC : v.C = C) (d0 : 0 ≤ d) (d5 : d < 5) (hl : ends.length = 2) :
    EvX K F G σ (tCall (sp_a35 K C) [] E (tCons ta (tCons tb (tCons tc (tCons td (tCons te tNil)))))) (ask35 v st ends often d) := fun H e g Q k =>
  h1 H e g _ fun x1 F1 H1 s1 r1 => (h2.up s1.ff) H1 s1.fh (g.trans s1.hh) _ fun x2 F2 H2 s2 r2 => (h3.up (s1.ff.trans s2.ff)) H2 s2.fh ((g.trans s1.hh).trans s2.hh) _ fun x3 F3 H3 s3 r3 =>
    (h4.up ((s1.ff.trans s2.ff).trans s3.ff)) H3 s3.fh (((g.trans s1.hh).trans s2.hh).trans s3.hh) _ fun x4 F4 H4 s4 r4 => (h5.up (((s1.ff.trans s2.ff).trans s3.ff).trans s4.ff)) H4 s4.fh ((((g.trans s1.hh).trans s2.hh).trans s3.hh).trans s4.hh) _ fun x5 F5 H5 s5 r5 => by
      cases r1; cases r5
      exact ⟨F5, d, often, v, st, ends, x2, x3, x4, rfl, s5.fh, Rep.mono ((s3.ff.trans s4.ff).trans s5.ff) r2, Rep.mono (s4.ff.trans s5.ff) r3, Rep.mono s5.ff r4, hC, d0, d5, hl, fun u F6 H6 s6 r6 => k u F6 H6 (((((s1.trans s2).trans s3).trans s4).trans s5).trans s6) r6⟩
theorem ev_t35 (h1 : EvX K F G σ ta (tab n (dist es))) (h2 : EvX K F G σ tb es) (h3 : EvX K F G σ tc st) (T : IsTree n es) (hn : n ≤ 60) (hh : ∀ y ∈ st, hs n y) : EvX K F G σ (tCall (sp_t35 K) [] E (tCons ta (tCons tb (tCons tc tNil)))) (isT ⟨0, n, held es⟩ st) := fun H e g Q k =>
  h1 H e g _ fun x1 F1 H1 s1 r1 => (h2.up s1.ff) H1 s1.fh (g.trans s1.hh) _ fun x2 F2 H2 s2 r2 => (h3.up (s1.ff.trans s2.ff)) H2 s2.fh ((g.trans s1.hh).trans s2.hh) _ fun x3 F3 H3 s3 r3 =>
    ⟨F3, n, es, st, x1, x2, x3, rfl, s3.fh, Rep.mono (s2.ff.trans s3.ff) r1, Rep.mono s3.ff r2, r3, T, hn, hh, fun H4 e4 => k _ F3 H4 (((s1.trans s2).trans s3).ext e4) rfl⟩
end
theorem ask_wd {v : Vil} {st ends : List Int} {often d : Int} : (toD (ask35 v st ends often d)).canLay0 = true := by
  unfold ask35
  split
  · exact lay_word (by decide +kernel)
  · rename_i i a h
    have := out_lt h
    refine lay_word ?_
    unfold wd3
    split
    · decide +kernel
    split
    · decide +kernel
    · decide +kernel
theorem lay_all {α : Type} [Rep α] [DecidableEq α] [RepD α] : ∀ xs : List α, (∀ x ∈ xs, (toD x).canLay0 = true) → PyData.canLayAll0 (xs.map toD) = true
  | [], _ => by simp [PyData.canLayAll0]
  | x :: xs, h => by simp [PyData.canLayAll0, h x (by simp), lay_all xs fun y hy => h y (by simp [hy])]
theorem lay_list {α : Type} [Rep α] [DecidableEq α] [RepD α] {xs : List α} (h : ∀ x ∈ xs, (toD x).canLay0 = true) : (toD xs).canLay0 = true := by
  show (PyData.list (xs.map toD)).canLay0 = true
  simp only [PyData.canLay0]
  exact lay_all xs h
theorem lay_strL {n : Int} {xs : List Int} : (toD (strL n xs)).canLay0 = true := lay_list fun x hx => by
  unfold strL at hx
  obtain ⟨y, _, rfl⟩ := List.mem_map.mp hx
  exact lay_word (by decide +kernel)
end L3

/-! the deck: a list of a list and two numbers as a source of draws -/
namespace L3
open PySem L2
open Rep (R)
open RepD (toD)
open Tr (adj hs IsTree TreeOn dist)
open Evl (Ex ex_l ex_t fresh_back sz_of sz_lt ixN_nat)
def Deck (F H : Hp) (t g : Addr) (n : Int) : Prop := F t = none ∧ F g = none ∧ t ≠ g ∧ ∃ (ds : List Int) (fold turn : Int),
  H t = some (.lst [.ref g, .int fold, .int turn]) ∧ H g = some (.lst (ds.map V.int)) ∧ 0 ≤ fold ∧ fold < 2 ^ 61 ∧ 0 ≤ turn ∧ turn ≤ n
theorem Deck.stp {F H F' H' : Hp} {t g : Addr} {n : Int} (T : Deck F H t g n) (s : Stp F H F' H') : Deck F' H' t g n := by
  obtain ⟨f1, f2, ne, ds, c, d, h1, h2, r⟩ := T
  exact ⟨s.fno h1 f1, s.fno h2 f2, ne, ds, c, d, s.hh _ _ h1, s.hh _ _ h2, r⟩
theorem Deck.le {F H : Hp} {t g : Addr} {n m : Int} (T : Deck F H t g n) (h : n ≤ m) : Deck F H t g m := by
  obtain ⟨f1, f2, ne, ds, c, d, h1, h2, a1, a2, a3, a4⟩ := T
  exact ⟨f1, f2, ne, ds, c, d, h1, h2, a1, a2, a3, by omega⟩
def deckS (t g : Addr) : Src where
  M := TM t g
  I := fun n F H => Deck F H t g n
  stp := fun T s => T.stp s
  le := fun T h => T.le h
  no := fun {n F H a} T h => by
    obtain ⟨f1, f2, ne, ds, c, d, h1, h2, _⟩ := T
    rcases h with rfl | rfl
    · exact ⟨(by rw [h1]; exact fun z => by cases z), f1⟩
    · exact ⟨(by rw [h2]; exact fun z => by cases z), f2⟩
  upd_ok := fun {n F H a o u} T h _ _ => by
    obtain ⟨f1, f2, ne, ds, c, d, h1, h2, h3⟩ := T
    have n1 : t ≠ a := fun z => h (.inl z.symm)
    have n2 : g ≠ a := fun z => h (.inr z.symm)
    exact ⟨f1, f2, ne, ds, c, d, by rw [upd_ne n1]; exact h1, by rw [upd_ne n2]; exact h2, h3⟩
  dn := fun ⟨f1, f2, r⟩ e => ⟨fresh_back e f1, fresh_back e f2, r⟩
  frz := fun {n F H a o} ⟨f1, f2, r⟩ h => ⟨by rw [upd_ne (fun z => h (.inl z.symm))]; exact f1, by rw [upd_ne (fun z => h (.inr z.symm))]; exact f2, r⟩
def sp_take : Sp := fun vs H Q E => ∃ t g, SpD (deckS t g) (.ref t) (10 ^ 9) vs H Q E
theorem draw_deck {t g : Addr} : ∀ vs H Q E, SpD (deckS t g) (.ref t) (10 ^ 9) vs H Q E → sp_take vs H Q E := fun vs H Q E h => ⟨t, g, h⟩
def sp_deck (K : PySem.W.Frag) : Sp := fun vs H Q _ => ∃ (F : Hp) (sc : V) (s : Scr), vs = [sc] ∧ Ex F H ∧ R K F sc s ∧ s.ns.length ≤ 1000 ∧
  ∀ (t g : Addr) (H' : Hp), Stp F H F H' → H t = none → H g = none → Deck F H' t g 0 → Q (.ref t) H'
def sp_dvil (K : PySem.W.Frag) : Sp := fun vs H Q E => ∃ b g, VilS K (deckS b g) (.ref b) (10 ^ 8) vs H Q E
def sp_dtale (K : PySem.W.Frag) : Sp := fun vs H Q E => ∃ b g, TaleS K (deckS b g) (.ref b) (10 ^ 8) 1000 vs H Q E
theorem vil_deck {K : PySem.W.Frag} {b g : Addr} : ∀ vs H Q E, VilS K (deckS b g) (.ref b) (10 ^ 8) vs H Q E → sp_dvil K vs H Q E := fun vs H Q E h => ⟨b, g, h⟩
theorem tale_deck {K : PySem.W.Frag} {b g : Addr} : ∀ vs H Q E, TaleS K (deckS b g) (.ref b) (10 ^ 8) 1000 vs H Q E → sp_dtale K vs H Q E := fun vs H Q E h => ⟨b, g, h⟩
section
variable {K : PySem.W.Frag} {F G H : Hp} {σ : L2.St} {ta tb tc td te : TE} {E : XK} {α : Type} [Rep α] {x : α}
/-- an item of a list that changes -/
theorem ev_ixC {t : Addr} {vs : List V} {i : Int} {v : V} (ha : EvX K F G σ ta (V.ref t)) (hb : EvX K F G σ tb i) (h : G t = some (.lst vs)) (hv : atI vs i = some v) (r : R K F v x) : EvX K F G σ (tIx K ta tb) x := by
  refine EvX.or1 (ev_op ha hb fun F1 u w e h1 h2 H1 e1 g1 Q k => ?_)
  cases h1; cases h2
  exact .inl ⟨t, vs, i, v, rfl, rfl, SqL.of (g1 _ _ h), hv, k v F1 H1 (Stp.refl e1) (Rep.mono e r)⟩
theorem atI_lastD {l : List Int} (h : l ≠ []) : atI l (-1) = some (l.getLastD 0) := by
  rcases List.eq_nil_or_concat l with rfl | ⟨m, a, rfl⟩
  · exact absurd rfl h
  · rw [List.concat_eq_append, atI_last]
    simp
theorem atI_map {β : Type} {f : Int → β} {l : List Int} {i a : Int} (h : atI l i = some a) : atI (l.map f) i = some (f a) := map_at h
/-- a list that changes is not empty -/
theorem ev_neE {t : Addr} {ds : List Int} (ha : EvX K F G σ ta (V.ref t)) (h : G t = some (.lst (ds.map V.int))) : EvX K F G σ (tOp (rNeA K) ta (tLst tNil)) (!decide (ds = [])) := by
  refine ev_op (K := K) (x := V.ref t) (y := ([] : List Int)) ha ev_nillst fun F1 u w _ r1 r2 H1 e1 g1 Q k => ?_
  cases r1
  refine .inr ⟨toD ds, toD ([] : List Int), RepD.dp (α := List Int) ⟨t, _, rfl, g1 _ _ h, all2_ints.mpr rfl⟩, dp_mono e1 (RepD.dp r2), shaped_of _ (Lay.lay _) (by decide), shaped_of _ (Lay.lay _) (by decide), k _ F1 H1 (Stp.refl e1) ?_⟩
  rw [RepD.eqv]; rfl
end
end L3

/-! reports with some twice; ways by a queue that is popped -/
namespace L3
open PySem L2
open Rep (R)
open RepD (toD)
open Tr (adj hs IsTree TreeOn dist)
open Evl (Ex ex_l ex_t fresh_back sz_of sz_lt ixN_nat)
/-- reports of a tale, some twice -/
def DupS (K : PySem.W.Frag) (S : Src) (a : V) (lim c : Int) : Sp := fun vs H Q _ => ∃ (F : Hp) (m n most : Int) (es : Tr.Roads) (st : List Int) (w : V), vs = [a, w, .int most] ∧ Ex F H ∧ S.I m F H ∧ m ≤ lim ∧ R K F w st ∧ Tale n es st ∧ 0 < n ∧ n ≤ 60 ∧ 0 ≤ most ∧
  ∀ v F' H' (l : List (Int × Int)), (∀ e ∈ l, hs n e.1 ∧ stAt st e.1 = e.2) → l.length ≤ 120 → StpM S.M F H F' H' → S.I (m + c) F' H' → R K F' v l → Q v H'
def sp_dups (K : PySem.W.Frag) : Sp := fun vs H Q E => ∃ b g, DupS K (deckS b g) (.ref b) (10 ^ 8) 1000 vs H Q E
theorem dup_deck {K : PySem.W.Frag} {b g : Addr} : ∀ vs H Q E, DupS K (deckS b g) (.ref b) (10 ^ 8) 1000 vs H Q E → sp_dups K vs H Q E := fun vs H Q E h => ⟨b, g, h⟩
def sp_dways (K : PySem.W.Frag) : Sp := fun vs H Q _ => ∃ (F : Hp) (v : V) (n : Int) (es : Tr.Roads), vs = [v] ∧ Ex F H ∧ R K F v (doorsL n es) ∧ IsTree n es ∧ n ≤ 60 ∧ ∀ u F' H', Stp F H F' H' → R K F' u (tab n (dist es)) → Q u H'
section
variable {K : PySem.W.Frag} {S : Src} {n m l N lim c : Int} {F F' G H H' : Hp} {σ : L2.St} {ta tb tc te tl th : TE} {tr : TA} {E : XK} {a : V} {sp : Sp} {es : Tr.Roads}
theorem em_dupS {j : Nat} {n2 : Int} {st : List Int} (h0 : σ[j]? = some (some a)) (hsp : ∀ vs H Q E, DupS K S a lim c vs H Q E → sp vs H Q E) (hb : EvX K F F σ tb st) (hst : Tale n es st) (hc : EvM K S m n2 F σ tc (fun z : Int => 0 ≤ z)) (hp : 0 < n) (hn : n ≤ 60) (hm : n2 ≤ lim) :
    EvM K S m (n2 + c) F σ (tCall sp [] E (tCons (tVar j) (tCons tb (tCons tc tNil)))) (fun l : List (Int × Int) => (∀ e ∈ l, hs n e.1 ∧ stAt st e.1 = e.2) ∧ l.length ≤ 120) := fun F1 H e1 e2 i Q k =>
  ⟨_, h0, (em_pure (K := K) (S := S) (n := m) hb) F1 H e1 e2 i _ fun v st' F2 H2 s2 i2 hst' r2 => hc F2 H2 (e1.trans s2.ff) s2.fh i2 _ fun w most F3 H3 s3 i3 h0 r3 => by
    cases r3
    subst hst'
    exact hsp _ _ _ _ ⟨F3, n2, n, most, es, _, v, rfl, s3.fh, i3, hm, Rep.mono s3.ff r2, hst, hp, hn, h0, fun u F4 H4 l hl hl2 s4 i4 r4 => k u l F4 H4 ((s2.trans s3).trans s4) i4 ⟨hl, hl2⟩ r4⟩⟩
/-- the tale drawn, too -/
theorem em_dupM {j : Nat} {n1 n2 : Int} (h0 : σ[j]? = some (some a)) (hsp : ∀ vs H Q E, DupS K S a lim c vs H Q E → sp vs H Q E) (hb : EvM K S m n1 F σ tb (fun st : List Int => Tale n es st)) (hc : EvM K S n1 n2 F σ tc (fun z : Int => 0 ≤ z)) (hp : 0 < n) (hn : n ≤ 60) (hm : n2 ≤ lim) :
    EvM K S m (n2 + c) F σ (tCall sp [] E (tCons (tVar j) (tCons tb (tCons tc tNil)))) (fun l : List (Int × Int) => ∃ st, Tale n es st ∧ (∀ e ∈ l, hs n e.1 ∧ stAt st e.1 = e.2) ∧ l.length ≤ 120) := fun F1 H e1 e2 i Q k =>
  ⟨_, h0, hb F1 H e1 e2 i _ fun v st F2 H2 s2 i2 hst r2 => hc F2 H2 (e1.trans s2.ff) s2.fh i2 _ fun w most F3 H3 s3 i3 h0 r3 => by
    cases r3
    exact hsp _ _ _ _ ⟨F3, n2, n, most, es, st, v, rfl, s3.fh, i3, hm, Rep.mono s3.ff r2, hst, hp, hn, h0, fun u F4 H4 l hl hl2 s4 i4 r4 => k u l F4 H4 ((s2.trans s3).trans s4) i4 ⟨st, hst, hl, hl2⟩ r4⟩⟩
theorem ev_dways (ha : EvX K F G σ ta (doorsL N es)) (T : IsTree N es) (hn : N ≤ 60) : EvX K F G σ (tCall (sp_dways K) [] E (tCons ta tNil)) (tab N (dist es)) := fun H e g Q k =>
  ha H e g _ fun v F1 H1 s1 r1 => ⟨F1, v, N, es, rfl, s1.fh, r1, T, hn, fun u F2 H2 s2 r2 => k u F2 H2 (s1.trans s2) r2⟩
/-- [x] * k, so many times as was drawn -/
theorem em_rep {α : Type} [Rep α] {x : α} {P : Int → Prop} (ha : EvX K F F σ ta x) (hb : EvM K S n m F σ tb P) (hp : ∀ k, P k → 0 ≤ k ∧ k ≤ 1000) : EvM K S n m F σ (tOp rRep (tLst (tCons ta tNil)) tb) (fun l => ∃ k, P k ∧ l = List.replicate k.toNat x) :=
  em_op (P := fun l : List α => l = [x]) (P2 := fun _ => P) (em_pure (ev_lst (el_cons ha el_nil) (by simp))) (fun _ _ => hb) fun F1 u w xs y e p p2 ru rw' H1 e1 Q k => by
    subst p
    cases rw'
    obtain ⟨b, vs, rfl, h1, hv⟩ := ru
    cases hv with
    | cons h t =>
      cases t
      have hy := hp y p2
      refine ⟨b, y, _, rfl, rfl, e1 _ _ h1, by omega, by omega, ?_, fun q hq => k _ _ _ _ ((Stp.refl e1).new hq) ⟨y, p2, rfl⟩ ⟨q, _, rfl, upd_same, ?_⟩⟩
      · rw [List.length_singleton, Nat.one_mul]
        exact sz_of (by omega)
      · rename_i v0
        have : (List.replicate y.toNat [v0]).flatten = List.replicate y.toNat v0 := by
          induction y.toNat with
          | zero => rfl
          | succ j ih => rw [List.replicate_succ, List.flatten_cons, ih, List.replicate_succ]; rfl
        rw [this]
        exact (all2_rep h _).imp fun _ _ => Rep.mono (Ex.new (fresh_back e1 hq))
/-- xs[:h], h drawn -/
theorem em_sliceHi {α : Type} [Rep α] {xs : List α} {P : Int → Prop} (ha : EvX K F F σ ta xs) (hh : EvM K S n m F σ th P) : EvM K S n m F σ (tSl (rSlA K) ta tNoPart (tPart th)) (fun l => ∃ h, P h ∧ l = cutX xs none (some h)) := fun F1 H e1 e2 i Q k =>
  (em_pure (K := K) (S := S) (n := n) ha) F1 H e1 e2 i _ fun u xs' F2 H2 s2 i2 q2 r2 => hh F2 H2 (e1.trans s2.ff) s2.fh i2 _ fun w h F3 H3 s3 i3 p3 r3 => by
    cases r3
    subst q2
    obtain ⟨a, vs, rfl, hs, hv⟩ := r2
    have hs3 := s3.fh _ _ (s3.ff _ _ hs)
    refine ⟨h, rfl, .inl ⟨a, vs, rfl, SqL.of hs3, fun p hp => ?_⟩⟩
    have s4 : Stp F3 H3 _ _ := (Stp.refl s3.fh).new (o := .lst (cutV vs none (some h))) hp
    refine k _ _ _ _ ((s2.trans s3).trans s4.m) (S.stp i3 s4) ⟨h, p3, rfl⟩ ⟨p, _, rfl, upd_same, ?_⟩
    unfold cutV cutX
    rw [hv.len]
    exact ((hv.drop _).take _).imp fun _ _ => Rep.mono (s3.ff.trans (Ex.new (fresh_back s3.fh hp)))
/-- not in a list that changes -/
theorem ev_notInC {t : Addr} {x : Int} {ds : List Int} (ha : EvX K F G σ ta x) (hb : EvX K F G σ tb (V.ref t)) (h : G t = some (.lst (ds.map V.int))) : EvX K F G σ (tOp (rNotInA K) ta tb) (!decide (x ∈ ds)) :=
  ev_op ha hb fun F1 u w _ h1 h2 H1 e1 g1 Q k => by
    cases h2
    exact .inr (.inr ⟨toD x, ds.map toD, dp_mono e1 (RepD.dp h1), RepD.dp (F := H1) (α := List Int) ⟨t, _, rfl, g1 _ _ h, all2_ints.mpr rfl⟩, shaped_of x (Lay.lay x) (by decide), shaped_of ds (Lay.lay ds) (by decide), k _ F1 H1 (Stp.refl e1) (by rw [any_eqv]; rfl)⟩)
theorem cut_head {α : Type} {xs : List α} {h : Int} (h1 : 1 ≤ h) (hx : xs ≠ []) : cutX xs none (some h) ≠ [] := by
  intro z
  have : (cutX xs none (some h)).length = 0 := by rw [z]; rfl
  cases xs with
  | nil => exact hx rfl
  | cons a l =>
    have e0 : HT.sIx (a :: l).length 0 none = 0 := rfl
    unfold cutX at this
    rw [e0, List.drop_zero, List.length_take] at this
    have e1 : HT.sIx (a :: l).length (a :: l).length (some h) = min h.toNat (a :: l).length := by
      unfold HT.sIx
      simp only
      split
      · omega
      · omega
    rw [e1] at this
    simp at this
    omega
end
end L3

/-! a changing object lent to who only reads; methods refused in a try's body -/
namespace L3
open PySem L2
open Rep (R)
open RepD (toD)
open Tr (adj hs IsTree TreeOn dist)
open Evl (Ex ex_l ex_t fresh_back sz_of sz_lt ixN_nat)
section
variable {K : PySem.W.Frag} {S : Src} {n m l : Int} {M : Addr → Prop} {F F' G H H' F2 F3 H3 : Hp} {σ : L2.St} {ta tb tc te tl : TE} {E : XK} {W : WX} {r : Rpt} {a : Addr} {Q : VK}
variable {α β γ δ ε : Type} [Rep α] [Rep β] [Rep γ] [Rep δ] [Rep ε] {x : α} {y : β} {z : γ}
/-- known, as long as nobody changes it -/
theorem Folk.lend (f : Folk K F H a r) (e : Ex F H) : ∃ o, H a = some o ∧ Ex F (upd F a o) ∧ Ex (upd F a o) H ∧ R K (upd F a o) (.ref a) r := by
  obtain ⟨f0, dx, vv, vh, h1, h2, h3, h4⟩ := f
  have e1 : Ex F (upd F a (.ins r.C dx (rfs vv vh))) := Ex.new f0
  refine ⟨_, h1, e1, fun b o h => ?_, a, dx, vv, vh, rfl, upd_same, Rep.mono e1 h2, Rep.mono e1 h3, h4⟩
  by_cases hb : b = a
  · subst hb; rw [upd_same] at h; rw [← h]; exact h1
  · rw [upd_ne hb] at h; exact e b o h
/-- .. and taken back -/
theorem StpM.unlend (s : StpM M F2 H F3 H3) (e : Ex F F2) : StpM M F H F H3 :=
  ⟨Ex.refl _, e.trans (s.ff.trans s.fh), s.hh, s.dm, fun _ _ _ => rfl⟩
theorem EvX.keepB {b : Bool} (h : EvX K G G σ te b) : EvX K F G σ te b := fun H e g Q k =>
  h H g g Q fun v F' H' s r => by
    cases r
    exact k _ F H' (Stp.of_ex e s.hh) rfl
theorem EvT.keep {tt : TT} {b : Bool} (h : EvT G G σ tt b) : EvT F G σ tt b := fun H e g Q k => h H g g Q k
/-- a method that is refused, in a try's body -/
theorem xb_rmS1 {C CX : Addr} {mm : Str} {pre : Rpt → β → Prop} {f : Rpt → β → ε} (ha : EvX K F H σ ta r) (hb : EvX K F H σ tb y) (e : Ex F H) (hC : r.C = C) (hm : NoR mm) (hp : pre r y) (k : Rz K F H (WE W σ) CX (f r y)) : tMethS C mm (Bd2 K pre CX f) W ta (tCons tb tNil) σ H Q :=
  ha.go e fun u F1 H1 s1 r1 => by
    obtain ⟨a, dx, vv, vh, rfl, h2, _⟩ := id r1
    subst hC
    exact ⟨a, dx, _, rfl, s1.fh _ _ h2, rfs_no hm vv vh, (hb.up s1.ff) H1 s1.fh s1.hh _ fun w F2 H2 s2 r2 => ⟨F2, r, y, _, w, rfl, s2.fh, Rep.mono s2.ff r1, r2, hp, k.up (s1.trans s2)⟩⟩
theorem xb_rmS2 {C CX : Addr} {mm : Str} {pre : Rpt → β → γ → Prop} {f : Rpt → β → γ → ε} (ha : EvX K F H σ ta r) (hb : EvX K F H σ tb y) (hc : EvX K F H σ tc z) (e : Ex F H) (hC : r.C = C) (hm : NoR mm) (hp : pre r y z) (k : Rz K F H (WE W σ) CX (f r y z)) : tMethS C mm (Bd3 K pre CX f) W ta (tCons tb (tCons tc tNil)) σ H Q :=
  ha.go e fun u F1 H1 s1 r1 => by
    obtain ⟨a, dx, vv, vh, rfl, h2, _⟩ := id r1
    subst hC
    exact ⟨a, dx, _, rfl, s1.fh _ _ h2, rfs_no hm vv vh, (hb.up s1.ff) H1 s1.fh s1.hh _ fun w F2 H2 s2 r2 => (hc.up (s1.ff.trans s2.ff)) H2 s2.fh (s1.hh.trans s2.hh) _ fun t F3 H3 s3 r3 =>
      ⟨F3, r, y, z, _, w, t, rfl, s3.fh, Rep.mono (s2.ff.trans s3.ff) r1, Rep.mono s3.ff r2, r3, hp, k.up ((s1.trans s2).trans s3)⟩⟩
end
/-- the law's own: a tale's house is among those where one may live -/
theorem tale_may {n : Int} {es : Tr.Roads} {st : List Int} {l : List (Int × Int)} (T : IsTree n es) (A : Tale n es st) (h : ∀ e ∈ l, hs n e.1 ∧ stAt st e.1 = e.2) {x : Int} (hx : hs n x) : stAt st x ∈ mayE n es l x :=
  mem_mayE.mpr ⟨A.hs hx, fun e he => by
    obtain ⟨h1, h2⟩ := h e he
    rw [← h2]
    exact tale_short T A hx h1⟩
def sp_r11 (K : PySem.W.Frag) (CR CV : Addr) : Sp := fun vs H Q _ => ∃ (F : Hp) (t g : Addr) (m n : Int) (es : Tr.Roads) (st : List Int) (l : List (Int × Int)) (r : Rpt) (v w u s : V), vs = [.ref t, v, w, u, s] ∧ Ex F H ∧ Deck F H t g m ∧ m ≤ 10 ^ 8 ∧ R K F v r ∧ r.C = CR ∧ r.v = ⟨CV, n, held es⟩ ∧ R K F w (tab n (dist es)) ∧ R K F u st ∧ R K F s l ∧ IsTree n es ∧ n ≤ 60 ∧ Tale n es st ∧
  (∀ e, e ∈ r.rs ↔ e ∈ l) ∧ l.length ≤ 1000 ∧ (∀ e ∈ l, hs n e.1 ∧ stAt st e.1 = e.2) ∧ ∀ F' H', StpM (deckS t g).M F H F' H' → Deck F' H' t g (m + 10) → Q (.bl true) H'
theorem no_right11 {K : PySem.W.Frag} {F H : Hp} {σ : L2.St} {ts : TE} {E : XK} {D : Ends} {tu tw : TS} {CR CV b t g : Addr} {r : Rpt} {m n : Int} {es : Tr.Roads} {st : List Int} {l : List (Int × Int)} {w u : V} {j1 j2 j3 j4 : Nat}
    (h1 : σ[j1]? = some (some (.ref t))) (h2 : σ[j2]? = some (some (.ref b))) (h3 : σ[j3]? = some (some w)) (h4 : σ[j4]? = some (some u)) (fk : Folk K F H b r) (e : Ex F H) (hI : Deck F H t g m) (nM : ¬ TM t g b) (hm : m ≤ 10 ^ 8) (hC : r.C = CR) (hV : r.v = ⟨CV, n, held es⟩) (rf : R K F w (tab n (dist es))) (rs : R K F u st)
    (hl : EvX K F H σ ts l) (T : IsTree n es) (hn : n ≤ 60) (A : Tale n es st) (hmem : ∀ e, e ∈ r.rs ↔ e ∈ l) (hll : l.length ≤ 1000) (hlt : ∀ e ∈ l, hs n e.1 ∧ stAt st e.1 = e.2)
    (k : ∀ H', StpM (TM t g) F H F H' → Deck F H' t g (m + 10) → Folk K F H' b r → tw D σ H') : tIfS (tNot (tB (tCall (sp_r11 K CR CV) [] E (tCons (tVar j1) (tCons (tVar j2) (tCons (tVar j3) (tCons (tVar j4) (tCons ts tNil)))))))) tu tw D σ H := by
  obtain ⟨o, q1, q2, q3, q4⟩ := fk.lend e
  refine ⟨_, h1, _, h2, _, h3, _, h4, (hl.up q2).go q3 fun v F3 H3 s3 r3 => ?_⟩
  have i2 : Deck (upd F b o) H t g m := (deckS t g).frz hI nM
  have e3 : Ex F F3 := q2.trans s3.ff
  refine ⟨F3, t, g, m, n, es, st, l, r, _, w, u, v, rfl, s3.fh, (deckS t g).stp i2 s3, hm, Rep.mono s3.ff q4, hC, hV, Rep.mono e3 rf, Rep.mono e3 rs, r3, T, hn, A, hmem, hll, hlt, fun F4 H4 s4 i4 => ⟨true, rfl, ?_⟩⟩
  have sZ : StpM (TM t g) F H F H4 := StpM.unlend ((s3.m (M := TM t g)).trans s4) q2
  exact k H4 sZ ((deckS t g).dn i4 (e3.trans s4.ff)) (fk.stpM sZ nM)
end L3

/-! reports that clash -/
namespace L3
open PySem L2
open Rep (R)
open RepD (toD)
open Tr (adj hs IsTree TreeOn dist)
open Evl (Ex ex_l ex_t fresh_back sz_of sz_lt ixN_nat)
/-- where one may live a report of it fits -/
theorem may_fits {v : Vil} {l : List (Int × Int)} {x y : Int} (T : IsTree v.n v.es) (h : Fits v l) (hx : hs v.n x) (hm : MayP v.n v.es l x y) : Fits v ((x, y) :: l) := by
  refine ⟨goalE v.n v.es l y, goal_tale T h hm.1, fun e he => ?_⟩
  rcases List.mem_cons.mp he with rfl | he
  · refine ⟨hx, ?_⟩
    show stAt (goalE v.n v.es l y) x = y
    unfold goalE
    rw [stAt_map hx]
    have k := near_ok T h hx hm.1
    have h0 := may_far T h hx hm.1 hm
    rw [Tr.dist_self T hm.1] at h0
    have h1 := (lackL_ge v.es l y x).1
    have h2 : dist v.es y (nearE v.es (mayE v.n v.es l x) y) = 0 := by rw [k.2]; omega
    exact (Tr.dist_zero T hm.1 k.1.1).mp h2
  · exact ⟨(fits_rng h he).1, goal_fits T h hm.1 he⟩
/-- the first report by which another one clashes -/
noncomputable def clashE (es : Tr.Roads) (l : List (Int × Int)) (x y : Int) : Int × Int := (l.find? fun e => decide (dist es x e.1 < dist es y e.2)).getD (0, 0)
theorem clash_at {es : Tr.Roads} {l : List (Int × Int)} {x y : Int} {i : Nat} {e : Int × Int} (h : l[i]? = some e) (he : dist es x e.1 < dist es y e.2) (ha : ∀ j f, j < i → l[j]? = some f → ¬ dist es x f.1 < dist es y f.2) : clashE es l x y = e := by
  have : l.find? (fun e => decide (dist es x e.1 < dist es y e.2)) = some e := by
    induction l generalizing i with
    | nil => simp at h
    | cons a l ih =>
      cases i with
      | zero =>
        have : a = e := by simpa using h
        subst this
        simp [List.find?_cons, he]
      | succ i =>
        have ha0 := ha 0 a (by omega) rfl
        rw [List.find?_cons]
        simp only [ha0, decide_false]
        exact ih (i := i) (by simpa using h) fun j f hj hf => ha (j + 1) f (by omega) (by simpa using hf)
  unfold clashE
  rw [this]; rfl
def sp_tellC (K : PySem.W.Frag) (CR CV CC : Addr) : Sp := fun vs H _ E => ∃ (F : Hp) (a : Addr) (r : Rpt) (x y : Int), vs = [.ref a, .int x, .int y] ∧ Ex F H ∧ Folk K F H a r ∧ r.C = CR ∧ r.v.C = CV ∧ hs r.v.n x ∧ hs r.v.n y ∧ ¬ MayP r.v.n r.v.es r.rs x y ∧
  Rz K F H E CC ((x, y), clashE r.v.es r.rs x y)
def sp_istold (K : PySem.W.Frag) (CR CV : Addr) : Sp := fun vs H Q _ => ∃ (F : Hp) (a : Addr) (r : Rpt) (x y : Int), vs = [.ref a, .int x, .int y] ∧ Ex F H ∧ Folk K F H a r ∧ r.C = CR ∧ r.v.C = CV ∧ hs r.v.n x ∧ hs r.v.n y ∧
  (MayP r.v.n r.v.es r.rs x y → ∀ F' H', StpM (fun b => b = a) F H F' H' → Folk K F' H' a ⟨r.C, r.v, tellL r.rs (x, y)⟩ → Q (.bl true) H') ∧ (¬ MayP r.v.n r.v.es r.rs x y → ∀ H', Ex H H' → Q (.bl false) H')
def sp_fits (K : PySem.W.Frag) : Sp := fun vs H Q _ => ∃ (F : Hp) (n : Int) (es : Tr.Roads) (l : List (Int × Int)) (st : List Int) (w d s u : V), vs = [w, d, s, u] ∧ Ex F H ∧ R K F w (tab n (dist es)) ∧ R K F d (doorsL n es) ∧ R K F s l ∧ R K F u st ∧ IsTree n es ∧ n ≤ 60 ∧ l.length ≤ 1000 ∧ Tale n es st ∧ (∀ e ∈ l, hs n e.1 ∧ stAt st e.1 = e.2) ∧
  ∀ H', Ex H H' → Q (.bl true) H'
section
variable {K : PySem.W.Frag} {F G H : Hp} {σ : L2.St} {ta tb tc td te : TE} {E : XK} {W : WX} {Q : VK} {r : Rpt} {a : Addr} {CR CV CC C : Addr}
theorem ev_fits {n : Int} {es : Tr.Roads} {l : List (Int × Int)} {st : List Int} (h1 : EvX K F G σ ta (tab n (dist es))) (h2 : EvX K F G σ tb (doorsL n es)) (h3 : EvX K F G σ tc l) (h4 : EvX K F G σ td st) (T : IsTree n es) (hn : n ≤ 60) (hll : l.length ≤ 1000) (A : Tale n es st) (hl : ∀ e ∈ l, hs n e.1 ∧ stAt st e.1 = e.2) :
    EvX K F G σ (tCall (sp_fits K) [] E (tCons ta (tCons tb (tCons tc (tCons td tNil))))) true := fun H e g Q k =>
  h1 H e g _ fun x1 F1 H1 s1 r1 => (h2.up s1.ff) H1 s1.fh (g.trans s1.hh) _ fun x2 F2 H2 s2 r2 => (h3.up (s1.ff.trans s2.ff)) H2 s2.fh ((g.trans s1.hh).trans s2.hh) _ fun x3 F3 H3 s3 r3 =>
    (h4.up ((s1.ff.trans s2.ff).trans s3.ff)) H3 s3.fh (((g.trans s1.hh).trans s2.hh).trans s3.hh) _ fun x4 F4 H4 s4 r4 =>
      ⟨F4, n, es, l, st, x1, x2, x3, x4, rfl, s4.fh, Rep.mono ((s2.ff.trans s3.ff).trans s4.ff) r1, Rep.mono (s3.ff.trans s4.ff) r2, Rep.mono s4.ff r3, r4, T, hn, hll, A, hl, fun H5 e5 => k _ F4 H5 ((((s1.trans s2).trans s3).trans s4).ext e5) rfl⟩
/-- tell that clashes, in a try's body -/
theorem go_tellC {i : Nat} {x y : Int} (hσ : σ[i]? = some (some (.ref a))) (f : Folk K F H a r) (e : Ex F H) (hC : r.C = CR) (hV : r.v.C = CV) (hx : EvX K F H σ tb x) (hy : EvX K F H σ tc y) (h1 : hs r.v.n x) (h2 : hs r.v.n y) (hm : ¬ MayP r.v.n r.v.es r.rs x y)
    (k : Rz K F H (WE W σ) CC ((x, y), clashE r.v.es r.rs x y)) : tMethS CR "tell" (sp_tellC K CR CV CC) W (tVar i) (tCons tb (tCons tc tNil)) σ H Q := by
  obtain ⟨h0, dx, vv, vh, q1, q2, q3, q4⟩ := id f
  subst hC
  refine ⟨_, hσ, a, dx, _, rfl, q1, rfs_no (by decide +kernel) vv vh, hx.go e fun u F1 H1 s1 r1 => (hy.up s1.ff) H1 s1.fh s1.hh _ fun w F2 H2 s2 r2 => ?_⟩
  cases r1; cases r2
  exact ⟨F2, a, r, x, y, rfl, s2.fh, (f.stp s1).stp s2, rfl, hV, h1, h2, hm, k.up (s1.trans s2)⟩
theorem go_istold {i : Nat} {x y : Int} (hσ : σ[i]? = some (some (.ref a))) (f : Folk K F H a r) (e : Ex F H) (hC : r.C = CR) (hV : r.v.C = CV) (hx : EvX K F H σ tb x) (hy : EvX K F H σ tc y) (h1 : hs r.v.n x) (h2 : hs r.v.n y)
    (k1 : MayP r.v.n r.v.es r.rs x y → ∀ F' H', StpM (fun b => b = a) F H F' H' → Folk K F' H' a ⟨r.C, r.v, tellL r.rs (x, y)⟩ → Q (.bl true) H') (k2 : ¬ MayP r.v.n r.v.es r.rs x y → ∀ F' H', Stp F H F' H' → Q (.bl false) H') :
    tCall (sp_istold K CR CV) [] E (tCons (tVar i) (tCons tb (tCons tc tNil))) σ H Q := by
  refine ⟨_, hσ, hx.go e fun u F1 H1 s1 r1 => (hy.up s1.ff) H1 s1.fh s1.hh _ fun w F2 H2 s2 r2 => ?_⟩
  cases r1; cases r2
  have s12 := s1.trans s2
  exact ⟨F2, a, r, x, y, rfl, s2.fh, f.stp s12, hC, hV, h1, h2, fun hm F3 H3 s3 f3 => k1 hm F3 H3 (s12.m.trans s3) f3, fun hm H3 e3 => k2 hm F2 H3 (s12.ext e3)⟩
/-- the clause without a name takes it -/
theorem wO_hit {ε : Type} [Rep ε] {c : Value} {ts : Addr → Value → Option Addr → TS} {Wout : WX} {Dn : Ends} {w : ε} (hm : PySem.W.exmOne K (.ref C) c = some true)
    (k : ∀ (a : Addr) (d : Option Addr) (F' H' : Hp), Stp F H F' H' → ts a (.ref C) d Dn σ H') : Rz K F H (WE (wOnly K c ts Wout Dn) σ) C w := fun d y F1 H1 s1 hd r1 => ⟨true, hm, fun _ a na => k a (some d) F1 H1 s1, fun z => nomatch z⟩
end
theorem mayP_mems {n : Int} {es : Tr.Roads} {l m : List (Int × Int)} (h : ∀ e, e ∈ l ↔ e ∈ m) {x p : Int} : MayP n es l x p ↔ MayP n es m x p := by
  unfold MayP
  constructor
  · exact fun ⟨a, b⟩ => ⟨a, fun e he => b e ((h e).mpr he)⟩
  · exact fun ⟨a, b⟩ => ⟨a, fun e he => b e ((h e).mp he)⟩
theorem mayP_held {n : Int} {es : Tr.Roads} {l : List (Int × Int)} {x p : Int} : MayP n (held es) l x p ↔ MayP n es l x p := by
  unfold MayP
  simp only [dist_held]
end L3

/-! steps that change one object alone; what a call answers, compared with what is known -/
namespace L3
open PySem L2
open Rep (R)
open RepD (toD)
open Tr (adj hs IsTree TreeOn dist)
open Evl (Ex ex_l ex_t fresh_back sz_of sz_lt ixN_nat)
theorem Deck.stpM {F H F' H' : Hp} {M : Addr → Prop} {t g : Addr} {n : Int} (T : Deck F H t g n) (s : StpM M F H F' H') (ht : ¬ M t) (hg : ¬ M g) : Deck F' H' t g n := by
  obtain ⟨f1, f2, ne, ds, c, d, h1, h2, r⟩ := T
  exact ⟨s.fno h1 f1, s.fno h2 f2, ne, ds, c, d, s.hh _ _ ht h1, s.hh _ _ hg h2, r⟩
section
variable {K : PySem.W.Frag} {F G H : Hp} {σ : L2.St} {te : TE} {tu tw : TS} {D : Ends} {b : Bool} {j : Nat}
theorem y_ifNeB (hb : σ[j]? = some (some (.bl b))) (h : ∀ N : VK, (∀ H1, tw D σ H1 → N (.bl b) H1) → te σ H N) : tIfS (tTest (tOp (rNeA K) te (tVar j))) tu tw D σ H :=
  h _ fun H1 k => ⟨_, hb, .inl ⟨rfl, _, rfl, by
    rw [decide_eq_true rfl]
    exact k⟩⟩
end
theorem rok_fit {r : Rpt} {CV : Addr} {n : Int} {es : Tr.Roads} {l : List (Int × Int)} (ok : ROk r) (hV : r.v = ⟨CV, n, held es⟩) (hm : ∀ e, e ∈ r.rs ↔ e ∈ l) : ∃ st, Tale n es st ∧ ∀ e ∈ l, hs n e.1 ∧ stAt st e.1 = e.2 := by
  obtain ⟨st, A, q⟩ := ok.fits
  rw [hV] at A q
  exact ⟨st, ⟨A.len, A.rng, fun x y a => by have := A.edge x y ((adj_held es x y).mpr a); rwa [dist_held] at this⟩, fun e he => q e ((hm e).mpr he)⟩
theorem mem_mayR {r : Rpt} {CV : Addr} {n : Int} {es : Tr.Roads} {l : List (Int × Int)} (hV : r.v = ⟨CV, n, held es⟩) (hm : ∀ e, e ∈ r.rs ↔ e ∈ l) {x p : Int} : MayP r.v.n r.v.es r.rs x p ↔ MayP n es l x p := by
  rw [hV]
  exact mayP_held.trans (mayP_mems hm)
theorem mayR_eq {r : Rpt} {CV : Addr} {n : Int} {es : Tr.Roads} {l : List (Int × Int)} (hV : r.v = ⟨CV, n, held es⟩) (hm : ∀ e, e ∈ r.rs ↔ e ∈ l) (x : Int) : mayE r.v.n r.v.es r.rs x = mayE n es l x := by
  rw [hV]
  show mayE n (held es) r.rs x = _
  rw [mayE_held, mayE_mems hm]
theorem lazyR_eq {r : Rpt} {CV : Addr} {n : Int} {es : Tr.Roads} {l : List (Int × Int)} (hV : r.v = ⟨CV, n, held es⟩) (hm : ∀ e, e ∈ r.rs ↔ e ∈ l) : lazyE r.v.n r.v.es r.rs = lazyE n es l := by
  rw [hV]
  exact lazyE_eq hm
theorem goalR_eq {r : Rpt} {CV : Addr} {n : Int} {es : Tr.Roads} {l : List (Int × Int)} (hV : r.v = ⟨CV, n, held es⟩) (hm : ∀ e, e ∈ r.rs ↔ e ∈ l) (t : Int) : goalE r.v.n r.v.es r.rs t = goalE n es l t := by
  rw [hV]
  exact goalE_eq hm
theorem lives_nil {n : Int} {es : Tr.Roads} {l : List (Int × Int)} {x y : Int} (hy : hs n y) : ((l.filter fun e => decide (dist es x e.1 < dist es y e.2)).map fun _ => (1 : Int)) = [] ↔ MayP n es l x y := by
  rw [List.map_eq_nil_iff, List.filter_eq_nil_iff]
  constructor
  · intro h
    exact ⟨hy, fun e he => by have := h e he; simp only [decide_eq_true_eq] at this; omega⟩
  · rintro ⟨_, h⟩ e he
    have := h e he
    simp only [decide_eq_true_eq]
    omega
end L3

/-! comprehensions with two clauses; choices that may be all at once -/
namespace L3
open PySem L2
open Rep (R)
open RepD (toD)
open Tr (adj hs IsTree TreeOn dist)
open Evl (Ex ex_l ex_t fresh_back sz_of sz_lt ixN_nat)
section
variable {K : PySem.W.Frag} {F G : Hp} {σ : L2.St} {te : TE} {wi wi1 : TI} {g g1 : TG} {vs vs1 : List Nat} {α β γ : Type} [Rep α] [Rep β] [Rep γ]
theorem en_lc2y {xs : List α} {ys : α → List β} {B : Hp → α → L2.St → L2.St → Prop} {B1 : Hp → β → L2.St → L2.St → Prop} (ee : α → β → γ) (hi : IT K F G σ wi xs) (hg : Tgt K g B) (hg1 : Tgt K g1 B1) (hn : (xs.flatMap fun x => (ys x).map (ee x)).length ≤ 100000)
    (hw : ∀ F' x σ', B F' x (wipe σ vs) σ' → wipe σ' vs = wipe σ vs)
    (hw1 : ∀ F' x σ' F'' y σ'', B F' x (wipe σ vs) σ' → B1 F'' y (wipe σ' vs1) σ'' → wipe σ'' vs1 = wipe σ' vs1)
    (hi1 : ∀ F' x σ', x ∈ xs → Ex F F' → B F' x (wipe σ vs) σ' → IT K F' G σ' wi1 (ys x))
    (he : ∀ F' x σ' F'' y σ'', x ∈ xs → y ∈ ys x → Ex F F' → Ex F' F'' → B F' x (wipe σ vs) σ' → B1 F'' y (wipe σ' vs1) σ'' → EvX K F'' G σ'' te (ee x y)) :
    EvN K F G σ (tLc2 wi g tYes wi1 g1 tYes te vs vs1) (xs.flatMap fun x => (ys x).map (ee x)) := fun H0 e0 g0 Q k =>
  hi H0 e0 g0 _ fun J F1 H1 s1 wx D hD => by
    obtain ⟨Gd, Y, w, hgd, hy⟩ := id wx
    have gg1 : Ex G H1 := g0.trans s1.hh
    have sub : ∀ {i : Nat} {x : α} {j : Nat}, xs[i]? = some x → (((xs.take i).flatMap fun x => (ys x).map (ee x)) ++ ((ys x).take j).map (ee x)).length ≤ 100000 := fun {i x j} hx => by
      refine Nat.le_trans ?_ hn
      have : xs = xs.take i ++ x :: xs.drop (i + 1) := by
        have hl := (List.getElem?_eq_some_iff.mp hx)
        obtain ⟨h1, h2⟩ := hl
        rw [← h2, ← List.drop_eq_getElem_cons h1, List.take_append_drop]
      conv => rhs; rw [this]
      rw [List.flatMap_append, List.flatMap_cons, List.length_append, List.length_append, List.length_append, List.length_map, List.length_map, List.length_take]
      omega
    refine ⟨fun i m H => m = xs.length - i ∧ i ≤ xs.length ∧ ∃ F' acc, Stp F1 H1 F' H ∧ F' D = none ∧ H D = some (.lst acc) ∧ All2 (R K F') acc ((xs.take i).flatMap fun x => (ys x).map (ee x)), ⟨xs.length, by simp, Nat.zero_le _, F1, [], (Stp.refl s1.fh).own hD, fresh_back s1.fh hD, upd_same, by simp; exact .nil⟩, ?_⟩
    rintro i m H ⟨rfl, hil, F', acc, s, fD, hDa, ha⟩
    have hGd := hgd H (s.ff.trans s.fh)
    by_cases hlt : i < xs.length
    case neg =>
      have e : i = xs.length := by omega
      subst e
      rw [List.take_length] at ha
      exact .inl ⟨w.stops H hGd, k D acc F' H (s1.trans s) (Ex.dom s1.hh hD) fD hDa ha⟩
    refine .inr ⟨w.goes i H hlt hGd, fun H => ∃ F' acc, Stp F1 H1 F' H ∧ F' D = none ∧ H D = some (.lst acc) ∧ All2 (R K F') acc ((xs.take (i + 1)).flatMap fun x => (ys x).map (ee x)), fun H' p' => ⟨xs.length - (i + 1), by omega, rfl, hlt, p'⟩, fun v H' y => ?_⟩
    obtain ⟨Gd', Y', w', hgd', hy'⟩ := id (wx.up s.ff)
    obtain ⟨x, hx, F2, s2, r2⟩ := hy i H v H' (s.ff.trans s.fh) hlt (w.yields i H v H' hlt hGd y)
    obtain ⟨s3, e3⟩ := s2.up s.ff s.fh
    have r3 := Rep.mono e3 r2
    have hDa' : H' D = some (.lst acc) := s3.hh D _ hDa
    have fD' : cup F' F2 D = none := s3.fno hDa fD
    have s4 := s.trans s3
    have hxm : x ∈ xs := List.mem_of_getElem? hx
    have ht1 : xs.take (i + 1) = xs.take i ++ [x] := by
      rw [List.take_add_one, hx]; rfl
    have ha' := ha.imp fun _ _ => Rep.mono s3.ff
    refine hg v x _ (cup F' F2) H' r3 s3.fh _ fun σ' hb => ⟨hw _ _ _ hb, ?_⟩
    show wi1 σ' H' _
    have eF : Ex F (cup F' F2) := s1.ff.trans s4.ff
    refine hi1 _ x σ' hxm eF hb H' s3.fh (gg1.trans s4.hh) _ fun J1 F4 H4 s5 wx1 => ?_
    obtain ⟨Gd1, Y1, w1, hgd1, hy1⟩ := id wx1
    have s6 := s4.trans s5
    have hD5 := s5.hh D _ hDa'
    have fD5 : F4 D = none := s5.fno hDa' fD'
    refine ⟨fun j k H => k = (ys x).length - j ∧ j ≤ (ys x).length ∧ ∃ F' acc, Stp F1 H1 F' H ∧ Ex F4 F' ∧ F' D = none ∧ H D = some (.lst acc) ∧ All2 (R K F') acc (((xs.take i).flatMap fun x => (ys x).map (ee x)) ++ ((ys x).take j).map (ee x)), ⟨(ys x).length, by simp, Nat.zero_le _, F4, acc, s6, Ex.refl _, fD5, hD5, by simp; exact ha'.imp fun _ _ => Rep.mono s5.ff⟩, ?_⟩
    rintro j k' Hj ⟨rfl, hjl, F7, acc7, s7, e47, fD7, hD7, ha7⟩
    have hGd1 := hgd1 Hj (e47.trans s7.fh)
    by_cases hjt : j < (ys x).length
    case neg =>
      have e : j = (ys x).length := by omega
      subst e
      rw [List.take_length] at ha7
      refine .inl ⟨w1.stops Hj hGd1, F7, acc7, s7, fD7, hD7, ?_⟩
      rw [ht1, List.flatMap_append, List.flatMap_singleton]
      exact ha7
    refine .inr ⟨w1.goes j Hj hjt hGd1, fun H => ∃ F' acc, Stp F1 H1 F' H ∧ Ex F4 F' ∧ F' D = none ∧ H D = some (.lst acc) ∧ All2 (R K F') acc (((xs.take i).flatMap fun x => (ys x).map (ee x)) ++ ((ys x).take (j + 1)).map (ee x)), fun H' p' => ⟨(ys x).length - (j + 1), by omega, rfl, hjt, p'⟩, fun v' H8 y' => ?_⟩
    obtain ⟨z, hz, F8, s8, r8⟩ := hy1 j Hj v' H8 (e47.trans s7.fh) hjt (w1.yields j Hj v' H8 hjt hGd1 y')
    obtain ⟨s9, e9⟩ := s8.up e47 s7.fh
    have r9 := Rep.mono e9 r8
    have hD9 : H8 D = some (.lst acc7) := s9.hh D _ hD7
    have fD9 : cup F7 F8 D = none := s9.fno hD7 fD7
    have hzm : z ∈ ys x := List.mem_of_getElem? hz
    have s10 := s7.trans s9
    refine hg1 v' z _ (cup F7 F8) H8 r9 s9.fh _ fun σ'' hb1 => ⟨hw1 _ x _ _ z _ hb hb1, ?_⟩
    show te σ'' H8 _
    refine he _ x σ' _ z σ'' hxm hzm eF (s5.ff.trans (e47.trans s9.ff)) hb hb1 H8 s9.fh (gg1.trans s10.hh) _ fun u F11 H11 s11 r11 => ?_
    have hD11 := s11.hh D _ hD9
    have fD11 : F11 D = none := s11.fno hD9 fD9
    have hl7 := ha7.len
    have := sub (i := i) (x := x) (j := j) hx
    refine ⟨acc7, hD11, sz_lt (show acc7.length < 100000 by
      have h2 := sub (i := i) (x := x) (j := j + 1) hx
      rw [List.take_add_one, hz, List.map_append, ← List.append_assoc, List.length_append] at h2
      rw [hl7]
      simp at h2 ⊢
      omega), F11, acc7 ++ [u], (s10.trans s11).mut hD fD11, e47.trans (s9.ff.trans s11.ff), fD11, upd_same, ?_⟩
    rw [List.take_add_one, hz, List.map_append, ← List.append_assoc]
    exact (ha7.imp fun _ _ => Rep.mono (s9.ff.trans s11.ff)).app (.cons r11 .nil)
end
end L3

/-! comprehensions that draw; choices that may be all at once -/
namespace L3
open PySem L2
open Rep (R)
open RepD (toD)
open Tr (adj hs IsTree TreeOn dist)
open Evl (Ex ex_l ex_t fresh_back sz_of sz_lt ixN_nat)
section
variable {K : PySem.W.Frag} {S : Src} {n m l : Int} {F F' G H H' : Hp} {σ : L2.St} {ta tb tc te tl : TE} {E : XK}
variable {α β γ : Type} [Rep α] [Rep β] [Rep γ]
/-- so many items as were drawn, each drawn -/
theorem em_lcd {j : Nat} {vs : List Nat} {c N : Int} {P2 : β → Prop} (hi : EvM K S n m F σ ta (fun len : Int => 0 ≤ len ∧ len ≤ N)) (hN : N ≤ 1000) (hw : ∀ x, wipe ((wipe σ vs).set j (some x)) vs = wipe σ vs)
    (hc : 0 ≤ c) (he : ∀ (i : Int) (k : Int) F1, Ex F F1 → 0 ≤ i → m ≤ k → k ≤ m + c * 100000 → EvM K S k (k + c) F1 ((wipe σ vs).set j (some (.int i))) te P2) :
    EvM K S n (m + c * N) F σ (tLc (iRng1 (tCons ta tNil)) (gName j) tYes te vs) (fun xs : List β => (xs.length : Int) ≤ N ∧ ∀ x ∈ xs, P2 x) := fun F1 H e1 e2 i Q k =>
  em_lcr (P2 := fun _ x => P2 x) hi (fun i h => ⟨h.1, by have := h.2; omega⟩) hw hc he F1 H e1 e2 i Q fun p us xs len F' H' hl s n0 f0 nM h2 r2 l2 q2 i2 => by
    have hcl : c * len ≤ c * N := Int.mul_le_mul_of_nonneg_left hl.2 hc
    refine k _ xs _ H' (s.frz n0 f0 h2) (S.frz (S.le i2 (by omega)) nM) ⟨by rw [l2]; have := hl.1; have := hl.2; omega, fun x hx => ?_⟩ ⟨p, us, rfl, upd_same, r2.imp fun _ _ => Rep.mono (Ex.new f0)⟩
    obtain ⟨q, hq, rfl⟩ := List.mem_iff_getElem.mp hx
    exact q2 q _ (List.getElem?_eq_getElem hq)
/-- over a known list, each item drawn -/
theorem em_lcL {j : Nat} {vs : List Nat} {c : Int} {xs : List α} {P2 : α → β → Prop} (hl : EvX K F F σ tl xs) (hn : xs.length ≤ 1000) (hw : ∀ x, wipe ((wipe σ vs).set j (some x)) vs = wipe σ vs)
    (hc : 0 ≤ c) (he : ∀ x u k F1, x ∈ xs → Ex F F1 → R K F1 u x → n ≤ k → k ≤ n + c * 1000 → EvM K S k (k + c) F1 ((wipe σ vs).set j (some u)) te (P2 x)) :
    EvM K S n (n + c * xs.length) F σ (tLc (iList K tl) (gName j) tYes te vs) (fun ys : List β => ys.length = xs.length ∧ ∀ (i : Nat) x y, xs[i]? = some x → ys[i]? = some y → P2 x y) := fun F1 H e1 e2 hI Q k =>
  (hl.up e1) H e2 (e1.trans e2) _ fun v F2 H2 s2 r2 => by
    obtain ⟨a, us, rfl, hus, hv⟩ := r2
    refine ⟨a, rfl, ⟨us, SqL.of (s2.fh _ _ hus)⟩, fun D hD => ?_⟩
    have i2 := S.stp hI s2
    have nM : ¬ S.M D := fun z => (S.no i2 z).1 hD
    have f2D : F2 D = none := fresh_back s2.fh hD
    refine lc_it (walk_list (K := K) (a := a) (xs := us)) (fun i H' => ∃ F' acc, ∃ ys : List β, StpM S.M F2 H2 F' H' ∧ F' D = none ∧ H' D = some (.lst acc) ∧ All2 (R K F') acc ys ∧ ys.length = i ∧ (∀ (i : Nat) x y, xs[i]? = some x → ys[i]? = some y → P2 x y) ∧ S.I (n + c * (i : Int)) F' H')
      ⟨F2, [], [], (StpM.refl s2.fh).own hD, f2D, upd_same, .nil, rfl, fun i x y _ h => by simp at h, ?_⟩ ?_ ?_ ?_
    · have := S.stp i2 ((Stp.refl s2.fh).own (o := .lst []) hD)
      exact S.le this (by omega)
    · rintro i H3 _ ⟨F3, acc, ys, s3, _⟩
      exact SqL.of (s3.fh _ _ (s3.ff _ _ hus))
    · rintro i u H3 H3' hin ⟨F3, acc, ys, s3, f3, h3, a3, l3, q3, i3⟩ ⟨rfl, hu⟩
      obtain ⟨x, hx, rx⟩ := hv.getl hu
      have hin' : i < xs.length := by rw [← hv.len]; exact hin
      have hci : c * (i : Int) ≤ c * 1000 := Int.mul_le_mul_of_nonneg_left (by omega) hc
      have hci0 : 0 ≤ c * (i : Int) := Int.mul_nonneg hc (by omega)
      refine ⟨hw _, ?_⟩
      show te _ H3' _
      refine he x u (n + c * (i : Int)) F3 (List.mem_of_getElem? hx) (e1.trans (s2.ff.trans s3.ff)) (Rep.mono s3.ff rx) (by omega) (by omega) F3 H3' (Ex.refl _) s3.fh i3 _ fun v y F4 H4 s4 i4 p4 r4 => ?_
      have h4 := s4.hh D _ nM h3
      have f4 : F4 D = none := s4.fno h3 f3
      have s5 := (s3.trans s4).mut (o := .lst (acc ++ [v])) (.inr hD) f4 (fun z => by rw [h4] at z; cases z)
      refine ⟨acc, h4, ?_, F4, acc ++ [v], ys ++ [y], s5, f4, upd_same, (a3.imp fun _ _ => Rep.mono s4.ff).app (.cons r4 .nil), by simp [l3], fun j x' y' hj h => ?_, ?_⟩
      · have := a3.len
        exact sz_lt (show acc.length < 100000 by omega)
      · by_cases hjl : j < ys.length
        · rw [List.getElem?_append_left hjl] at h
          exact q3 j x' y' hj h
        · have hj2 : j < (ys ++ [y]).length := (List.getElem?_eq_some_iff.mp h).1
          have : j = ys.length := by simp at hj2; omega
          subst this
          rw [List.getElem?_append_right (Nat.le_refl _)] at h
          simp at h
          subst h
          rw [l3, hx] at hj
          cases hj
          exact p4
      · have hI := S.upd_ok i4 nM f4 (o := .lst (acc ++ [v])) h4
        refine S.le hI ?_
        have : c * ((i + 1 : Nat) : Int) = c * (i : Int) + c := by rw [Int.natCast_add, Int.mul_add]; simp
        omega
    · rintro H3 ⟨F3, acc, ys, s3, f3, h3, a3, l3, q3, i3⟩
      have hl' := hv.len
      refine k (.ref D) ys _ H3 ((s2.m.trans s3).frz (Ex.dom s2.hh hD) f3 h3) (S.frz (S.le i3 (by rw [hl']; exact Int.le_refl _)) nM) ⟨by omega, q3⟩ ⟨D, acc, rfl, upd_same, a3.imp fun _ _ => Rep.mono (Ex.new f3)⟩
end
abbrev Ch := List (Int × Int)
/-- whether choices may be all at once -/
noncomputable def mayB (r : Rpt) (cs : Ch) : Bool := (cs.all fun c => r.rs.all fun e => decide (dist r.v.es c.2 e.2 ≤ dist r.v.es c.1 e.1)) && (cs.all fun c => cs.all fun d => decide (dist r.v.es c.2 d.2 ≤ dist r.v.es c.1 d.1))
noncomputable def dueB (es : Tr.Roads) (l cs : Ch) : Bool := cs.all fun c => (l ++ cs).all fun e => decide (dist es c.2 e.2 ≤ dist es c.1 e.1)
theorem may_due {r : Rpt} {CV : Addr} {n : Int} {es : Tr.Roads} {l : Ch} (hV : r.v = ⟨CV, n, held es⟩) (hm : ∀ e, e ∈ r.rs ↔ e ∈ l) (cs : Ch) : mayB r cs = dueB es l cs := by
  unfold mayB dueB
  rw [hV]
  simp only [dist_held]
  rw [Bool.eq_iff_iff, Bool.and_eq_true]
  simp only [List.all_eq_true, decide_eq_true_eq, List.mem_append]
  constructor
  · rintro ⟨h1, h2⟩ c hc e (he | he)
    · exact h1 c hc e ((hm e).mpr he)
    · exact h2 c hc e he
  · intro h
    exact ⟨fun c hc e he => h c hc e (.inl ((hm e).mp he)), fun c hc d hd => h c hc d (.inr hd)⟩
def flatC (cs : Ch) : List Int := cs.flatMap fun c => [c.1, c.2]
theorem bad_flat {n : Int} {pre : Ch} {c : Int × Int} {post : Ch} {x : Int} (h : ∀ e ∈ pre, hs n e.1 ∧ hs n e.2) (hc : ¬ hs n x) (hx : c.1 = x ∨ (hs n c.1 ∧ c.2 = x)) : badH n (flatC (pre ++ c :: post)) = x := by
  unfold badH flatC
  rw [List.flatMap_append, List.flatMap_cons, List.find?_append]
  have h1 : (pre.flatMap fun c => [c.1, c.2]).find? (fun x => !isH n x) = none := by
    rw [List.find?_eq_none]
    intro y hy
    obtain ⟨e, he, hy⟩ := List.mem_flatMap.mp hy
    simp only [List.mem_cons, List.not_mem_nil, or_false] at hy
    rcases hy with rfl | rfl
    · simp [isH_iff.mpr (h e he).1]
    · simp [isH_iff.mpr (h e he).2]
  have hb : isH n x = false := not_isH hc
  rw [h1]
  rcases hx with rfl | ⟨h2, rfl⟩
  · simp [hb]
  · simp [hb, isH_iff.mpr h2]
theorem bad_flat_at {n : Int} {cs : Ch} {i : Nat} {c : Int × Int} (hi : cs[i]? = some c) (hg : ∀ j d, j < i → cs[j]? = some d → hs n d.1 ∧ hs n d.2) (hb : ¬ (hs n c.1 ∧ hs n c.2)) : badH n (flatC cs) = badH n [c.1, c.2] := by
  have hl := (List.getElem?_eq_some_iff.mp hi).1
  have e : cs = cs.take i ++ c :: cs.drop (i + 1) := by
    have h2 := (List.getElem?_eq_some_iff.mp hi).2
    conv => lhs; rw [← List.take_append_drop i cs, List.drop_eq_getElem_cons hl, h2]
  have hpre : ∀ e ∈ cs.take i, hs n e.1 ∧ hs n e.2 := fun e he => by
    obtain ⟨j, hj, rfl⟩ := List.mem_iff_getElem.mp he
    rw [List.length_take] at hj
    exact hg j _ (by omega) (by rw [List.getElem_take]; exact List.getElem?_eq_getElem _)
  rw [e]
  by_cases h1 : hs n c.1
  · have h2 : ¬ hs n c.2 := fun z => hb ⟨h1, z⟩
    rw [bad_flat (x := c.2) hpre h2 (.inr ⟨h1, rfl⟩), badH_two h1 h2]
  · rw [bad_flat (x := c.1) hpre h1 (.inl rfl), badH_fst h1]
/-- need_houses, refused or not -/
def sp_need (K : PySem.W.Frag) (CV CH : Addr) : Sp := fun vs H Q E => ∃ (F : Hp) (v : Vil) (xs : List Int) (a b : V), vs = [a, b] ∧ Ex F H ∧ R K F a v ∧ R K F b xs ∧ v.C = CV ∧ ((∀ x ∈ xs, hs v.n x) → ∀ F' H', Stp F H F' H' → Q .non H') ∧ ((∃ x ∈ xs, ¬ hs v.n x) → Rz K F H E CH (badH v.n xs))
def sp_due13 (K : PySem.W.Frag) : Sp := fun vs H Q _ => ∃ (F : Hp) (n : Int) (es : Tr.Roads) (l cs : Ch) (w s c : V), vs = [w, s, c] ∧ Ex F H ∧ R K F w (tab n (dist es)) ∧ R K F s l ∧ R K F c cs ∧ l.length ≤ 1000 ∧ cs.length ≤ 1000 ∧ (∀ e ∈ l, hs n e.1 ∧ hs n e.2) ∧ (∀ e ∈ cs, hs n e.1 ∧ hs n e.2) ∧
  ∀ H', Ex H H' → Q (.bl (dueB es l cs)) H'
def sp_wish (K : PySem.W.Frag) (CR CV : Addr) : Sp := fun vs H Q _ => ∃ (F : Hp) (t g : Addr) (m n : Int) (es : Tr.Roads) (st : List Int) (r : Rpt) (v w u : V), vs = [.ref t, w, u, v] ∧ Ex F H ∧ Deck F H t g m ∧ m ≤ 10 ^ 8 ∧ R K F v r ∧ r.C = CR ∧ r.v = ⟨CV, n, held es⟩ ∧ R K F w (tab n (dist es)) ∧ R K F u st ∧ IsTree n es ∧ n ≤ 60 ∧ Tale n es st ∧
  ∀ c F' H' cs, (∀ e ∈ cs, hs n e.1 ∧ hs n e.2) → cs.length ≤ 40 → StpM (deckS t g).M F H F' H' → Deck F' H' t g (m + 500) → R K F' c (cs : Ch) → Q c H'
section
variable {K : PySem.W.Frag} {F G H : Hp} {σ : L2.St} {ta tb tc : TE} {E : XK} {n : Int} {es : Tr.Roads} {l cs : Ch}
theorem ev_due13 (h1 : EvX K F G σ ta (tab n (dist es))) (h2 : EvX K F G σ tb l) (h3 : EvX K F G σ tc cs) (hl : l.length ≤ 1000) (hc : cs.length ≤ 1000) (a : ∀ e ∈ l, hs n e.1 ∧ hs n e.2) (b : ∀ e ∈ cs, hs n e.1 ∧ hs n e.2) : EvX K F G σ (tCall (sp_due13 K) [] E (tCons ta (tCons tb (tCons tc tNil)))) (dueB es l cs) := fun H e g Q k =>
  h1 H e g _ fun x1 F1 H1 s1 r1 => (h2.up s1.ff) H1 s1.fh (g.trans s1.hh) _ fun x2 F2 H2 s2 r2 => (h3.up (s1.ff.trans s2.ff)) H2 s2.fh ((g.trans s1.hh).trans s2.hh) _ fun x3 F3 H3 s3 r3 =>
    ⟨F3, n, es, l, cs, x1, x2, x3, rfl, s3.fh, Rep.mono (s2.ff.trans s3.ff) r1, Rep.mono s3.ff r2, r3, hl, hc, a, b, fun H4 e4 => k _ F3 H4 (((s1.trans s2).trans s3).ext e4) rfl⟩
end
end L3

/-! asked of reports, one argument; picks of two and three -/
namespace L3
open PySem L2
open Rep (R)
open RepD (toD)
open Tr (adj hs IsTree TreeOn dist)
open Evl (Ex ex_l ex_t fresh_back sz_of sz_lt ixN_nat)
section
variable {K : PySem.W.Frag} {F G H : Hp} {σ : L2.St} {ta tb tc td : TE} {E : XK} {r : Rpt} {C : Addr}
variable {β γ δ : Type} [Rep β] [Rep γ] [Rep δ] {y : β}
theorem ev_rm1 {m : Str} {pre : Rpt → β → Prop} {f : Rpt → β → δ} (ha : EvX K F G σ ta r) (hb : EvX K F G σ tb y) (hC : r.C = C) (hm : NoR m) (hp : pre r y) : EvX K F G σ (tMeth C m (Pu2 K pre f) [] E ta (tCons tb tNil)) (f r y) := fun H e g Q k =>
  ha H e g _ fun u F1 H1 s1 r1 => by
    obtain ⟨a, dx, vv, vh, rfl, h2, _⟩ := id r1
    subst hC
    exact ⟨a, dx, _, rfl, s1.fh _ _ h2, rfs_no hm vv vh, (hb.up s1.ff) H1 s1.fh (g.trans s1.hh) _ fun w F2 H2 s2 r2 => ⟨F2, r, y, _, w, rfl, s2.fh, Rep.mono s2.ff r1, r2, hp, fun u F3 H3 s3 r3 => k u F3 H3 ((s1.trans s2).trans s3) r3⟩⟩
end
section
variable {K : PySem.W.Frag} {F : Hp} {σ : L2.St} {E : XK} {t g : Addr} {m x y z : Int} {j : Nat}
theorem em_two (h0 : σ[j]? = some (some (.ref t))) (hm : m ≤ 10 ^ 9) : EvM K (deckS t g) m (m + 1) F σ (tIx K (tLst (tCons (tC (.int x)) (tCons (tC (.int y)) tNil))) (tCall sp_take [] E (tCons (tVar j) (tCons (tC (.int 2)) tNil)))) (fun z => z = x ∨ z = y) :=
  EvM.imp (em_ix (P := fun l : List Int => l.length = 2 ∧ ∀ z ∈ l, z = x ∨ z = y) (P2 := fun _ i => hs 2 i) (em_lst (eml_all (P := fun z => z = x ∨ z = y) (EvM.imp em_int fun _ h => .inl h) (eml_all (EvM.imp em_int fun _ h => .inr h) eml_nilA)) fun xs h => by rw [h.1]; decide) (fun _ _ => EvM.imp (em_draw h0 draw_deck em_int hm (fun i h => by subst h; decide)) fun z ⟨c, hc, b0, b1⟩ => by subst hc; exact ⟨b0, b1⟩) fun xs i h q => by rw [h.1]; exact q) fun z ⟨xs, i, h, _, hz⟩ => h.2 z (List.mem_of_getElem? hz)
theorem em_three (h0 : σ[j]? = some (some (.ref t))) (hm : m ≤ 10 ^ 9) : EvM K (deckS t g) m (m + 1) F σ (tIx K (tLst (tCons (tC (.int x)) (tCons (tC (.int y)) (tCons (tC (.int z)) tNil)))) (tCall sp_take [] E (tCons (tVar j) (tCons (tC (.int 3)) tNil)))) (fun v => v = x ∨ v = y ∨ v = z) :=
  EvM.imp (em_ix (P := fun l : List Int => l.length = 3 ∧ ∀ v ∈ l, v = x ∨ v = y ∨ v = z) (P2 := fun _ i => hs 3 i) (em_lst (eml_all (P := fun v => v = x ∨ v = y ∨ v = z) (EvM.imp em_int fun _ h => .inl h) (eml_all (EvM.imp em_int fun _ h => .inr (.inl h)) (eml_all (EvM.imp em_int fun _ h => .inr (.inr h)) eml_nilA))) fun xs h => by rw [h.1]; decide) (fun _ _ => EvM.imp (em_draw h0 draw_deck em_int hm (fun i h => by subst h; decide)) fun z ⟨c, hc, b0, b1⟩ => by subst hc; exact ⟨b0, b1⟩) fun xs i h q => by rw [h.1]; exact q) fun z ⟨xs, i, h, _, hz⟩ => h.2 z (List.mem_of_getElem? hz)
theorem em_takeN {tb : TE} {n : Int} (h0 : σ[j]? = some (some (.ref t))) (hb : EvX K F F σ tb n) (hn : 0 < n) (hn2 : n ≤ 10 ^ 9) (hm : m ≤ 10 ^ 9) : EvM K (deckS t g) m (m + 1) F σ (tCall sp_take [] E (tCons (tVar j) (tCons tb tNil))) (fun x : Int => hs n x) :=
  EvM.imp (em_draw h0 draw_deck (em_pure hb) hm (fun i h => by subst h; exact ⟨hn, Int.le_trans hn2 (by decide)⟩)) fun x ⟨y, e, c0, c1⟩ => by subst e; exact ⟨c0, c1⟩
end
/-- tell, then take back: what is among the reports -/
theorem tell_filter {n : Int} {st : List Int} {rs l : List (Int × Int)} {x : Int} (hm : ∀ e, e ∈ rs ↔ e ∈ l) (hl : ∀ e ∈ l, hs n e.1 ∧ stAt st e.1 = e.2) (e : Int × Int) : e ∈ tellL rs (x, stAt st x) ↔ e ∈ (l.filter fun p => !decide (p.1 = x)) ++ [(x, stAt st x)] := by
  rw [mem_tell, hm, List.mem_append, List.mem_singleton, List.mem_filter]
  constructor
  · rintro (h | h)
    · by_cases q : e.1 = x
      · right
        have := (hl e h).2
        rw [q] at this
        obtain ⟨a, b⟩ := e
        simp only at q this
        rw [q, this]
      · left
        exact ⟨h, by simp [q]⟩
    · exact .inr h
  · rintro (h | h)
    · exact .inl h.1
    · exact .inr h
theorem back_filter {n : Int} {st : List Int} {rs l : List (Int × Int)} {x : Int} (hm : ∀ e, e ∈ rs ↔ e ∈ l) (hl : ∀ e ∈ l, hs n e.1 ∧ stAt st e.1 = e.2) (e : Int × Int) : e ∈ ((tellL rs (x, stAt st x)).filter fun f => !decide (f = (x, stAt st x))) ↔ e ∈ l.filter fun p => !decide (p.1 = x) := by
  rw [List.mem_filter, tell_filter hm hl, List.mem_append, List.mem_singleton]
  constructor
  · rintro ⟨h | h, q⟩
    · exact h
    · simp [h] at q
  · intro h
    refine ⟨.inl h, ?_⟩
    have := (List.mem_filter.mp h).2
    have hne : e ≠ (x, stAt st x) := fun z => by rw [z] at this; simp at this
    simpa using hne
end L3

/-! a lent object taken back, what was made meanwhile kept -/
namespace L3
open PySem L2
open Rep (R)
open RepD (toD)
open Tr (adj hs IsTree TreeOn dist)
open Evl (Ex ex_l ex_t fresh_back sz_of sz_lt ixN_nat)
/-- no instance -/
def NoI (o : HO) : Prop := ∀ C dx fs, o ≠ .ins C dx fs
/-- what is told without instances -/
class Flat (α : Type) [Rep α] : Prop where
  fl : ∀ {K : PySem.W.Frag} {F F' : Hp} {v : V} {x : α}, (∀ p o, F p = some o → NoI o → F' p = some o) → R K F v x → R K F' v x
instance : Flat Int := ⟨fun _ h => h⟩
instance : Flat Bool := ⟨fun _ h => h⟩
instance : Flat Str := ⟨fun _ h => h⟩
instance {α : Type} [Rep α] [Flat α] : Flat (List α) := ⟨fun h ⟨a, vs, h1, h2, h3⟩ => ⟨a, vs, h1, h _ _ h2 (fun _ _ _ z => by cases z), h3.imp fun _ _ => Flat.fl h⟩⟩
instance {α β : Type} [Rep α] [Rep β] [Flat α] [Flat β] : Flat (α × β) := ⟨fun h ⟨a, u, w, h1, h2, h3, h4⟩ => ⟨a, u, w, h1, h _ _ h2 (fun _ _ _ z => by cases z), Flat.fl h h3, Flat.fl h h4⟩⟩
instance {α : Type} [Rep α] [Flat α] : Flat (Option α) := ⟨fun {K F F' v x} h r => by
  cases x with
  | none => exact r
  | some y => exact Flat.fl (α := α) h r⟩
section
variable {K : PySem.W.Frag} {M : Addr → Prop} {F H F3 H3 : Hp} {a : Addr} {r : Rpt}
theorem Folk.lendI (f : Folk K F H a r) (e : Ex F H) : ∃ o, H a = some o ∧ ¬ NoI o ∧ F a = none ∧ Ex F (upd F a o) ∧ Ex (upd F a o) H ∧ R K (upd F a o) (.ref a) r := by
  obtain ⟨o, h1, h2, h3, h4⟩ := f.lend e
  obtain ⟨f0, dx, vv, vh, q1, _⟩ := f
  refine ⟨o, h1, fun z => ?_, f0, h2, h3, h4⟩
  rw [h1] at q1
  exact z _ _ _ (Option.some.inj q1)
theorem lend_back {o : HO} (h : H a = some o) (ho : ¬ NoI o) (fa : F a = none) (s : StpM M (upd F a o) H F3 H3) : ∃ F4, StpM M F H F4 H3 ∧ Ex F4 F3 ∧ F4 a = none ∧ ∀ p q, F3 p = some q → NoI q → F4 p = some q := by
  have h3 : F3 a = some o := s.ff _ _ upd_same
  refine ⟨fun x => if x = a then none else F3 x, ⟨fun x q hx => ?_, fun x q hx => ?_, s.hh, s.dm, fun x q hx => ?_⟩, fun x q hx => ?_, by simp, fun x q hx hq => ?_⟩
  · have ne : x ≠ a := fun z => by subst z; rw [fa] at hx; cases hx
    simp only [if_neg ne]
    exact s.ff _ _ (by rw [upd_ne ne]; exact hx)
  · by_cases ne : x = a
    · simp [ne] at hx
    · simp only [if_neg ne] at hx
      exact s.fh _ _ hx
  · by_cases ne : x = a
    · simp only [if_pos ne]
      rw [ne, fa]
    · simp only [if_neg ne]
      rw [s.nw _ _ hx, upd_ne ne]
  · by_cases ne : x = a
    · simp [ne] at hx
    · simp only [if_neg ne] at hx
      exact hx
  · have ne : x ≠ a := fun z => by
      subst z
      rw [h3] at hx
      cases hx
      exact ho hq
    simp only [if_neg ne]
    exact hx
end
end L3

/-! tuples of three ints; how near two may live -/
namespace L3
open PySem L2
open Rep (R)
open RepD (toD)
open Tr (adj hs IsTree TreeOn dist)
open Evl (Ex ex_l ex_t fresh_back sz_of sz_lt ixN_nat)
structure P3 where
  a : Int
  b : Int
  c : Int
deriving DecidableEq
instance : Rep P3 := ⟨fun K F u q => ∃ p, u = .ref p ∧ F p = some (.tup [.int q.a, .int q.b, .int q.c]), fun e ⟨p, h1, h2⟩ => ⟨p, h1, e _ _ h2⟩⟩
instance : RepD P3 := ⟨fun q => .tuple [.int q.a, .int q.b, .int q.c], fun ⟨p, h1, h2⟩ => by
    subst h1
    exact .tup (SqT.of h2) (.cons (.int _) (.cons (.int _) (.cons (.int _) .nil))), 1,
  fun q => by simp [PyData.depth, PyData.depthAll],
  fun x y => by
    obtain ⟨a, b, c⟩ := x
    obtain ⟨a', b', c'⟩ := y
    simp [PyData.eqv, PyData.eqvAll, Bool.beq_eq_decide_eq]⟩
instance : Lay P3 := ⟨fun q => by
  show (PyData.tuple [.int q.a, .int q.b, .int q.c]).canLay0 = true
  simp [PyData.canLay0, PyData.canLayAll0]⟩
theorem lt_p3 (x y : P3) : (PySem.W.dataLt (toD x) (toD y) = true → x.a ≤ y.a) ∧ (PySem.W.dataLt (toD x) (toD y) = false → y.a ≤ x.a) := by
  show (PySem.W.dataLt (.tuple [.int x.a, .int x.b, .int x.c]) (.tuple [.int y.a, .int y.b, .int y.c]) = true → _) ∧ (PySem.W.dataLt (.tuple [.int x.a, .int x.b, .int x.c]) (.tuple [.int y.a, .int y.b, .int y.c]) = false → _)
  by_cases h : x.a = y.a
  · exact ⟨fun _ => by omega, fun _ => by omega⟩
  · rw [PySem.W.dataLt_tuple, PySem.W.dataLt_all_no (by simp [PySem.W.alike]) (by simp [PyData.eqv, h]), PySem.W.dataLt_int]
    exact ⟨fun q => by have := of_decide_eq_true q; omega, fun q => by have := of_decide_eq_false q; omega⟩
def minF3 (p : P3) (ps : List P3) : P3 := ps.foldl (fun a y => if PySem.W.dataLt (toD y) (toD a) then y else a) p
def maxF3 (p : P3) (ps : List P3) : P3 := ps.foldl (fun a y => if PySem.W.dataLt (toD a) (toD y) then y else a) p
theorem minD_p3 : ∀ (ps : List P3) (p : P3), PySem.W.minD (toD p) (ps.map toD) = toD (minF3 p ps)
  | [], p => rfl
  | y :: ps, p => by
    unfold PySem.W.minD minF3
    simp only [List.map_cons, List.foldl_cons]
    by_cases h : PySem.W.dataLt (toD y) (toD p) = true
    · rw [if_pos h, if_pos h]; exact minD_p3 ps y
    · rw [if_neg h, if_neg h]; exact minD_p3 ps p
theorem maxD_p3 : ∀ (ps : List P3) (p : P3), PySem.W.maxD (toD p) (ps.map toD) = toD (maxF3 p ps)
  | [], p => rfl
  | y :: ps, p => by
    unfold PySem.W.maxD maxF3
    simp only [List.map_cons, List.foldl_cons]
    by_cases h : PySem.W.dataLt (toD p) (toD y) = true
    · rw [if_pos h, if_pos h]; exact maxD_p3 ps y
    · rw [if_neg h, if_neg h]; exact maxD_p3 ps p
theorem minF3_ok : ∀ (ps : List P3) (p : P3), minF3 p ps ∈ p :: ps ∧ ∀ y ∈ p :: ps, (minF3 p ps).a ≤ y.a
  | [], p => ⟨by simp [minF3], fun y hy => by simp at hy; subst hy; exact Int.le_refl _⟩
  | z :: ps, p => by
    unfold minF3
    simp only [List.foldl_cons]
    cases h : PySem.W.dataLt (toD z) (toD p) with
    | true =>
      obtain ⟨m1, m2⟩ := minF3_ok ps z
      have h1 := (lt_p3 z p).1 h
      simp only [↓reduceIte]
      refine ⟨List.mem_cons_of_mem _ m1, fun y hy => ?_⟩
      rcases List.mem_cons.mp hy with rfl | hy
      · exact Int.le_trans (m2 z (by simp)) h1
      · exact m2 y hy
    | false =>
      obtain ⟨m1, m2⟩ := minF3_ok ps p
      have h1 := (lt_p3 z p).2 h
      simp only [Bool.false_eq_true, ↓reduceIte]
      refine ⟨?_, fun y hy => ?_⟩
      · rcases List.mem_cons.mp m1 with q | q
        · exact List.mem_cons.mpr (Or.inl q)
        · exact List.mem_cons_of_mem _ (List.mem_cons_of_mem _ q)
      · rcases List.mem_cons.mp hy with rfl | hy
        · exact m2 _ (by simp)
        · rcases List.mem_cons.mp hy with rfl | hy
          · exact Int.le_trans (m2 p (by simp)) h1
          · exact m2 y (List.mem_cons_of_mem _ hy)
theorem maxF3_ok : ∀ (ps : List P3) (p : P3), maxF3 p ps ∈ p :: ps ∧ ∀ y ∈ p :: ps, y.a ≤ (maxF3 p ps).a
  | [], p => ⟨by simp [maxF3], fun y hy => by simp at hy; subst hy; exact Int.le_refl _⟩
  | z :: ps, p => by
    unfold maxF3
    simp only [List.foldl_cons]
    cases h : PySem.W.dataLt (toD p) (toD z) with
    | true =>
      obtain ⟨m1, m2⟩ := maxF3_ok ps z
      have h1 := (lt_p3 p z).1 h
      simp only [↓reduceIte]
      refine ⟨List.mem_cons_of_mem _ m1, fun y hy => ?_⟩
      rcases List.mem_cons.mp hy with rfl | hy
      · exact Int.le_trans h1 (m2 z (by simp))
      · exact m2 y hy
    | false =>
      obtain ⟨m1, m2⟩ := maxF3_ok ps p
      have h1 := (lt_p3 p z).2 h
      simp only [Bool.false_eq_true, ↓reduceIte]
      refine ⟨?_, fun y hy => ?_⟩
      · rcases List.mem_cons.mp m1 with q | q
        · exact List.mem_cons.mpr (Or.inl q)
        · exact List.mem_cons_of_mem _ (List.mem_cons_of_mem _ q)
      · rcases List.mem_cons.mp hy with rfl | hy
        · exact m2 _ (by simp)
        · rcases List.mem_cons.mp hy with rfl | hy
          · exact Int.le_trans h1 (m2 p (by simp))
          · exact m2 y (List.mem_cons_of_mem _ hy)
def min3 (xs : List P3) : P3 := match xs with | [] => ⟨0, 0, 0⟩ | p :: ps => minF3 p ps
def max3 (xs : List P3) : P3 := match xs with | [] => ⟨0, 0, 0⟩ | p :: ps => maxF3 p ps
section
variable {X : Cx}
def rMaxD (K : PySem.W.Frag) : List V → Hp → VK → Prop := fun xs H Q => ∃ a vs d ds, xs = [.ref a] ∧ SqL K H a vs ∧ DpAll K H vs (d :: ds) ∧ PySem.W.AlikeAll (d :: ds) ∧ PyData.depthAll (d :: ds) ≤ 20 ∧ PyData.canLayAll0 (d :: ds) = true ∧
  ∀ (i : Nat) v, vs[i]? = some v → (d :: ds)[i]? = some (PySem.W.maxD d ds) → Q v H
theorem cr_maxD {k : Nat} (hc : X.calm = true) (hr : Room k X.A) : CallR X (.builtin "max") (rMaxD X.K) := by
  intro pins s σ H vs us Q I r h
  obtain ⟨a, xs, d, ds, rfl, hs, hd, hal, hdep, hlay, q⟩ := h
  obtain ⟨its, rv, hl, _⟩ := I.list hs
  rw [Vals.ref1 r]
  obtain ⟨as, ra⟩ := Dp.readsAll I _ _ its hd rv
  refine PySem.W.max_list_data (vs := its.toArray) (x := d) (xs := ds) (as := as) (I.ok.hd hc) hl.isList ra hal (by have := hr.un; omega) fun i v h' tk bs hv hR hk => ?_
  rw [List.getElem?_toArray] at hv
  obtain ⟨x, hx, rx⟩ := vals_ix rv hv
  have hi : i < (d :: ds).length := by
    have := (List.getElem?_eq_some_iff.mp hv).1
    rw [← PySem.SeqAt.ReadsAll.length _ _ _ ra]
    exact this
  have hdi : (d :: ds)[i]? = some ((d :: ds)[i]) := List.getElem?_eq_getElem hi
  obtain ⟨cs, rc⟩ := readsAll_ix ra hv hdi
  have hcl : ((d :: ds)[i]).canLay0 = true := canLay_mem hlay (List.getElem_mem hi)
  have e := PySem.SeqAt.Reads.unique _ _ _ _ _ hcl (PySem.W.reads_keeps hk rc) hR
  exact ⟨x, H, I.kept hk, rx, q i x hx (by rw [hdi, e])⟩
def rMaxB (K : PySem.W.Frag) : List V → Hp → VK → Prop := fun xs H Q => rMax K xs H Q ∨ rMaxD K xs H Q
theorem k_maxB {K : PySem.W.Frag} {k : Nat} (hK : X.K = K) (hc : X.calm = true) (hr : Room k X.A) : CallR X (.builtin "max") (rMaxB K) := hK ▸ CallR.or (cr_max hc) (cr_maxD hc hr)
end
section
variable {K : PySem.W.Frag} {F G H : Hp} {σ : L2.St} {ta tb tc : TE} {xs : List P3}
theorem p3_side (xs : List P3) (h : xs ≠ []) : ∃ p ps, xs = p :: ps ∧ PySem.W.AlikeAll (xs.map toD) ∧ PyData.depthAll (xs.map toD) ≤ 20 ∧ PyData.canLayAll0 (xs.map toD) = true := by
  cases xs with
  | nil => exact absurd rfl h
  | cons p ps =>
    refine ⟨p, ps, rfl, ⟨fun x hx y hy => ?_, fun x hx => ?_⟩, ?_, layAll_of _⟩
    · obtain ⟨x', _, rfl⟩ := List.mem_map.mp hx
      obtain ⟨y', _, rfl⟩ := List.mem_map.mp hy
      simp [toD, PySem.W.alike, PySem.W.alikeAll]
    · obtain ⟨x', _, rfl⟩ := List.mem_map.mp hx
      simp [toD]
    · exact Nat.le_trans (depAll_le _) (by decide)
theorem ev_min3 (ha : EvX K F G σ ta xs) (hne : xs ≠ []) : EvX K F G σ (tCB (rMinB K) (tCons ta tNil)) (min3 xs) :=
  ev_cb1 ha fun F1 u _ h1 H1 e1 _ Q k => by
    obtain ⟨a, vs, rfl, hs, hv⟩ := h1
    obtain ⟨p, ps, rfl, s1, s2, s3⟩ := p3_side xs hne
    have hd := dpAll_of (hv.imp fun _ _ => Rep.mono (K := K) (α := P3) e1)
    refine .inr ⟨a, vs, toD p, ps.map toD, rfl, SqL.of (e1 _ _ hs), hd, s1, s2, s3, fun i v hi hj => ?_⟩
    rw [minD_p3] at hj
    obtain ⟨pr, hpr, rpr⟩ := hv.getl hi
    have h2 : ((p :: ps).map (toD : P3 → PyData))[i]? = some (toD pr) := by rw [List.getElem?_map, hpr]; rfl
    rw [show toD p :: ps.map toD = (p :: ps).map (toD : P3 → PyData) from rfl, h2] at hj
    have e : pr = minF3 p ps := by
      have h6 := RepD.eqv pr (minF3 p ps)
      rw [Option.some.inj hj, RepD.eqv, decide_eq_true rfl] at h6
      exact of_decide_eq_true h6.symm
    subst e
    exact k v F1 H1 (Stp.refl e1) rpr
theorem ev_max3 (ha : EvX K F G σ ta xs) (hne : xs ≠ []) : EvX K F G σ (tCB (rMaxB K) (tCons ta tNil)) (max3 xs) :=
  ev_cb1 ha fun F1 u _ h1 H1 e1 _ Q k => by
    obtain ⟨a, vs, rfl, hs, hv⟩ := h1
    obtain ⟨p, ps, rfl, s1, s2, s3⟩ := p3_side xs hne
    have hd := dpAll_of (hv.imp fun _ _ => Rep.mono (K := K) (α := P3) e1)
    refine .inr ⟨a, vs, toD p, ps.map toD, rfl, SqL.of (e1 _ _ hs), hd, s1, s2, s3, fun i v hi hj => ?_⟩
    rw [maxD_p3] at hj
    obtain ⟨pr, hpr, rpr⟩ := hv.getl hi
    have h2 : ((p :: ps).map (toD : P3 → PyData))[i]? = some (toD pr) := by rw [List.getElem?_map, hpr]; rfl
    rw [show toD p :: ps.map toD = (p :: ps).map (toD : P3 → PyData) from rfl, h2] at hj
    have e : pr = maxF3 p ps := by
      have h6 := RepD.eqv pr (maxF3 p ps)
      rw [Option.some.inj hj, RepD.eqv, decide_eq_true rfl] at h6
      exact of_decide_eq_true h6.symm
    subst e
    exact k v F1 H1 (Stp.refl e1) rpr
theorem ev_p3 {x y z : Int} (ha : EvX K F G σ ta x) (hb : EvX K F G σ tb y) (hc : EvX K F G σ tc z) : EvX K F G σ (tTup (tCons ta (tCons tb (tCons tc tNil)))) (⟨x, y, z⟩ : P3) := fun H e g Q k =>
  ha H e g _ fun u F1 H1 s1 r1 => (hb.up s1.ff) H1 s1.fh (g.trans s1.hh) _ fun w F2 H2 s2 r2 => (hc.up (s1.ff.trans s2.ff)) H2 s2.fh ((g.trans s1.hh).trans s2.hh) _ fun t F3 H3 s3 r3 => by
    cases r1; cases r2; cases r3
    exact ⟨by show 3 ≤ sizeLine; decide, fun p hp => k _ _ _ (((s1.trans s2).trans s3).new hp) ⟨p, rfl, upd_same⟩⟩
theorem ev_p3a {q : P3} (ha : EvX K F G σ ta q) : EvX K F G σ (tIx K ta (tC (.int 0))) q.a := by
  refine EvX.or1 (ev_op (K := K) (y := (0 : Int)) ha ev_int fun F1 u w _ h1 h2 H1 e1 _ Q k => ?_)
  cases h2
  obtain ⟨p, rfl, hp⟩ := h1
  exact .inr (.inl ⟨p, _, 0, _, rfl, rfl, SqT.of (e1 _ _ hp), rfl, k _ F1 H1 (Stp.refl e1) rfl⟩)
/-- a tuple of three taken apart -/
def BP3 (i j l : Nat) : Hp → P3 → L2.St → L2.St → Prop := fun F x σ σ' => σ' = ((σ.set i (some (.int x.a))).set j (some (.int x.b))).set l (some (.int x.c))
theorem tgt_p3 {i j l : Nat} : Tgt K (gTup K 3 (gCons (gName i) (gCons (gName j) (gCons (gName l) gNil)))) (BP3 i j l) := fun v x σ F H r e Q k => by
  obtain ⟨p, rfl, hp⟩ := r
  exact g3_ok (e _ _ hp) (k _ rfl)
end
/-! how near -/
noncomputable def nearL (n : Int) (es : Tr.Roads) (l : Ch) (x z : Int) : List Int := (mayE n es l x).flatMap fun p => (mayE n es l z).map fun q => dist es p q
noncomputable def nearE2 (n : Int) (es : Tr.Roads) (l : Ch) (x z : Int) : Int × Int := (minL (nearL n es l x z), min (maxL (nearL n es l x z)) (dist es x z))
theorem nearL_mems {n : Int} {es : Tr.Roads} {l m : Ch} {x z : Int} (h : ∀ e, e ∈ l ↔ e ∈ m) : nearL n es l x z = nearL n es m x z := by
  unfold nearL
  rw [mayE_mems h, mayE_mems h]
theorem nearR_eq {r : Rpt} {CV : Addr} {n : Int} {es : Tr.Roads} {l : Ch} (hV : r.v = ⟨CV, n, held es⟩) (hm : ∀ e, e ∈ r.rs ↔ e ∈ l) (x z : Int) : nearE2 r.v.n r.v.es r.rs x z = nearE2 n es l x z := by
  rw [hV]
  unfold nearE2
  have : nearL n (held es) r.rs x z = nearL n es l x z := by
    unfold nearL
    simp only [mayE_held, dist_held]
    rw [mayE_mems hm, mayE_mems hm]
  show (minL (nearL n (held es) r.rs x z), min (maxL (nearL n (held es) r.rs x z)) (dist (held es) x z)) = _
  rw [this, dist_held]
theorem mem_nearL {n : Int} {es : Tr.Roads} {l : Ch} {x z d : Int} : d ∈ nearL n es l x z ↔ ∃ p q, MayP n es l x p ∧ MayP n es l z q ∧ d = dist es p q := by
  unfold nearL
  simp only [List.mem_flatMap, List.mem_map]
  constructor
  · rintro ⟨p, hp, q, hq, rfl⟩
    exact ⟨p, q, mem_mayE.mp hp, mem_mayE.mp hq, rfl⟩
  · rintro ⟨p, q, hp, hq, rfl⟩
    exact ⟨p, mem_mayE.mpr hp, q, mem_mayE.mpr hq, rfl⟩
/-- a walk by steps of one comes to each number between -/
theorem ivt {f : Nat → Int} : ∀ (N : Nat), (∀ k, k < N → f (k + 1) ≤ f k + 1) → ∀ v, f 0 ≤ v → v ≤ f N → ∃ k, k ≤ N ∧ f k = v
  | 0, _, v, h0, h1 => ⟨0, Nat.le_refl _, by omega⟩
  | N + 1, h, v, h0, h1 => by
    by_cases q : v ≤ f N
    · obtain ⟨k, hk, e⟩ := ivt N (fun k hk => h k (by omega)) v h0 q
      exact ⟨k, by omega, e⟩
    · have := h N (by omega)
      exact ⟨N + 1, Nat.le_refl _, by omega⟩
section
variable {n : Int} {es : Tr.Roads} (T : IsTree n es) {l : Ch}
include T
/-- what lies between two where one may live is such -/
theorem may_between {x p p' u : Int} (hr : ∀ e ∈ l, hs n e.2) (hp : MayP n es l x p) (hp' : MayP n es l x p') (hu : hs n u) (h : dist es p u + dist es u p' = dist es p p') : MayP n es l x u := by
  refine ⟨hu, fun e he => ?_⟩
  have h1 := hp.2 e he
  have h2 := hp'.2 e he
  have k1 := Tr.dist_nn T hp.1 hu
  have k2 := Tr.dist_nn T hp'.1 hu
  rcases between T hp.1 hp'.1 hu (hr e he) h with q | q <;> omega
theorem near_all {x z : Int} (hr : ∀ e ∈ l, hs n e.2) {p0 q0 p1 q1 : Int} (h1 : MayP n es l x p0) (h2 : MayP n es l z q0) (h3 : MayP n es l x p1) (h4 : MayP n es l z q1) {v : Int} (a : dist es p0 q0 ≤ v) (b : v ≤ dist es p1 q1) : ∃ p q, MayP n es l x p ∧ MayP n es l z q ∧ dist es p q = v := by
  have step : ∀ {s t c : Int} {k : Nat}, hs n s → hs n t → hs n c → k < (dist es s t).toNat → dist es (pw (toN es t) (k + 1) s) c ≤ dist es (pw (toN es t) k s) c + 1 := fun {s t c k} hs' ht hc hk => by
    have h0 := Tr.dist_nn T hs' ht
    obtain ⟨w1, w2, w3⟩ := way_ok T hs' ht k (by omega)
    have ne : pw (toN es t) k s ≠ t := fun z => by rw [z, Tr.dist_self T ht] at w2; omega
    obtain ⟨ad, w4, _⟩ := toN_ok T w1 ht ne
    rw [pw_succ]
    have e1 := Tr.dist_symm T hc w1
    have e2 := Tr.dist_symm T hc w4
    rcases dist_edge T hc ad with q | q <;> omega
  by_cases hv : v ≤ dist es p1 q0
  · obtain ⟨k, hk, e⟩ := ivt (f := fun k => dist es (pw (toN es p1) k p0) q0) (dist es p0 p1).toNat (fun k hk => step h1.1 h3.1 h2.1 hk) v a (by
      show v ≤ dist es (pw (toN es p1) _ p0) q0
      rw [way_end T h1.1 h3.1]
      exact hv)
    have h0 := Tr.dist_nn T h1.1 h3.1
    obtain ⟨w1, w2, w3⟩ := way_ok T h1.1 h3.1 k (by omega)
    exact ⟨_, q0, may_between T hr h1 h3 w1 (by omega), h2, e⟩
  · obtain ⟨k, hk, e⟩ := ivt (f := fun k => dist es (pw (toN es q1) k q0) p1) (dist es q0 q1).toNat (fun k hk => step h2.1 h4.1 h3.1 hk) v (by
      show dist es q0 p1 ≤ v
      rw [Tr.dist_symm T h2.1 h3.1]
      omega) (by
      show v ≤ dist es (pw (toN es q1) _ q0) p1
      rw [way_end T h2.1 h4.1, Tr.dist_symm T h4.1 h3.1]
      exact b)
    have h0 := Tr.dist_nn T h2.1 h4.1
    obtain ⟨w1, w2, w3⟩ := way_ok T h2.1 h4.1 k (by omega)
    exact ⟨p1, _, h3, may_between T hr h2 h4 w1 (by omega), by rw [Tr.dist_symm T h3.1 w1]; exact e⟩
end
end L3

/-! how near two may live, and what lies between -/
namespace L3
open PySem L2
open Rep (R)
open RepD (toD)
open Tr (adj hs IsTree TreeOn dist)
open Evl (Ex ex_l ex_t fresh_back sz_of sz_lt ixN_nat)
theorem min3_a {xs : List P3} (h : xs ≠ []) : (min3 xs).a = minL (xs.map P3.a) := by
  cases xs with
  | nil => exact absurd rfl h
  | cons p ps =>
    obtain ⟨h1, h2⟩ := minF3_ok ps p
    refine minL_uniq (List.mem_map_of_mem h1) fun y hy => ?_
    obtain ⟨q, hq, rfl⟩ := List.mem_map.mp hy
    exact h2 q hq
theorem max3_a {xs : List P3} (h : xs ≠ []) : (max3 xs).a = maxL (xs.map P3.a) := by
  cases xs with
  | nil => exact absurd rfl h
  | cons p ps =>
    obtain ⟨h1, h2⟩ := maxF3_ok ps p
    refine maxL_uniq (List.mem_map_of_mem h1) fun y hy => ?_
    obtain ⟨q, hq, rfl⟩ := List.mem_map.mp hy
    exact h2 q hq
noncomputable def lie3 (es : Tr.Roads) (ms ns : List Int) : List P3 := ms.flatMap fun p => ns.map fun q => (⟨dist es p q, p, q⟩ : P3)
theorem lie3_a (n : Int) (es : Tr.Roads) (l : Ch) (x z : Int) : (lie3 es (mayE n es l x) (mayE n es l z)).map P3.a = nearL n es l x z := by
  unfold lie3 nearL
  rw [List.map_flatMap]
  congr 1
  funext p
  rw [List.map_map]
  rfl
theorem mem_lie3 {es : Tr.Roads} {ms ns : List Int} {q : P3} : q ∈ lie3 es ms ns ↔ q.b ∈ ms ∧ q.c ∈ ns ∧ q.a = dist es q.b q.c := by
  unfold lie3
  simp only [List.mem_flatMap, List.mem_map]
  constructor
  · rintro ⟨p, hp, r, hr, rfl⟩
    exact ⟨hp, hr, rfl⟩
  · obtain ⟨a, b, c⟩ := q
    rintro ⟨h1, h2, h3⟩
    exact ⟨b, h1, c, h2, by simp only at h3; subst h3; rfl⟩
theorem lie3_len (es : Tr.Roads) (ns : List Int) : ∀ ms : List Int, (lie3 es ms ns).length = ms.length * ns.length
  | [] => by simp [lie3]
  | a :: ms => by
    have := lie3_len es ns ms
    unfold lie3 at this ⊢
    rw [List.flatMap_cons, List.length_append, List.length_map, this, List.length_cons, Nat.add_mul, Nat.one_mul, Nat.add_comm]
theorem lie3_take {es : Tr.Roads} {ms ns : List Int} {i : Nat} {p : Int} (h : ms[i]? = some p) : lie3 es (ms.take (i + 1)) ns = lie3 es (ms.take i) ns ++ ns.map fun q => (⟨dist es p q, p, q⟩ : P3) := by
  unfold lie3
  rw [List.take_add_one, h, List.flatMap_append]
  simp
section
variable {n : Int} {es : Tr.Roads} (T : IsTree n es) {l : Ch}
include T
theorem near_sym (x z : Int) (hx : hs n x) (hz : hs n z) (h0 : nearL n es l x z ≠ []) : nearE2 n es l z x = nearE2 n es l x z := by
  have hm : ∀ y, y ∈ nearL n es l z x ↔ y ∈ nearL n es l x z := fun y => by
    rw [mem_nearL, mem_nearL]
    constructor
    · rintro ⟨p, q, hp, hq, rfl⟩
      exact ⟨q, p, hq, hp, Tr.dist_symm T hp.1 hq.1⟩
    · rintro ⟨p, q, hp, hq, rfl⟩
      exact ⟨q, p, hq, hp, Tr.dist_symm T hp.1 hq.1⟩
  have h1 : nearL n es l z x ≠ [] := fun q => by
    obtain ⟨y, hy⟩ := List.exists_mem_of_ne_nil _ h0
    have := (hm y).mpr hy
    rw [q] at this
    cases this
  unfold nearE2
  rw [maxL_mems h1 hm, Tr.dist_symm T hx hz]
  congr 1
  exact minL_uniq ((hm _).mp (minL_mem h1)) fun y hy => minL_le ((hm y).mpr hy)
theorem near_ne {st : List Int} (A : Tale n es st) (h : ∀ e ∈ l, hs n e.1 ∧ stAt st e.1 = e.2) {x z : Int} (hx : hs n x) (hz : hs n z) : nearL n es l x z ≠ [] :=
  List.ne_nil_of_mem (mem_nearL.mpr ⟨_, _, mem_mayE.mp (tale_may T A h hx), mem_mayE.mp (tale_may T A h hz), rfl⟩)
theorem near_tale {st : List Int} (A : Tale n es st) (h : ∀ e ∈ l, hs n e.1 ∧ stAt st e.1 = e.2) {x z : Int} (hx : hs n x) (hz : hs n z) : (nearE2 n es l x z).1 ≤ dist es (stAt st x) (stAt st z) ∧ dist es (stAt st x) (stAt st z) ≤ (nearE2 n es l x z).2 := by
  have hm : dist es (stAt st x) (stAt st z) ∈ nearL n es l x z := mem_nearL.mpr ⟨_, _, mem_mayE.mp (tale_may T A h hx), mem_mayE.mp (tale_may T A h hz), rfl⟩
  refine ⟨minL_le hm, ?_⟩
  unfold nearE2
  have h1 := le_maxL hm
  have h2 := tale_short T A hx hz
  show _ ≤ min (maxL (nearL n es l x z)) (dist es x z)
  omega
theorem near_self {st : List Int} (A : Tale n es st) (h : ∀ e ∈ l, hs n e.1 ∧ stAt st e.1 = e.2) {x : Int} (hx : hs n x) : nearE2 n es l x x = (0, 0) := by
  obtain ⟨a, b⟩ := near_tale T A h hx hx
  have s0 := Tr.dist_self T (A.hs hx)
  have sx := Tr.dist_self T hx
  have hmem := minL_mem (near_ne T A h hx hx)
  obtain ⟨p, q, hp, hq, e⟩ := mem_nearL.mp hmem
  have nn := Tr.dist_nn T hp.1 hq.1
  unfold nearE2 at a b ⊢
  simp only at a b
  rw [s0] at a b
  rw [sx] at b ⊢
  refine Prod.ext ?_ ?_
  · show minL _ = 0
    omega
  · show min _ (0 : Int) = 0
    omega
/-- the pairs that lie so far from one another -/
theorem near_pairs (hr : ∀ e ∈ l, hs n e.2) {x z v : Int} (h0 : nearL n es l x z ≠ []) (a : (nearE2 n es l x z).1 ≤ v) (b : v ≤ (nearE2 n es l x z).2) :
    ∃ p q cs, ((lie3 es (mayE n es l x) (mayE n es l z)).filter fun t => decide (t.a = v)).map (fun t => (t.b, t.c)) = (p, q) :: cs ∧ MayP n es l x p ∧ MayP n es l z q ∧ dist es p q = v := by
  obtain ⟨p0, q0, h1, h2, e0⟩ := mem_nearL.mp (minL_mem h0)
  obtain ⟨p1, q1, h3, h4, e1⟩ := mem_nearL.mp (maxL_mem h0)
  have hb : v ≤ dist es p1 q1 := by
    rw [← e1]
    unfold nearE2 at b
    simp only at b
    omega
  have ha : dist es p0 q0 ≤ v := by rw [← e0]; exact a
  obtain ⟨p, q, hp, hq, e⟩ := near_all T hr h1 h2 h3 h4 ha hb
  have hm : (⟨dist es p q, p, q⟩ : P3) ∈ (lie3 es (mayE n es l x) (mayE n es l z)).filter fun t => decide (t.a = v) := List.mem_filter.mpr ⟨mem_lie3.mpr ⟨mem_mayE.mpr hp, mem_mayE.mpr hq, rfl⟩, decide_eq_true e⟩
  generalize hL : (lie3 es (mayE n es l x) (mayE n es l z)).filter (fun t => decide (t.a = v)) = L at hm
  cases L with
  | nil => cases hm
  | cons t ts =>
    have ht : t ∈ (lie3 es (mayE n es l x) (mayE n es l z)).filter fun t => decide (t.a = v) := by rw [hL]; exact List.mem_cons_self
    obtain ⟨k1, k2⟩ := List.mem_filter.mp ht
    obtain ⟨k3, k4, k5⟩ := mem_lie3.mp k1
    have k6 := of_decide_eq_true k2
    exact ⟨t.b, t.c, ts.map fun t => (t.b, t.c), rfl, mem_mayE.mp k3, mem_mayE.mp k4, by rw [← k5]; exact k6⟩
theorem near_may {r : Rpt} {CV : Addr} {x z p q : Int} (hV : r.v = ⟨CV, n, held es⟩) (hm : ∀ e, e ∈ r.rs ↔ e ∈ l) (hx : hs n x) (hz : hs n z) (hp : MayP n es l x p) (hq : MayP n es l z q) (h : dist es p q ≤ dist es x z) : mayB r [(x, p), (z, q)] = true := by
  rw [may_due hV hm]
  have e1 := Tr.dist_symm T hp.1 hq.1
  have e2 := Tr.dist_symm T hx hz
  have e3 := Tr.dist_self T hp.1
  have e4 := Tr.dist_self T hq.1
  have e5 := Tr.dist_self T hx
  have e6 := Tr.dist_self T hz
  unfold dueB
  rw [List.all_eq_true]
  intro c hc
  rw [List.all_eq_true]
  intro e he
  rw [decide_eq_true_eq]
  simp only [List.mem_cons, List.not_mem_nil, or_false] at hc
  rcases List.mem_append.mp he with he | he
  · rcases hc with rfl | rfl
    · exact hp.2 e he
    · exact hq.2 e he
  · simp only [List.mem_cons, List.not_mem_nil, or_false] at he
    rcases hc with rfl | rfl <;> rcases he with rfl | rfl <;> dsimp only <;> omega
end
theorem same_two (a b : Int × Int) : toD [a, b] = toD [a, b] ∧ (toD [a, b]).depth < 5 ∧ noD (toD [a, b]) = true ∧ dsz (toD [a, b]) ≤ 100000 ∧ (toD [a, b]).canLay0 = true := by
  refine ⟨rfl, ?_, rfl, ?_, Lay.lay _⟩
  · exact Nat.lt_of_le_of_lt (RepD.dep_le [a, b]) (by decide)
  · show dsz (PyData.list _) ≤ _
    simp [dsz, dszAll, RepD.toD]
def sp_two (K : PySem.W.Frag) (CR CV : Addr) : Sp := fun vs H Q _ => ∃ (F : Hp) (n x z : Int) (es : Tr.Roads) (l : Ch) (st : List Int) (r : Rpt) (v w u s : V), vs = [v, w, u, s, .int x, .int z] ∧ Ex F H ∧ R K F v r ∧ r.C = CR ∧ r.v = ⟨CV, n, held es⟩ ∧ R K F w (tab n (dist es)) ∧ R K F u l ∧ R K F s st ∧ IsTree n es ∧ n ≤ 60 ∧ Tale n es st ∧ (∀ e, e ∈ r.rs ↔ e ∈ l) ∧ l.length ≤ 1000 ∧ (∀ e ∈ l, hs n e.1 ∧ stAt st e.1 = e.2) ∧ hs n x ∧ hs n z ∧
  ∀ u F' H', Stp F H F' H' → R K F' u true → Q u H'
section
variable {K : PySem.W.Frag} {F G : Hp} {σ : L2.St} {CR CV : Addr} {E : XK} {ta tb tc td te tf : TE} {n x z : Int} {es : Tr.Roads} {l : Ch} {st : List Int} {r : Rpt}
theorem ev_two (ha : EvX K F G σ ta r) (hb : EvX K F G σ tb (tab n (dist es))) (hc : EvX K F G σ tc l) (hd : EvX K F G σ td st) (he : EvX K F G σ te x) (hf : EvX K F G σ tf z) (hC : r.C = CR) (hV : r.v = ⟨CV, n, held es⟩) (T : IsTree n es) (hn : n ≤ 60) (A : Tale n es st) (hm : ∀ e, e ∈ r.rs ↔ e ∈ l) (hll : l.length ≤ 1000) (hl : ∀ e ∈ l, hs n e.1 ∧ stAt st e.1 = e.2) (hx : hs n x) (hz : hs n z) :
    EvX K F G σ (tCall (sp_two K CR CV) [] E (tCons ta (tCons tb (tCons tc (tCons td (tCons te (tCons tf tNil))))))) true := fun H e g Q k =>
  ha H e g _ fun v F1 H1 s1 r1 => (hb.up s1.ff) H1 s1.fh (g.trans s1.hh) _ fun w F2 H2 s2 r2 => (hc.up (s1.ff.trans s2.ff)) H2 s2.fh ((g.trans s1.hh).trans s2.hh) _ fun u F3 H3 s3 r3 =>
    (hd.up ((s1.ff.trans s2.ff).trans s3.ff)) H3 s3.fh (((g.trans s1.hh).trans s2.hh).trans s3.hh) _ fun s F4 H4 s4 r4 => (he.up (((s1.ff.trans s2.ff).trans s3.ff).trans s4.ff)) H4 s4.fh ((((g.trans s1.hh).trans s2.hh).trans s3.hh).trans s4.hh) _ fun v5 F5 H5 s5 r5 =>
    (hf.up ((((s1.ff.trans s2.ff).trans s3.ff).trans s4.ff).trans s5.ff)) H5 s5.fh (((((g.trans s1.hh).trans s2.hh).trans s3.hh).trans s4.hh).trans s5.hh) _ fun v6 F6 H6 s6 r6 => by
    cases r5; cases r6
    have e56 := s5.ff.trans s6.ff
    exact ⟨F6, n, x, z, es, l, st, r, v, w, u, s, rfl, s6.fh, Rep.mono (s2.ff.trans (s3.ff.trans (s4.ff.trans e56))) r1, hC, hV, Rep.mono (s3.ff.trans (s4.ff.trans e56)) r2, Rep.mono (s4.ff.trans e56) r3, Rep.mono e56 r4, T, hn, A, hm, hll, hl, hx, hz, fun u F7 H7 s7 r7 => k u F7 H7 ((((((s1.trans s2).trans s3).trans s4).trans s5).trans s6).trans s7) r7⟩
theorem ev_lele {i j k : Int} {te tf tg : TE} (ha : EvX K F G σ te i) (hb : EvX K F G σ tf j) (hc : EvX K F G σ tg k) :
    EvX K F G σ (tChain (rI0 fun i j => .bl (decide (i ≤ j))) (rI0 fun i j => .bl (decide (i ≤ j))) te tf tg) (decide (i ≤ j) && decide (j ≤ k)) :=
  ev_chain ha hb hc (fun F1 u w _ h1 h2 H1 e1 _ Q k' => ⟨i, j, h1, h2, k' H1 (Ex.refl _)⟩) (fun _ F1 u w _ h1 h2 H1 e1 _ Q k' => ⟨j, k, h1, h2, k' H1 (Ex.refl _)⟩)
end
end L3

/-! the tray's shuffles and villages -/
namespace L3
open PySem L2
open Rep (R)
open RepD (toD)
open Tr (adj hs IsTree TreeOn dist)
open Evl (Ex ex_l ex_t fresh_back sz_of sz_lt ixN_nat)
theorem Tray.stpM {F H F' H' : Hp} {M : Addr → Prop} {t g : Addr} {n : Int} (T : Tray F H t g n) (s : StpM M F H F' H') (ht : ¬ M t) (hg : ¬ M g) : Tray F' H' t g n := by
  obtain ⟨f1, f2, ne, ds, u, c, d, h1, h2, r⟩ := T
  exact ⟨s.fno h1 f1, s.fno h2 f2, ne, ds, u, c, d, s.hh _ _ ht h1, s.hh _ _ hg h2, r⟩
theorem isTree_perm {n : Int} {es fs : Tr.Roads} (T : IsTree n es) (p : fs.Perm es) : IsTree n fs := ⟨T.pos, by rw [p.length_eq]; exact T.len, T.tr.perm p.symm⟩
theorem dist_perm {es fs : Tr.Roads} (p : fs.Perm es) (x y : Int) : dist fs x y = dist es x y := Tr.dist_congr (fun a b => adj_perm p a b) x y
def sp_shuf (K : PySem.W.Frag) : Sp := fun vs H Q _ => ∃ (F : Hp) (t g : Addr) (n : Int) (α : Type) (_ : Rep α) (xs : List α) (w : V), vs = [.ref t, w] ∧ Ex F H ∧ Tray F H t g n ∧ R K F w xs ∧ n ≤ 2 * 10 ^ 8 ∧ xs.length ≤ 1000 ∧
  ∀ v F' H' (ys : List α), ys.Perm xs → StpM (TM t g) F H F' H' → Tray F' H' t g (n + xs.length) → R K F' v ys → Q v H'
def sp_lanes (K : PySem.W.Frag) : Sp := fun vs H Q E => ∃ t g, VilS K (trayS t g) (.ref t) (10 ^ 8) vs H Q E
theorem vil_tray {K : PySem.W.Frag} {t g : Addr} : ∀ vs H Q E, VilS K (trayS t g) (.ref t) (10 ^ 8) vs H Q E → sp_lanes K vs H Q E := fun vs H Q E h => ⟨t, g, h⟩
section
variable {K : PySem.W.Frag} {F G H : Hp} {σ : L2.St} {ta tb te ts : TE} {E : XK} {t g : Addr} {n m : Int} {j : Nat} {α : Type} [i1 : Rep α] {xs : List α}
theorem em_shuf (h0 : σ[j]? = some (some (.ref t))) (hb : EvX K F F σ tb xs) (hn : n ≤ 2 * 10 ^ 8) (hl : xs.length ≤ 1000) : EvM K (trayS t g) n (n + xs.length) F σ (tCall (sp_shuf K) [] E (tCons (tVar j) (tCons tb tNil))) (fun ys : List α => ys.Perm xs) := fun F1 H e1 e2 i Q k =>
  ⟨_, h0, EvM.go (S := trayS t g) ((em_pure hb).up e1) e2 i fun v x F' H' s' i' p' r => by
    subst p'
    exact ⟨F', t, g, n, α, i1, x, v, rfl, s'.fh, i', r, hn, hl, fun u F2 H2 ys hp s2 i2 r2 => k u ys F2 H2 (s'.trans s2) i2 hp r2⟩⟩
theorem em_min2 {S : Src} {l : Int} {P : Int → Prop} {P2 : Int → Int → Prop} (ha : EvM K S n m F σ ta P) (hb : ∀ x, P x → EvM K S m l F σ tb (P2 x)) : EvM K S n l F σ (tCB rMin2 (tCons ta (tCons tb tNil))) (fun z => ∃ x y, P x ∧ P2 x y ∧ z = min x y) := fun F1 H e1 e2 i Q k =>
  ha F1 H e1 e2 i _ fun v x F2 H2 s2 i2 p2 r2 => hb x p2 F2 H2 (e1.trans s2.ff) s2.fh i2 _ fun w y F3 H3 s3 i3 p3 r3 => by
    cases r2; cases r3
    refine ⟨x, y, rfl, k _ (min x y) F3 H3 (s2.trans s3) i3 ⟨x, y, p2, p3, rfl⟩ ?_⟩
    show V.int _ = V.int _
    congr 1
    omega
/-- t[::k], k drawn -/
theorem em_step2 {S : Src} {x : Int × Int} {P : Int → Prop} (h1 : EvX K F F σ te x) (h2 : EvM K S n m F σ ts P) (hk : ∀ k, P k → k = 1 ∨ k = -1) : EvM K S n m F σ (tStep2 K te ts) (fun y : Int × Int => y = x ∨ y = (x.2, x.1)) := fun F0 H e1 e2 i Q k =>
  EvM.go ((em_pure h1).up e1) e2 i fun v x' F1 H1 s1 i1 p1 r1 => by
    subst p1
    exact EvM.go (h2.up (e1.trans s1.ff)) s1.fh i1 fun u kk F2 H2 s2 i2 p2 r2 => by
      cases r2
      obtain ⟨a, v1, v2, rfl, ha, q1, q2⟩ := r1
      have ha2 := s2.fh _ _ (s2.ff _ _ ha)
      refine ⟨kk, rfl, a, v1, v2, rfl, SqT.of ha2, ?_⟩
      have s12 := s1.trans s2
      rcases hk kk p2 with rfl | rfl
      · exact .inl ⟨rfl, k _ x' F2 H2 s12 i2 (.inl rfl) ⟨a, v1, v2, rfl, s2.ff _ _ ha, Rep.mono s2.ff q1, Rep.mono s2.ff q2⟩⟩
      · refine .inr ⟨rfl, fun p hp => ?_⟩
        have nM : ¬ S.M p := fun z => (S.no i2 z).1 hp
        have e3 : Ex F2 (upd F2 p (.tup [v2, v1])) := Ex.new (fresh_back s2.fh hp)
        exact k _ (x'.2, x'.1) (upd F2 p (.tup [v2, v1])) _ (s12.new hp) (S.frz (o := .tup [v2, v1]) (S.stp i2 ((Stp.refl s2.fh).own (o := .tup [v2, v1]) hp)) nM) (.inr rfl) ⟨p, v2, v1, rfl, upd_same, Rep.mono (s2.ff.trans e3) q2, Rep.mono (s2.ff.trans e3) q1⟩
end
end L3

/-! three ways meet; four houses -/
namespace L3
open PySem L2
open Rep (R)
open RepD (toD)
open Tr (adj hs IsTree TreeOn dist)
open Evl (Ex ex_l ex_t fresh_back sz_of sz_lt ixN_nat)
section
variable {n : Int} {es : Tr.Roads} (T : IsTree n es) {x y z w : Int}
include T
/-- where three ways meet -/
theorem median (hx : hs n x) (hy : hs n y) (hz : hs n z) : ∃ u, hs n u ∧ dist es x u + dist es u y = dist es x y ∧ dist es x u + dist es u z = dist es x z ∧ dist es y u + dist es u z = dist es y z := by
  have d0 := Tr.dist_nn T hx hy
  have hS : ∀ {a b : Int}, hs n a → hs n b → dist es a b = dist es b a := fun ha hb => Tr.dist_symm T ha hb
  have key : ∀ k : Nat, (k : Int) ≤ dist es x y → dist es x (pw (toN es y) k x) + dist es (pw (toN es y) k x) z = dist es x z ∨ ∃ u, hs n u ∧ dist es x u + dist es u y = dist es x y ∧ dist es x u + dist es u z = dist es x z ∧ dist es y u + dist es u z = dist es y z := by
    intro k
    induction k with
    | zero => exact fun _ => .inl (by show dist es x x + _ = _; rw [Tr.dist_self T hx]; show 0 + dist es x z = _; omega)
    | succ k ih =>
      intro hk
      rcases ih (by omega) with h | h
      · by_cases q : dist es x (pw (toN es y) (k + 1) x) + dist es (pw (toN es y) (k + 1) x) z = dist es x z
        · exact .inl q
        · right
          obtain ⟨a1, a2, a3⟩ := way_ok T hx hy k (by omega)
          obtain ⟨b1, b2, b3⟩ := way_ok T hx hy (k + 1) hk
          have ne : pw (toN es y) k x ≠ y := fun e => by rw [e, Tr.dist_self T hy] at a2; omega
          obtain ⟨ad, _, _⟩ := toN_ok T a1 hy ne
          have ad : adj es (pw (toN es y) k x) (pw (toN es y) (k + 1) x) := by rw [pw_succ]; exact ad
          refine ⟨_, a1, by omega, h, ?_⟩
          have e1 := hS hz a1
          have e2 := hS hz b1
          have e3 := hS hy a1
          have e4 := hS hy b1
          have t1 := Tr.dist_tri T hx b1 hz
          have t2 := Tr.dist_tri T hy a1 hz
          rcases between T hx hy b1 hz (by omega) with r | r
          · exact absurd r q
          · rcases dist_edge T hz ad with s | s <;> omega
      · exact .inr h
  rcases key (dist es x y).toNat (by omega) with h | h
  · rw [way_end T hx hy] at h
    refine ⟨y, hy, by rw [Tr.dist_self T hy]; omega, h, by rw [Tr.dist_self T hy]; omega⟩
  · exact h
theorem median_uniq {u v : Int} (hx : hs n x) (hy : hs n y) (hz : hs n z) (hu : hs n u) (hv : hs n v) (a1 : dist es x u + dist es u y = dist es x y) (a2 : dist es x u + dist es u z = dist es x z) (a3 : dist es y u + dist es u z = dist es y z)
    (b1 : dist es x v + dist es v y = dist es x y) (b2 : dist es x v + dist es v z = dist es x z) (b3 : dist es y v + dist es v z = dist es y z) : u = v := by
  have e1 := Tr.dist_symm T hy hu
  have e2 := Tr.dist_symm T hy hv
  have h0 := Tr.dist_nn T hu hy
  exact way_uniq T hx (dist es u y).toNat y u v hy hu hv (by omega) (by omega) a1 b1
/-- of the three sums over four houses the two greatest are the same -/
theorem four_point (hx : hs n x) (hy : hs n y) (hz : hs n z) (hw : hs n w) :
    let S1 := dist es x y + dist es z w
    let S2 := dist es x z + dist es y w
    let S3 := dist es x w + dist es y z
    (S1 ≤ S3 ∧ S2 ≤ S3 ∧ (S1 = S3 ∨ S2 = S3)) ∨ (S1 ≤ S2 ∧ S3 ≤ S2 ∧ (S1 = S2 ∨ S3 = S2)) := by
  intro S1 S2 S3
  have key : ∀ {z w p q : Int}, hs n z → hs n w → hs n p → hs n q → dist es x p + dist es p y = dist es x y → dist es x p + dist es p z = dist es x z → dist es y p + dist es p z = dist es y z →
      dist es x q + dist es q y = dist es x y → dist es x q + dist es q w = dist es x w → dist es y q + dist es q w = dist es y w → dist es x p ≤ dist es x q →
      dist es x y + dist es z w ≤ dist es x w + dist es y z ∧ dist es x z + dist es y w ≤ dist es x w + dist es y z ∧ (dist es x y + dist es z w = dist es x w + dist es y z ∨ dist es x z + dist es y w = dist es x w + dist es y z) := by
    intro z w p q hz hw hp hq a1 a2 a3 b1 b2 b3 hle
    have s1 := Tr.dist_symm T hy hp
    have s2 := Tr.dist_symm T hy hq
    have s3 := Tr.dist_symm T hz hp
    have s4 := Tr.dist_symm T hy hz
    have nn := Tr.dist_nn T hp hq
    have t1 := Tr.dist_tri T hz hp hw
    have t2 := Tr.dist_tri T hp hq hw
    have t3 := Tr.dist_tri T hx hp hw
    have t4 := Tr.dist_tri T hx hp hq
    have pq : dist es p q = dist es x q - dist es x p := by
      rcases between T hx hy hp hq a1 with r | r <;> omega
    have pw' : dist es p w = dist es p q + dist es q w := by omega
    rcases between T hz hy hp hw (by omega) with r | r <;> omega
  obtain ⟨p, hp, a1, a2, a3⟩ := median T hx hy hz
  obtain ⟨q, hq, b1, b2, b3⟩ := median T hx hy hw
  rcases Int.le_total (dist es x p) (dist es x q) with h | h
  · exact .inl (key hz hw hp hq a1 a2 a3 b1 b2 b3 h)
  · have := key hw hz hq hp b1 b2 b3 a1 a2 a3 h
    have e := Tr.dist_symm T hz hw
    right
    show dist es x y + dist es z w ≤ dist es x z + dist es y w ∧ dist es x w + dist es y z ≤ dist es x z + dist es y w ∧ (dist es x y + dist es z w = dist es x z + dist es y w ∨ dist es x w + dist es y z = dist es x z + dist es y w)
    omega
theorem way_len (hx : hs n x) (hy : hs n y) : ((wayL es x y).length : Int) = dist es x y + 1 := by
  have := Tr.dist_nn T hx hy
  unfold wayL
  rw [trail_len]
  omega
theorem way_get (hx : hs n x) (hy : hs n y) {k : Nat} (hk : (k : Int) ≤ dist es x y) : (wayL es x y)[k]? = some (pw (toN es y) k x) := by
  have := Tr.dist_nn T hx hy
  exact trail_get (by omega)
theorem way_in (hx : hs n x) (hy : hs n y) {u : Int} : u ∈ wayL es x y ↔ hs n u ∧ dist es x u + dist es u y = dist es x y := by
  refine ⟨fun h => way_mem T hx hy h, fun ⟨hu, h⟩ => ?_⟩
  have h0 := Tr.dist_nn T hx hu
  have h1 := Tr.dist_nn T hu hy
  obtain ⟨a1, a2, a3⟩ := way_ok T hx hy (dist es x u).toNat (by omega)
  have : u = pw (toN es y) (dist es x u).toNat x := way_uniq T hx (dist es u y).toNat y _ _ hy hu a1 (by omega) (by omega) h (by omega)
  rw [this]
  exact List.mem_of_getElem? (way_get T hx hy (k := (dist es x u).toNat) (by omega))
theorem way_rev (hx : hs n x) (hy : hs n y) : wayL es y x = (wayL es x y).reverse := by
  have e := Tr.dist_symm T hx hy
  have l1 := way_len T hx hy
  have l2 := way_len T hy hx
  refine List.ext_getElem? fun k => ?_
  by_cases hk : (k : Int) ≤ dist es y x
  · rw [way_get T hy hx hk, List.getElem?_reverse (by omega), show (wayL es x y).length - 1 - k = ((dist es x y).toNat - k) by omega, way_get T hx hy (by omega)]
    obtain ⟨a1, a2, a3⟩ := way_ok T hy hx k hk
    obtain ⟨b1, b2, b3⟩ := way_ok T hx hy ((dist es x y).toNat - k) (by omega)
    have s1 := Tr.dist_symm T hx a1
    have s2 := Tr.dist_symm T hy a1
    rw [way_uniq T hx k y _ _ hy a1 b1 (by omega) (by omega) (by omega) (by omega)]
  · rw [List.getElem?_eq_none (by omega), List.getElem?_eq_none (by rw [List.length_reverse]; omega)]
theorem way_take (hx : hs n x) (hy : hs n y) {k : Nat} (hk : (k : Int) ≤ dist es x y) : wayL es x (pw (toN es y) k x) = (wayL es x y).take (k + 1) := by
  obtain ⟨a1, a2, a3⟩ := way_ok T hx hy k hk
  have l1 := way_len T hx hy
  have l2 := way_len T hx a1
  refine List.ext_getElem? fun j => ?_
  by_cases hj : j ≤ k
  · rw [way_get T hx a1 (by omega), List.getElem?_take_of_lt (by omega), way_get T hx hy (by omega)]
    obtain ⟨b1, b2, b3⟩ := way_ok T hx a1 j (by omega)
    obtain ⟨c1, c2, c3⟩ := way_ok T hx hy j (by omega)
    have t := Tr.dist_tri T b1 a1 hy
    have t2 := Tr.dist_tri T hx b1 hy
    rw [way_uniq T hx ((dist es x y).toNat - j) y _ _ hy b1 c1 (by omega) (by omega) (by omega) (by omega)]
  · rw [List.getElem?_eq_none (by omega), List.getElem?_eq_none (by rw [List.length_take]; omega)]
theorem way_nd (hx : hs n x) (hy : hs n y) : (wayL es x y).Nodup := by
  have l1 := way_len T hx hy
  refine List.pairwise_iff_getElem.mpr fun i j hi hj hij e => ?_
  have e1 := way_get T hx hy (k := i) (by omega)
  have e2 := way_get T hx hy (k := j) (by omega)
  rw [List.getElem?_eq_getElem hi] at e1
  rw [List.getElem?_eq_getElem hj] at e2
  obtain ⟨_, _, a3⟩ := way_ok T hx hy i (by omega)
  obtain ⟨_, _, b3⟩ := way_ok T hx hy j (by omega)
  rw [← Option.some.inj e1, e, Option.some.inj e2] at a3
  omega
/-- the one house on all three ways -/
theorem way_common (hx : hs n x) (hy : hs n y) (hz : hs n z) : ∃ u, (wayL es x y).filter (fun h => decide (h ∈ wayL es y z) && decide (h ∈ wayL es x z)) = [u] ∧ hs n u ∧ 2 * dist es x u = dist es x y + dist es x z - dist es y z := by
  obtain ⟨u, hu, a1, a2, a3⟩ := median T hx hy hz
  have hmem : ∀ v, v ∈ (wayL es x y).filter (fun h => decide (h ∈ wayL es y z) && decide (h ∈ wayL es x z)) ↔ v = u := fun v => by
    rw [List.mem_filter, Bool.and_eq_true, decide_eq_true_eq, decide_eq_true_eq, way_in T hx hy, way_in T hy hz, way_in T hx hz]
    constructor
    · rintro ⟨⟨hv, b1⟩, ⟨_, b3⟩, ⟨_, b2⟩⟩
      exact median_uniq T hx hy hz hv hu b1 b2 b3 a1 a2 a3
    · rintro rfl
      exact ⟨⟨hu, a1⟩, ⟨hu, a3⟩, ⟨hu, a2⟩⟩
  have hnd := (way_nd T hx hy).filter (fun h => decide (h ∈ wayL es y z) && decide (h ∈ wayL es x z))
  generalize (wayL es x y).filter (fun h => decide (h ∈ wayL es y z) && decide (h ∈ wayL es x z)) = L at hmem hnd
  have e := Tr.dist_symm T hy hu
  refine ⟨u, ?_, hu, by omega⟩
  cases L with
  | nil => exact absurd ((hmem u).mpr rfl) (by simp)
  | cons a l =>
    have := (hmem a).mp List.mem_cons_self
    subst this
    cases l with
    | nil => rfl
    | cons b l =>
      have := (hmem b).mp (by simp)
      subst this
      simp at hnd
end
end L3

/-! the sum of a pair; in a pair; a list of four taken apart -/
namespace L3
open PySem L2
open Rep (R)
open RepD (toD)
open Tr (adj hs IsTree TreeOn dist)
open Evl (Ex ex_l ex_t fresh_back sz_of sz_lt ixN_nat)
section
variable {X : Cx}
def rSumP (K : PySem.W.Frag) : List V → Hp → VK → Prop := fun xs H Q => ∃ a i j, xs = [.ref a] ∧ SqT K H a [.int i, .int j] ∧ Q (.int (i + j)) H
theorem cr_sumP (hc : X.calm = true) : CallR X (.builtin "sum") (rSumP X.K) := by
  intro pins s σ H vs us Q I r h
  obtain ⟨a, i, j, rfl, hs, q⟩ := h
  obtain ⟨its, rv, ht, _⟩ := I.tuple hs
  rw [Vals.ref1 r]
  obtain ⟨u1, u2, rfl, r1, r2⟩ := vals2 rv
  obtain ⟨t1, rfl⟩ := r1
  obtain ⟨t2, rfl⟩ := r2
  have ht2 : s.heap.IsTuple a #[Value.int i t1, Value.int j t2] := by
    obtain ⟨o, e1, e2, e3⟩ := ht
    exact ⟨o, e1, e2, e3⟩
  have hlt : a < s.heap.objs.size := by obtain ⟨_, e, _⟩ := ht2; exact Heap.lt_size e
  have hh : X.A.in1.handled = none := I.ok.hd hc
  refine PySem.call_sum_walkG (PySem.W.iter_tupleW hh ht2 fun s2 e W st hfp hb hk => ?_)
  subst e
  refine ⟨_, _, _, _, _, _, (fun k => if k = 0 then i else j), rfl, Walks.tuple (A := X.A.in1) hh _ a (Nat.ne_of_lt hlt) #[Value.int i t1, Value.int j t2], st, hfp, fun k v hv => ?_, fun h' tk t' hk' => ?_⟩
  · match k, hv with
    | 0, hv => exact ⟨t1, by simpa using hv.symm⟩
    | 1, hv => exact ⟨t2, by simpa using hv.symm⟩
    | k + 2, hv => simp at hv
  · refine ⟨.int _, H, I.kept fun b o eb => hk' b o (fun hm => hb b o eb hm) (hk b o eb), ⟨t', ?_⟩, q⟩
    show Value.int (preSum _ 2) t' = _
    simp [preSum]
theorem k_gl {K : PySem.W.Frag} {es : List Expr} {k : Nat} {pos : Pos} {t : TGs} {n : Nat} (hK : X.K = K) (hc : X.calm = true) (h : PGs X es t)
    (hn : (assignEach es X.env).length = n := by rfl) (hst : (assignEach es X.env).findIdx? (·.1) = none := by rfl) : PG X (.Tuple es k pos) (gLst K n t) := hK ▸ pg_lst hc h hn hst
def rSumA (K : PySem.W.Frag) : List V → Hp → VK → Prop := fun xs H Q => rSum K xs H Q ∨ rSumP K xs H Q
theorem k_sumA {K : PySem.W.Frag} (hK : X.K = K) (hc : X.calm = true) : CallR X (.builtin "sum") (rSumA K) := hK ▸ CallR.or (cr_sum hc) (cr_sumP hc)
end
section
variable {K : PySem.W.Frag} {F G H : Hp} {σ : L2.St} {ta tb te : TE}
theorem ev_sumP {e : Int × Int} (ha : EvX K F G σ ta e) : EvX K F G σ (tCB (rSumA K) (tCons ta tNil)) (e.1 + e.2) :=
  ev_cb1 ha fun F1 u _ h1 H1 e1 _ Q k => by
    obtain ⟨p, v1, v2, rfl, hp, q1, q2⟩ := h1
    cases q1; cases q2
    exact .inr ⟨p, e.1, e.2, rfl, SqT.of (e1 _ _ hp), k _ F1 H1 (Stp.refl e1) rfl⟩
theorem ev_inP {x : Int} {e : Int × Int} (ha : EvX K F G σ ta x) (hb : EvX K F G σ tb e) : EvX K F G σ (tOp (rInA K) ta tb) (decide (x = e.1) || decide (x = e.2)) :=
  ev_op ha hb fun F1 u w _ h1 h2 H1 e1 _ Q k => by
    cases h1
    obtain ⟨p, v1, v2, rfl, hp, q1, q2⟩ := h2
    cases q1; cases q2
    refine .inr (.inl ⟨p, _, rfl, .inr (SqT.of (e1 _ _ hp)), rfl, rfl, k _ F1 H1 (Stp.refl e1) ?_⟩)
    show V.bl _ = V.bl _
    have hb : ∀ a b : Int, (a == b) = decide (b = a) := fun a b => by rw [Bool.eq_iff_iff, beq_iff_eq, decide_eq_true_eq]; exact eq_comm
    congr 1
    simp [inV, eqV, hb]
/-- len(script[:k]) -/
theorem ev_lenCut {s : Scr} {k : Int} (ha : EvX K F G σ ta s) (hb : EvX K F G σ tb k) : EvX K F G σ (tCB (rLenA K) (tCons (tSl (rSlA K) ta tNoPart (tPart tb)) tNil)) ((cutX s.ns none (some k)).length : Int) := by
  refine ev_len (xs := cutX s.ns none (some k)) (EvN.ev fun H e g Q kk => ?_)
  refine ha H e g _ fun u F1 H1 s1 r1 => (px_none : PtX F G σ tNoPart none) H1 (e.trans s1.hh) (g.trans s1.hh) _ fun H2 e2 => (px_int (K := K) hb : PtX F G σ (tPart tb) (some k)) H2 ((e.trans s1.hh).trans e2) ((g.trans s1.hh).trans e2) _ fun H3 e3 => ?_
  obtain ⟨a, rfl, hs⟩ := r1
  have e23 := e2.trans e3
  refine .inl ⟨a, _, rfl, ex_l (s1.fh.trans e23) hs, fun p hp => kk p _ _ _ ((s1.ext e23).own hp) (Ex.dom (s1.hh.trans e23) hp) (fresh_back (s1.fh.trans e23) hp) upd_same ?_⟩
  refine all2_ints.mpr ?_
  unfold cutV cutX
  rw [List.length_map, List.map_take, List.map_drop]
theorem cutX_take {α : Type} (xs : List α) (k : Nat) : cutX xs none (some ((k : Int) + 1)) = xs.take (k + 1) := by
  unfold cutX
  rw [show ((k : Int) + 1) = ((k + 1 : Nat) : Int) by omega, HT.sIx_nat, HT.sIx_none, List.drop_zero, Nat.sub_zero]
  by_cases h : k + 1 ≤ xs.length
  · rw [Nat.min_eq_left h]
  · rw [Nat.min_eq_right (by omega), List.take_length, List.take_of_length_le (by omega)]
/-- four of a list taken apart -/
theorem tgt_l4 {i j k l : Nat} {v : V} {a b c d : Int} {F H : Hp} (r : R K F v [a, b, c, d]) (e : Ex F H) {Q : L2.St → Hp → Prop} (kk : Q ((((σ.set i (some (.int a))).set j (some (.int b))).set k (some (.int c))).set l (some (.int d))) H) :
    gLst K 4 (gCons (gName i) (gCons (gName j) (gCons (gName k) (gCons (gName l) gNil)))) v σ H Q := by
  obtain ⟨p, vs, rfl, hp, hv⟩ := r
  have := all2_ints.mp hv
  subst this
  exact ⟨p, _, rfl, SqL.of (e _ _ hp), rfl, _, _, rfl, _, _, rfl, _, _, rfl, _, [], rfl, rfl, kk⟩
theorem perm_sum {l m : List Int} (p : l.Perm m) : l.sum = m.sum := by
  induction p with
  | nil => rfl
  | cons x _ ih => simp [ih]
  | swap x y l => simp only [List.sum_cons]; omega
  | trans _ _ h1 h2 => exact h1.trans h2
/-- sorted, ints: what it is -/
theorem sort3_mid {a b c : Int} {l : List Int} (hp : l.Perm [a, b, c]) (hs : l.Pairwise (· ≤ ·)) (h : (a ≤ c ∧ b ≤ c ∧ (a = c ∨ b = c)) ∨ (a ≤ b ∧ c ≤ b ∧ (a = b ∨ c = b))) : l[1]? = some (max (max a b) c) := by
  have hl := hp.length_eq
  obtain ⟨x, y, z, rfl⟩ : ∃ x y z, l = [x, y, z] := by
    rcases l with _ | ⟨x, _ | ⟨y, _ | ⟨z, _ | ⟨w, r⟩⟩⟩⟩
    · simp at hl
    · simp at hl
    · simp at hl
    · exact ⟨x, y, z, rfl⟩
    · simp at hl
  simp only [List.pairwise_cons, List.mem_cons, List.not_mem_nil, or_false, forall_eq_or_imp, forall_eq] at hs
  have hsum : x + y + z = a + b + c := by
    have := perm_sum hp
    simp at this
    omega
  have m1 : z ∈ [a, b, c] := hp.mem_iff.mp (by simp)
  have m2 : max (max a b) c ∈ [x, y, z] := hp.symm.mem_iff.mp (by
    simp only [List.mem_cons, List.not_mem_nil, or_false]
    omega)
  have m3 : x ∈ [a, b, c] := hp.mem_iff.mp (by simp)
  have m4 : y ∈ [a, b, c] := hp.mem_iff.mp (by simp)
  have n1 : min (min a b) c ∈ [x, y, z] := hp.symm.mem_iff.mp (by
    simp only [List.mem_cons, List.not_mem_nil, or_false]
    omega)
  simp only [List.mem_cons, List.not_mem_nil, or_false] at m1 m2 m3 m4 n1
  show some y = _
  congr 1
  obtain ⟨⟨h1, h2⟩, h3, _⟩ := hs
  omega
end
theorem ends_nb {es : Tr.Roads} {x : Int} (h : ∀ e ∈ es, e.1 ≠ e.2) : ((es.filter fun e => decide (x = e.1) || decide (x = e.2)).map fun e => e.1 + e.2 - x) = nb es x := by
  induction es with
  | nil => rfl
  | cons e l ih =>
    have ih := ih fun e he => h e (List.mem_cons_of_mem _ he)
    have ne := h e List.mem_cons_self
    unfold nb at ih ⊢
    rw [List.filterMap_cons]
    by_cases h1 : e.1 = x
    · rw [if_pos h1, List.filter_cons_of_pos (by simp [h1]), List.map_cons, ih, show e.1 + e.2 - x = e.2 by omega]
    · by_cases h2 : e.2 = x
      · rw [if_neg h1, if_pos h2, List.filter_cons_of_pos (by simp [h2]), List.map_cons, ih, show e.1 + e.2 - x = e.1 by omega]
      · rw [if_neg h1, if_neg h2, List.filter_cons_of_neg (by simp; exact ⟨fun z => h1 z.symm, fun z => h2 z.symm⟩), ih]
theorem near_ends {n : Int} {es : Tr.Roads} (T : IsTree n es) {x : Int} (hx : hs n x) : ((rng n).filter fun y => decide (dist es x y = 1)) = sortI ((es.filter fun e => decide (x = e.1) || decide (x = e.2)).map fun e => e.1 + e.2 - x) := by
  rw [ends_nb fun e he => Tr.adj_ne T (.inl he)]
  refine sortI_uniq ((List.perm_ext_iff_of_nodup ((rng_nodup n).filter _) (nb_nodup T x)).mpr fun y => ?_) ?_
  · rw [List.mem_filter, mem_rng, decide_eq_true_eq]
    constructor
    · rintro ⟨hy, h⟩
      have a := (Tr.dist_one T hx hy).mp h
      exact nb_mem (Tr.adj_ne T a) a
    · intro h
      have a := mem_nb h
      have hy := (Tr.adj_hs T a).2
      exact ⟨hy, (Tr.dist_one T hx hy).mpr a⟩
  · refine List.Pairwise.filter _ ?_
    unfold rng
    refine List.pairwise_map.mpr (List.pairwise_lt_range.imp fun {a b} h => ?_)
    omega
/-- three ways, four houses: a def that says yes -/
def sp_three (K : PySem.W.Frag) (CV : Addr) : Sp := fun vs H Q _ => ∃ (F : Hp) (v : Vil) (x y z : Int) (w : V), vs = [w, .int x, .int y, .int z] ∧ Ex F H ∧ R K F w v ∧ v.C = CV ∧ hs v.n x ∧ hs v.n y ∧ hs v.n z ∧ ∀ u F' H', Stp F H F' H' → R K F' u true → Q u H'
def sp_four (K : PySem.W.Frag) (CV : Addr) : Sp := fun vs H Q _ => ∃ (F : Hp) (v : Vil) (x y z t : Int) (w s : V), vs = [w, s] ∧ Ex F H ∧ R K F w v ∧ R K F s [x, y, z, t] ∧ v.C = CV ∧ hs v.n x ∧ hs v.n y ∧ hs v.n z ∧ hs v.n t ∧ ∀ u F' H', Stp F H F' H' → R K F' u true → Q u H'
section
variable {K : PySem.W.Frag} {F G H : Hp} {σ : L2.St} {ta tb tc td : TE} {E : XK} {v : Vil} {CV : Addr} {x y z t : Int}
theorem ev_three (ha : EvX K F G σ ta v) (hb : EvX K F G σ tb x) (hc : EvX K F G σ tc y) (hd : EvX K F G σ td z) (hC : v.C = CV) (hx : hs v.n x) (hy : hs v.n y) (hz : hs v.n z) : EvX K F G σ (tCall (sp_three K CV) [] E (tCons ta (tCons tb (tCons tc (tCons td tNil))))) true := fun H e g Q k =>
  ha H e g _ fun w F1 H1 s1 r1 => (hb.up s1.ff) H1 s1.fh (g.trans s1.hh) _ fun u2 F2 H2 s2 r2 => (hc.up (s1.ff.trans s2.ff)) H2 s2.fh ((g.trans s1.hh).trans s2.hh) _ fun u3 F3 H3 s3 r3 =>
    (hd.up ((s1.ff.trans s2.ff).trans s3.ff)) H3 s3.fh (((g.trans s1.hh).trans s2.hh).trans s3.hh) _ fun u4 F4 H4 s4 r4 => by
    cases r2; cases r3; cases r4
    exact ⟨F4, v, x, y, z, w, rfl, s4.fh, Rep.mono (s2.ff.trans (s3.ff.trans s4.ff)) r1, hC, hx, hy, hz, fun u F5 H5 s5 r5 => k u F5 H5 ((((s1.trans s2).trans s3).trans s4).trans s5) r5⟩
theorem ev_four (ha : EvX K F G σ ta v) (hb : EvX K F G σ tb [x, y, z, t]) (hC : v.C = CV) (hx : hs v.n x) (hy : hs v.n y) (hz : hs v.n z) (ht : hs v.n t) : EvX K F G σ (tCall (sp_four K CV) [] E (tCons ta (tCons tb tNil))) true := fun H e g Q k =>
  ha H e g _ fun w F1 H1 s1 r1 => (hb.up s1.ff) H1 s1.fh (g.trans s1.hh) _ fun s F2 H2 s2 r2 => ⟨F2, v, x, y, z, t, w, s, rfl, s2.fh, Rep.mono s2.ff r1, r2, hC, hx, hy, hz, ht, fun u F5 H5 s5 r5 => k u F5 H5 ((s1.trans s2).trans s5) r5⟩
end
end L3

/-! dicts of ints that nobody changes; all tales of a small village -/
namespace L3
open PySem L2
open Rep (R)
open RepD (toD)
open Tr (adj hs IsTree TreeOn dist)
open Evl (Ex ex_l ex_t fresh_back sz_of sz_lt ixN_nat)
/-- a dict of ints, in order -/
structure KT where
  ks : List Int
  f : Int → Int
instance : Rep KT := ⟨fun K F u d => ∃ a, u = .ref a ∧ F a = some (.dK (kvsOf d.ks d.f)), fun e ⟨a, h1, h2⟩ => ⟨a, h1, e _ _ h2⟩⟩
/-- a dict, as asked -/
structure LK where
  look : Int → Option Int
instance : Rep LK := ⟨fun K F u d => ∃ a kvs, u = .ref a ∧ F a = some (.dK kvs) ∧ ∀ x, valV kvs (.inl x) = (d.look x).map V.int, fun e ⟨a, kvs, h1, h2, h3⟩ => ⟨a, kvs, h1, e _ _ h2, h3⟩⟩
def lookL (l : Ch) (x : Int) : Option Int := l.foldl (fun acc p => if p.1 = x then some p.2 else acc) none
def kvsL (l : Ch) : List (Key × V) := l.map fun p => (.inl p.1, .int p.2)
theorem merge_look (l : Ch) (x : Int) : ∀ (kvs : List (Key × V)) (o : Option Int), valV kvs (.inl x) = o.map V.int → valV (mergeK kvs (kvsL l)) (.inl x) = (l.foldl (fun acc p => if p.1 = x then some p.2 else acc) o).map V.int := by
  induction l with
  | nil => exact fun kvs o h => h
  | cons p l ih =>
    intro kvs o h
    show valV (mergeK (putK kvs (.inl p.1) (.int p.2)) (kvsL l)) (.inl x) = _
    rw [ih (putK kvs (.inl p.1) (.int p.2)) (if p.1 = x then some p.2 else o) (by
      rw [valV_put]
      by_cases q : p.1 = x
      · rw [if_pos q, if_pos (by rw [q])]; rfl
      · rw [if_neg q, if_neg (fun z => q (Sum.inl.inj z).symm), h])]
    rfl
theorem lookL_mem {l : Ch} {x p : Int} (h : lookL l x = some p) : (x, p) ∈ l := by
  have key : ∀ (l : Ch) (o : Option Int), l.foldl (fun acc p => if p.1 = x then some p.2 else acc) o = some p → (x, p) ∈ l ∨ o = some p := by
    intro l
    induction l with
    | nil => exact fun o h => .inr h
    | cons q l ih =>
      intro o h
      rcases ih _ h with h | h
      · exact .inl (List.mem_cons_of_mem _ h)
      · dsimp only at h
        by_cases e : q.1 = x
        · rw [if_pos e] at h
          left
          have : q = (x, p) := Prod.ext e (Option.some.inj h)
          rw [this]
          exact List.mem_cons_self
        · rw [if_neg e] at h
          exact .inr h
  rcases key l none h with h | h
  · exact h
  · cases h
theorem lookL_some {l : Ch} {x p : Int} (h : (x, p) ∈ l) : ∃ q, lookL l x = some q := by
  have key : ∀ (l : Ch) (o : Option Int), ((∃ q, o = some q) ∨ ∃ p, (x, p) ∈ l) → ∃ q, l.foldl (fun acc p => if p.1 = x then some p.2 else acc) o = some q := by
    intro l
    induction l with
    | nil =>
      rintro o (h | ⟨p, h⟩)
      · exact h
      · cases h
    | cons r l ih =>
      rintro o h
      show ∃ q, l.foldl _ (if r.1 = x then some r.2 else o) = some q
      refine ih _ ?_
      by_cases e : r.1 = x
      · rw [if_pos e]
        exact .inl ⟨_, rfl⟩
      · rw [if_neg e]
        rcases h with h | ⟨p, h⟩
        · exact .inl h
        · rcases List.mem_cons.mp h with h | h
          · exact absurd (by rw [← h]) e
          · exact .inr ⟨p, h⟩
  exact key l none (.inr ⟨p, h⟩)
/-- all that is new and that nobody changes -/
def grow (F H H' : Hp) : Hp := fun b => if H b = none then H' b else F b
theorem grow_stp {F H H' : Hp} (e : Ex F H) (h : Ex H H') : Stp F H (grow F H H') H' := by
  refine ⟨fun b o hb => ?_, fun b o hb => ?_, h, fun b o hb => ?_⟩
  · unfold grow
    rw [if_neg (fun z => by rw [e b o hb] at z; cases z)]
    exact hb
  · unfold grow at hb
    split at hb
    · exact hb
    · exact h b o (e b o hb)
  · unfold grow
    rw [if_neg (fun z => by rw [hb] at z; cases z)]
theorem grow_new {F H H' : Hp} {b : Addr} (h : H b = none) : grow F H H' b = H' b := by
  unfold grow
  rw [if_pos h]
section
variable {X : Cx}
def rDictP (K : PySem.W.Frag) : List V → Hp → VK → Prop := fun xs H Q => ∃ (a : Addr) (ps : List Addr) (kvs : List (Key × V)), xs = [.ref a] ∧ SqL K H a (ps.map V.ref) ∧ Paired (fun p kv => SqT K H p [kV kv.1, kv.2]) ps kvs ∧ ∀ p, H p = none → Q (.ref p) (upd H p (.dK (mergeK [] kvs)))
theorem k_dictP {K : PySem.W.Frag} (hK : X.K = K) (hc : X.calm = true) : CallR X (.type "dict") (rDictP K) := hK ▸ call_dictP hc
end
section
variable {K : PySem.W.Frag} {F G H : Hp} {σ : L2.St} {ta tb tc td te : TE} {l : Ch}
theorem pairs_at {F H : Hp} (e : Ex F H) : ∀ {vs : List V} {l : Ch}, All2 (R K F) vs l → ∃ ps : List Addr, vs = ps.map V.ref ∧ Paired (fun p kv => SqT K H p [kV kv.1, kv.2]) ps (kvsL l)
  | _, _, .nil => ⟨[], rfl, .nil⟩
  | _, _, .cons h t => by
    obtain ⟨p, v1, v2, rfl, hp, q1, q2⟩ := h
    obtain ⟨ps, h1, h2⟩ := pairs_at e t
    cases q1; cases q2
    exact ⟨p :: ps, by rw [h1]; rfl, .cons (SqT.of (e _ _ hp)) h2⟩
theorem ev_dictL (ha : EvX K F G σ ta l) : EvX K F G σ (tCB (rDictP K) (tCons ta tNil)) (⟨lookL l⟩ : LK) :=
  ev_cb1 ha fun F1 u _ h1 H1 e1 _ Q k => by
    obtain ⟨a, vs, rfl, hs, hv⟩ := h1
    obtain ⟨ps, rfl, hp⟩ := pairs_at (K := K) e1 hv
    exact ⟨a, ps, kvsL l, rfl, SqL.of (e1 _ _ hs), hp, fun p hn => k _ _ _ ((Stp.refl e1).new hn) ⟨p, _, rfl, upd_same, fun x => merge_look l x [] none rfl⟩⟩
theorem merge_kvs : ∀ (ks : List Int) (f : Int → Int) (js : List Int), (js ++ ks).Nodup → mergeK (kvsOf js f) (kvsOf ks f) = kvsOf (js ++ ks) f
  | [], f, js, _ => by rw [List.append_nil]; rfl
  | x :: ks, f, js, h => by
    have hx : x ∉ js := fun z => by
      rw [List.nodup_append] at h
      exact h.2.2 x z x List.mem_cons_self rfl
    show mergeK (putK (kvsOf js f) (.inl x) (.int (f x))) (kvsOf ks f) = _
    have : putK (kvsOf js f) (.inl x) (.int (f x)) = kvsOf (js ++ [x]) f := by
      rw [kvs_put hx]
      unfold kvsOf
      refine List.map_congr_left fun v _ => ?_
      dsimp only
      by_cases q : v = x
      · rw [if_pos q, q]
      · rw [if_neg q]
    rw [this, merge_kvs ks f (js ++ [x]) (by simpa using h)]
    simp
theorem ev_dictK {ks : List Int} {f : Int → Int} (ha : EvX K F G σ ta (ks.map fun x => (x, f x) : Ch)) (hn : ks.Nodup) : EvX K F G σ (tCB (rDictP K) (tCons ta tNil)) (⟨ks, f⟩ : KT) :=
  ev_cb1 ha fun F1 u _ h1 H1 e1 _ Q k => by
    obtain ⟨a, vs, rfl, hs, hv⟩ := h1
    obtain ⟨ps, rfl, hp⟩ := pairs_at (K := K) e1 hv
    have e : kvsL (ks.map fun x => (x, f x)) = kvsOf ks f := by unfold kvsL kvsOf; rw [List.map_map]; rfl
    have m : mergeK [] (kvsOf ks f) = kvsOf ks f := merge_kvs ks f [] (by simpa using hn)
    rw [e] at hp
    exact ⟨a, ps, _, rfl, SqL.of (e1 _ _ hs), hp, fun p hn' => k _ _ _ ((Stp.refl e1).new hn') ⟨p, rfl, by rw [m]; exact upd_same⟩⟩
/-- d.get(y, z) -/
theorem ev_dgetD {d : LK} {y z : Int} (ha : EvX K F G σ ta d) (hb : EvX K F G σ tb y) (hc : EvX K F G σ tc z) : EvX K F G σ (tDGet2 ta tb tc) ((d.look y).getD z) := fun H e g Q k =>
  ha H e g _ fun u F1 H1 s1 r1 => by
    obtain ⟨a, kvs, rfl, h1, h2⟩ := r1
    refine ⟨a, rfl, .inl ⟨kvs, .inl (s1.fh _ _ h1)⟩, (hb.up s1.ff) H1 s1.fh (g.trans s1.hh) _ fun w F2 H2 s2 r2 => (hc.up (s1.ff.trans s2.ff)) H2 s2.fh ((g.trans s1.hh).trans s2.hh) _ fun t F3 H3 s3 r3 => ?_⟩
    cases r2; cases r3
    refine ⟨_, .inl ⟨kvs, .inl y, .inl (s3.fh _ _ (s3.ff _ _ (s2.ff _ _ h1))), rfl, rfl⟩, k _ F3 H3 ((s1.trans s2).trans s3) ?_⟩
    rw [h2]
    cases d.look y <;> rfl
theorem ev_kt {d : KT} {i : Int} (ha : EvX K F G σ ta d) (hb : EvX K F G σ tb i) (hi : i ∈ d.ks) : EvX K F G σ (tIx K ta tb) (d.f i) := fun H e g Q k => .inr (
  ha H e g _ fun v F1 H1 s1 r1 => (hb.up s1.ff) H1 s1.fh (g.trans s1.hh) _ fun u F2 H2 s2 r2 => by
    cases r2
    obtain ⟨a, rfl, h1⟩ := r1
    exact ⟨a, .int (d.f i), rfl, .inl ⟨_, .inl i, .inl (s2.fh _ _ (s2.ff _ _ h1)), rfl, (kvs_some hi).symm⟩, k _ F2 H2 (s1.trans s2) rfl⟩)
/-- {k: v} -/
theorem ev_one {x y : Int} (ha : EvX K F G σ ta x) (hb : EvX K F G σ tb y) : EvX K F G σ (tDisp [(ta, tb)]) (⟨[x], fun _ => y⟩ : KT) := fun H e g Q k p hp => by
  have s0 : Stp F H F (upd H p (.dK [])) := (Stp.refl e).own hp
  have fp : F p = none := fresh_back e hp
  refine ha _ s0.fh (g.trans s0.hh) _ fun v F1 H1 s1 r1 => (hb.up s1.ff) H1 s1.fh ((g.trans s0.hh).trans s1.hh) _ fun w F2 H2 s2 r2 => ?_
  cases r1; cases r2
  have h2 : H2 p = some (.dK []) := s2.hh _ _ (s1.hh _ _ upd_same)
  have f2 : F2 p = none := s2.fno (s1.hh _ _ upd_same) (s1.fno upd_same fp)
  refine ⟨h2, [(.inl x, .int y)], rfl, by simp, ?_⟩
  have s3 := ((s0.trans s1).trans s2).mut (o := .dK (kvsOf [x] fun _ => y)) hp f2
  exact k _ _ _ (s3.frz hp f2 upd_same) ⟨p, rfl, upd_same⟩
/-- list(d.items()) -/
theorem ev_items {d : KT} (ha : EvX K F G σ ta d) : EvX K F G σ (LiI.tListItems ta) (d.ks.map fun x => (x, d.f x) : Ch) := fun H e g Q k =>
  ha H e g _ fun u F1 H1 s1 r1 => by
    obtain ⟨a, rfl, h1⟩ := r1
    refine ⟨a, _, rfl, s1.fh _ _ h1, fun H' p ts hk hp hts hpt hl hpair => ?_⟩
    have s2 : Stp F1 H1 (grow F1 H1 H') H' := grow_stp s1.fh hk
    refine k _ _ _ (s1.trans s2) ⟨p, _, rfl, by rw [grow_new hp]; exact hl, ?_⟩
    have key : ∀ {ts : List Addr} {ks : List Int}, (∀ t ∈ ts, H1 t = none) → Paired (fun (t : Addr) (q : Key × V) => H' t = some (.tup [kV q.1, q.2])) ts (kvsOf ks d.f) → All2 (R K (grow F1 H1 H')) (ts.map V.ref) (ks.map fun x => (x, d.f x) : Ch) := by
      intro ts
      induction ts with
      | nil =>
        intro ks _ h
        cases ks with
        | nil => exact .nil
        | cons x ks => cases h
      | cons t ts ih =>
        intro ks hn h
        cases ks with
        | nil => cases h
        | cons x ks =>
          cases h with
          | cons h1 h2 => exact .cons ⟨t, _, _, rfl, by rw [grow_new (hn t List.mem_cons_self)]; exact h1, rfl, rfl⟩ (ih (fun t ht => hn t (List.mem_cons_of_mem _ ht)) h2)
    exact key hts hpair
end
end L3

/-! all tales of a small village, house by house -/
namespace L3
open PySem L2
open Rep (R)
open RepD (toD)
open Tr (adj hs IsTree TreeOn dist)
open Evl (Ex ex_l ex_t fresh_back sz_of sz_lt ixN_nat)
/-- what was heard of these houses -/
def Kn (l : Ch) (ks : List Int) (g : Int → Int) : Prop := ∀ e ∈ l, e.1 ∈ ks → g e.1 = e.2
/-- reports that do not differ on a house -/
def Con (l : Ch) : Prop := ∀ x p q, (x, p) ∈ l → (x, q) ∈ l → p = q
theorem con_tale {n : Int} {st : List Int} {l : Ch} (h : ∀ e ∈ l, hs n e.1 ∧ stAt st e.1 = e.2) : Con l := fun x p q h1 h2 => by
  have e1 : stAt st x = p := (h _ h1).2
  have e2 : stAt st x = q := (h _ h2).2
  rw [← e1, ← e2]
theorem look_ok {l : Ch} (c : Con l) {x t : Int} : (lookL l x).getD t = t ↔ ∀ p, (x, p) ∈ l → t = p := by
  cases h : lookL l x with
  | none =>
    refine ⟨fun _ p hp => ?_, fun _ => rfl⟩
    obtain ⟨q, hq⟩ := lookL_some hp
    rw [h] at hq
    cases hq
  | some q =>
    have hq := lookL_mem h
    show q = t ↔ _
    exact ⟨fun e p hp => by rw [← e]; exact c x q p hq hp, fun e => (e q hq).symm⟩
structure Part (n : Int) (es : Tr.Roads) (l : Ch) (ks : List Int) (ds : List KT) : Prop where
  ok : ∀ d ∈ ds, d.ks = ks ∧ Put n es ks d.f ∧ Kn l ks d.f
  all : ∀ g, Put n es ks g → Kn l ks g → ∃ d ∈ ds, ∀ x ∈ ks, d.f x = g x
  len : ds.length ≤ 5 ^ ks.length
def addK (d : KT) (y t : Int) : KT := ⟨d.ks ++ [y], fun v => if v = y then t else d.f v⟩
def moreK (es : Tr.Roads) (l : Ch) (h y : Int) (d : KT) : List KT := ((d.f h :: nb es (d.f h)).filter fun t => decide ((lookL l y).getD t = t)).map (addK d y)
section
variable {n : Int} {es : Tr.Roads} (T : IsTree n es) {l : Ch}
include T
theorem part_start (c : Con l) (hn : n ≤ 5) : Part n es l [0] (((rng n).filter fun t => decide ((lookL l 0).getD t = t)).map fun t => (⟨[0], fun _ => t⟩ : KT)) := by
  refine ⟨fun d hd => ?_, fun g P hk => ?_, ?_⟩
  · obtain ⟨t, ht, rfl⟩ := List.mem_map.mp hd
    obtain ⟨h1, h2⟩ := List.mem_filter.mp ht
    have ht := mem_rng.mp h1
    refine ⟨rfl, ⟨fun x _ => ht, fun x hx u hu a => ?_⟩, fun e he hx => ?_⟩
    · dsimp only
      rw [Tr.dist_self T ht]
      omega
    · have hx := List.mem_singleton.mp hx
      exact (look_ok c).mp (of_decide_eq_true h2) e.2 (by rw [← hx]; exact he)
  · refine ⟨⟨[0], fun _ => g 0⟩, List.mem_map.mpr ⟨g 0, List.mem_filter.mpr ⟨mem_rng.mpr (P.rng 0 List.mem_cons_self), decide_eq_true ((look_ok c).mpr fun p hp => hk _ hp List.mem_cons_self)⟩, rfl⟩, fun x hx => ?_⟩
    rw [List.mem_singleton.mp hx]
  · rw [List.length_map]
    refine Nat.le_trans (List.length_filter_le _ _) ?_
    rw [rng_len]
    simp
    omega
theorem more_one (hn : n ≤ 5) (h y : Int) (d : KT) : (moreK es l h y d).length ≤ 5 ∧ (d.f h :: nb es (d.f h)).length ≤ 5 := by
  have h2 := nb_len es (d.f h)
  have h3 := T.len
  have h4 : (d.f h :: nb es (d.f h)).length ≤ 5 := by
    rw [List.length_cons]
    omega
  refine ⟨?_, h4⟩
  unfold moreK
  rw [List.length_map]
  exact Nat.le_trans (List.length_filter_le _ _) h4
theorem more_len (hn : n ≤ 5) {h y : Int} (xs : List KT) : (xs.flatMap (moreK es l h y)).length ≤ 5 * xs.length := by
  induction xs with
  | nil => simp
  | cons d xs ih =>
    have h1 := (more_one T (l := l) hn h y d).1
    rw [List.flatMap_cons, List.length_append, List.length_cons]
    omega
theorem part_step (c : Con l) (hn : n ≤ 5) {s : Int} {t : Nat} {ks : List Int} {f : Int → Int} {ds : List KT} (B : Bfs n es s t ks f) (P : Part n es l ks ds) {h y : Int} (hh : h ∈ ks) (a : adj es h y) (hy : y ∉ ks) :
    Part n es l (ks ++ [y]) (ds.flatMap (moreK es l h y)) := by
  refine ⟨fun d hd => ?_, fun g Pg hk => ?_, ?_⟩
  · obtain ⟨d0, hd0, hm⟩ := List.mem_flatMap.mp hd
    obtain ⟨z, hz, rfl⟩ := List.mem_map.mp hm
    obtain ⟨h1, h2⟩ := List.mem_filter.mp hz
    obtain ⟨k1, k2, k3⟩ := P.ok d0 hd0
    refine ⟨by show d0.ks ++ [y] = _; rw [k1], bfs_put T B k2 hh a hy (List.mem_cons.mp h1), fun e he hx => ?_⟩
    show (if e.1 = y then z else d0.f e.1) = e.2
    by_cases q : e.1 = y
    · rw [if_pos q]
      exact (look_ok c).mp (of_decide_eq_true h2) e.2 (by rw [← q]; exact he)
    · rw [if_neg q]
      refine k3 e he ?_
      rcases List.mem_append.mp hx with hx | hx
      · exact hx
      · exact absurd (List.mem_singleton.mp hx) q
  · have Pg0 : Put n es ks g := ⟨fun x hx => Pg.rng x (List.mem_append_left _ hx), fun x hx u hu ad => Pg.edge x (List.mem_append_left _ hx) u (List.mem_append_left _ hu) ad⟩
    obtain ⟨d, hd, hg⟩ := P.all g Pg0 fun e he hx => hk e he (List.mem_append_left _ hx)
    have hgh := Pg0.rng h hh
    have hgy := Pg.rng y (by simp)
    have e1 := Pg.edge y (by simp) h (List.mem_append_left _ hh) a
    have n0 := Tr.dist_nn T hgy hgh
    have hin : g y ∈ d.f h :: nb es (d.f h) := by
      rw [hg h hh]
      by_cases q : dist es (g y) (g h) = 0
      · rw [(Tr.dist_zero T hgy hgh).mp q]
        exact List.mem_cons_self
      · have a2 := (Tr.dist_one T hgy hgh).mp (by omega)
        exact List.mem_cons_of_mem _ (nb_mem (Tr.adj_ne T a2.symm) a2.symm)
    refine ⟨addK d y (g y), List.mem_flatMap.mpr ⟨d, hd, List.mem_map.mpr ⟨g y, List.mem_filter.mpr ⟨hin, decide_eq_true ((look_ok c).mpr fun p hp => hk _ hp (by simp))⟩, rfl⟩⟩, fun x hx => ?_⟩
    show (if x = y then g y else d.f x) = g x
    by_cases q : x = y
    · rw [if_pos q, q]
    · rw [if_neg q]
      rcases List.mem_append.mp hx with hx | hx
      · exact hg x hx
      · exact absurd (List.mem_singleton.mp hx) q
  · have key := more_len T (l := l) (h := h) (y := y) hn
    refine Nat.le_trans (key ds) ?_
    rw [List.length_append, List.length_singleton, Nat.pow_succ]
    have := P.len
    omega
theorem part_all {ks : List Int} {ds : List KT} (P : Part n es l ks ds) (hall : ∀ x, hs n x → x ∈ ks) (hrng : ∀ x ∈ ks, hs n x) (hl : ∀ e ∈ l, hs n e.1) (st : List Int) : st ∈ ds.map (fun d => (rng n).map d.f) ↔ Tale n es st ∧ ∀ e ∈ l, stAt st e.1 = e.2 := by
  constructor
  · intro h
    obtain ⟨d, hd, rfl⟩ := List.mem_map.mp h
    obtain ⟨_, k2, k3⟩ := P.ok d hd
    exact ⟨put_tale T k2 hall, fun e he => by rw [stAt_map (hl e he)]; exact k3 e he (hall _ (hl e he))⟩
  · rintro ⟨A, h⟩
    obtain ⟨d, hd, hg⟩ := P.all (stAt st) ⟨fun x hx => A.hs (hrng x hx), fun x hx u hu a => A.edge x u a.symm⟩ fun e he hx => h e he
    refine List.mem_map.mpr ⟨d, hd, ?_⟩
    rw [st_map A.len]
    refine List.map_congr_left fun x hx => ?_
    exact hg x (hall x (mem_rng.mp hx))
end
def sp_tales (K : PySem.W.Frag) : Sp := fun vs H Q _ => ∃ (F : Hp) (n : Int) (es : Tr.Roads) (l : Ch) (w u : V), vs = [w, u] ∧ Ex F H ∧ R K F w (doorsL n es) ∧ R K F u l ∧ IsTree n es ∧ n ≤ 5 ∧ l.length ≤ 1000 ∧ Con l ∧ (∀ e ∈ l, hs n e.1) ∧
  ∀ v F' H' (ts : List (List Int)), (∀ st, st ∈ ts ↔ Tale n es st ∧ ∀ e ∈ l, stAt st e.1 = e.2) → ts.length ≤ 3125 → Stp F H F' H' → R K F' v ts → Q v H'
end L3

/-! methods called by keywords; sets of ints -/
namespace L3
open PySem L2 Evl PyProof.Rows
section
variable (P : Program) (w : World) (K : PySem.W.Frag) (mg : Str → Option Value) (base : Heap) (CX : CXT)
structure MCalQ (qual : Str) (st : Stmt) (C : Addr) (k : Nat) (m : Str) (ps : List Str) (sp : Sp) : Prop where
  cl : Cls K C
  ex : ∃ f fd, Meth K C m f ∧ Fun K m qual st f fd ∧ Binds K fd ps [] ∧ FnOk P w K mg base CX k f fd ps sp
end
section
variable {P : Program} {w : World} {K : PySem.W.Frag} {mg : Str → Option Value} {base : Heap} {CX : CXT}
theorem MCalQ.m {C : Addr} {m qual : Str} {st : Stmt} {ps : List Str} {k : Nat} {sp : Sp} (c : MCalQ P w K mg base CX qual st C k m ps sp) : MCal P w K mg base CX C k m ps sp := by
  obtain ⟨f, fd, hm, _, hb, F⟩ := c.ex
  exact ⟨c.cl, f, fd, hm, hb, F⟩
theorem Mt.okq {C : Addr} {m qual : Str} {st : Stmt} {N ps : List Str} {k : Nat} {sp : Sp} (T : Mt K C m qual st ps) (S : FnScope N ps (defScope st)) (len : ∀ vs H Q E, sp vs H Q E → vs.length = ps.length)
    (hbody : ∀ (f : Addr) (cdv : Value) (A : Around) (outer : List Env) (s : Shared) (H : Hp) (vs : List V) (Q : VK) (E : XK), Room k (A.deeper (envOfC qual (defScope st) s.heap.objs.size f cdv)) → sp vs H Q E →
      ∃ t, PSs (cxOf CX0 P w K mg base N qual (defScope st) f cdv A outer s H E).nox (defBody st) t ∧ t { nx := fun _ H' => Q .non H', rt := Q } (start N vs) H) : MCalQ P w K mg base CX0 qual st C (k + 1) m ps sp := by
  obtain ⟨f, fd, hm, F, b⟩ := T.ex
  exact ⟨T.cl, f, fd, hm, F, b, F.ok S len fun cdv A outer s H vs Q E => hbody f cdv A outer s H vs Q E⟩
end
section
variable {X : Cx} {CX : CXT} {C : Addr} {m qual : Str} {st : Stmt} {ps ks : List Str} {k j : Nat} {sp : Sp} {E : XK} {o : Expr} {apos pos : Pos} {ta : TE} {tk : TA} {kws : List Keyword}
/-- how keywords alone bind in a method -/
def KwM (m qual : Str) (st : Stmt) (ps ks : List Str) (ρ : List Value → List Value) : Prop :=
  ∀ (kV doc pm : Value) (an : Option Addr) (cdv ct me : Value) (us : List Value), us.length = ks.length → bindArgs (PySem.W.fnOf m qual (defArgs st) (defBody st) (defScope st) .none kV doc pm an cdv ct) ⟨[me], ks.zip us⟩ = pure (ps.zip (me :: ρ us))
def tMethK (C : Addr) (m : Str) (sp : Sp) (n : Nat) (ρV : List V → List V) (E : XK) (ta : TE) (tk : TA) : TE := fun σ H Q => ta σ H fun x H1 => ∃ a dx fs, x = .ref a ∧ H1 a = some (.ins C dx fs) ∧ fs.lookup m = none ∧ tk σ H1 fun zs H2 => zs.length = n ∧ sp (.ref a :: ρV zs) H2 Q E
theorem pe_kmcal {pl : Sem Bool} {ρ : List Value → List Value} {ρV : List V → List V} (c : MCalQ X.prog X.w X.K X.mg X.base CX qual st C k m ps sp) (hb : KwM m qual st ps ks ρ) (hρ : ∀ {zs : List V} {ws : List Value}, Vals zs ws → Vals (ρV zs) (ρ ws)) (hr : Room j X.A) (hk : k ≤ j) (hx : Passes CX X E)
    (he : PE X o ta) (hkw : PK X kws tk) (hall : (backToKw pos (keywordEach kws X.env)).all (·.1.isSome) = true := by rfl) (hks : (backToKw pos (keywordEach kws X.env)).filterMap (·.1) = ks := by rfl)
    (hpl : ((backTo pos (starEach [] X.env)).any (·.1) || (backToKw pos (keywordEach kws X.env)).any (·.1.isNone)) = false := by rfl)
    (ht : eval (.Call (.Attribute o m apos) [] kws pos) X.env = (do
      let ov ← eval o X.env
      standAt apos.atName
      let (f, first) ← holding [ov] (getMethod ov m pl)
      callWith pos f first (backTo pos (starEach [] X.env)) (backToKw pos (keywordEach kws X.env))) := by rfl) :
    PE X (.Call (.Attribute o m apos) [] kws pos) (tMethK C m sp ks.length ρV E ta tk) := by
  obtain ⟨f, fd, hm, F, _, G⟩ := c.ex
  obtain ⟨oc, od, kV, doc, pm, an, cdv, ct, osl, hfd, lk, hcd⟩ := F.ex
  refine ⟨fun pins s σ H Q I h => ?_⟩
  refine PySem.W.methodCall_KW (pl := pl) (thn (he.run pins s σ H _ I h) fun u s1 ⟨x, H1, I1, rx, a, dx, fs, ex, ea, l, q⟩ => ?_) ht
  subst ex
  obtain rfl : u = Value.ref a := rx
  refine getmeth_ok I1 ea c.cl hm l ?_
  refine PySem.W.callWith_KW0 (first := [.ref a]) (h₀ := X.base) I.ok.mod.kin hm.kp hall (thn (hkw.run pos pins s1 σ H1 _ I1 q) fun ws s2 ⟨zs, H2, I2, rz, hn, q2⟩ => ⟨I2.kIn, ?_⟩) hpl
  rw [hks]
  have r2 : Vals (.ref a :: ρV zs) (.ref a :: ρ ws) := .cons rfl (hρ rz)
  have hz : ws.length = ks.length := by rw [← rz.length]; exact hn
  refine wpAny_call (codeAny_mono (G.run X.A X.stack s2 H2 ⟨[.ref a], ks.zip ws⟩ (.ref a :: ρ ws) (.ref a :: ρV zs) Q E (hr.mono hk) I2.env0 (.of_eq (by rw [hfd]; exact hb kV doc pm an cdv ct (.ref a) ws hz)) r2 q2) fun r s' hq => ?_)
  cases r with
  | error e => exact hx pins σ H2 s2 e s' I2 hq
  | ok fl =>
    cases fl with
    | ret u => exact I2.after hq
    | next => exact False.elim hq
    | brk => exact False.elim hq
    | cont => exact False.elim hq
end
end L3
namespace L3
open PySem L2
open Rep (R)
open RepD (toD)
open Tr (adj hs IsTree TreeOn dist)
open Evl (Ex ex_l ex_t fresh_back sz_of sz_lt ixN_nat)
section
variable {K : PySem.W.Frag} {F G H : Hp} {σ : L2.St} {ta tb tc : TE} {E : XK} {C CV : Addr} {r : Rpt} {β γ δ : Type} [Rep β] [Rep γ] [Rep δ] {y : β} {z : γ}
theorem ev_rmK1 {m : Str} {pre : Rpt → β → Prop} {f : Rpt → β → δ} (ha : EvX K F G σ ta r) (hb : EvX K F G σ tb y) (hC : r.C = C) (hm : NoR m) (hp : pre r y) : EvX K F G σ (tMethK C m (Pu2 K pre f) 1 id E ta (tCons tb tNil)) (f r y) := fun H e g Q k =>
  ha H e g _ fun u F1 H1 s1 r1 => by
    obtain ⟨a, dx, vv, vh, rfl, h2, _⟩ := id r1
    subst hC
    exact ⟨a, dx, _, rfl, s1.fh _ _ h2, rfs_no hm vv vh, (hb.up s1.ff) H1 s1.fh (g.trans s1.hh) _ fun w F2 H2 s2 r2 => ⟨rfl, F2, r, y, _, w, rfl, s2.fh, Rep.mono s2.ff r1, r2, hp, fun u F3 H3 s3 r3 => k u F3 H3 ((s1.trans s2).trans s3) r3⟩⟩
/-- the second first -/
theorem ev_rmK2 {m : Str} {pre : Rpt → β → γ → Prop} {f : Rpt → β → γ → δ} (ha : EvX K F G σ ta r) (hc : EvX K F G σ tc z) (hb : EvX K F G σ tb y) (hC : r.C = C) (hm : NoR m) (hp : pre r y z) : EvX K F G σ (tMethK C m (Pu3 K pre f) 2 List.reverse E ta (tCons tc (tCons tb tNil))) (f r y z) := fun H e g Q k =>
  ha H e g _ fun u F1 H1 s1 r1 => by
    obtain ⟨a, dx, vv, vh, rfl, h2, _⟩ := id r1
    subst hC
    exact ⟨a, dx, _, rfl, s1.fh _ _ h2, rfs_no hm vv vh, (hc.up s1.ff) H1 s1.fh (g.trans s1.hh) _ fun w F2 H2 s2 r2 => (hb.up (s1.ff.trans s2.ff)) H2 s2.fh ((g.trans s1.hh).trans s2.hh) _ fun t F3 H3 s3 r3 =>
      ⟨rfl, F3, r, y, z, _, t, w, rfl, s3.fh, Rep.mono (s2.ff.trans s3.ff) r1, r3, Rep.mono s3.ff r2, hp, fun u F4 H4 s4 r4 => k u F4 H4 (((s1.trans s2).trans s3).trans s4) r4⟩⟩
theorem en_mayRK {x : Int} (ha : EvX K F G σ ta r) (hb : EvX K F G σ tb x) (hC : r.C = C) (hV : r.v.C = CV) (hx : hs r.v.n x) : EvN K F G σ (tMethK C "may_live" (PuL2 K (fun (r : Rpt) (x : Int) => r.C = C ∧ r.v.C = CV ∧ hs r.v.n x) (fun r x => mayE r.v.n r.v.es r.rs x)) 1 id E ta (tCons tb tNil)) (mayE r.v.n r.v.es r.rs x) := fun H e g Q k =>
  ha H e g _ fun u F1 H1 s1 r1 => by
    obtain ⟨a, dx, vv, vh, rfl, h2, _⟩ := id r1
    subst hC
    exact ⟨a, dx, _, rfl, s1.fh _ _ h2, rfs_no (by decide +kernel) vv vh, (hb.up s1.ff) H1 s1.fh (g.trans s1.hh) _ fun w F2 H2 s2 r2 => ⟨rfl, F2, r, x, _, w, rfl, s2.fh, Rep.mono s2.ff r1, r2, ⟨rfl, hV, hx⟩, fun p us F3 H3 s3 n0 n1 h3 r3 => k p us F3 H3 ((s1.trans s2).trans s3) (Ex.dom (s1.hh.trans s2.hh) n0) n1 h3 r3⟩⟩
end
end L3

/-! choices made by a tale -/
namespace L3
open PySem L2
open Rep (R)
open RepD (toD)
open Tr (adj hs IsTree TreeOn dist)
open Evl (Ex ex_l ex_t fresh_back sz_of sz_lt ixN_nat)
/-- choices may be all at once just when one tale makes them all -/
theorem due_tale {n : Int} {es : Tr.Roads} (T : IsTree n es) {l cs : Ch} (hl : ∃ st, Tale n es st ∧ ∀ e ∈ l, hs n e.1 ∧ stAt st e.1 = e.2) (hc : ∀ c ∈ cs, hs n c.1 ∧ hs n c.2) :
    dueB es l cs = true ↔ ∃ st, Tale n es st ∧ (∀ e ∈ l, stAt st e.1 = e.2) ∧ ∀ c ∈ cs, stAt st c.1 = c.2 := by
  constructor
  · intro h
    unfold dueB at h
    rw [List.all_eq_true] at h
    have h2 : ∀ c ∈ cs, ∀ e ∈ l ++ cs, dist es c.2 e.2 ≤ dist es c.1 e.1 := fun c hc e he => of_decide_eq_true (List.all_eq_true.mp (h c hc) e he)
    have key : ∀ ds : Ch, (∀ d ∈ ds, d ∈ cs) → ∃ st, Tale n es st ∧ ∀ e ∈ ds ++ l, hs n e.1 ∧ stAt st e.1 = e.2 := by
      intro ds
      induction ds with
      | nil => exact fun _ => hl
      | cons d ds ih =>
        intro hd
        have ih := ih fun e he => hd e (List.mem_cons_of_mem _ he)
        have hd0 := hd d List.mem_cons_self
        have := may_fits (v := ⟨0, n, es⟩) (l := ds ++ l) (x := d.1) (y := d.2) T ih (hc d hd0).1 ⟨(hc d hd0).2, fun e he => h2 d hd0 e (by
          rcases List.mem_append.mp he with q | q
          · exact List.mem_append_right _ (hd e (List.mem_cons_of_mem _ q))
          · exact List.mem_append_left _ q)⟩
        exact this
    obtain ⟨st, A, q⟩ := key cs fun d hd => hd
    exact ⟨st, A, fun e he => (q e (List.mem_append_right _ he)).2, fun c hc => (q c (List.mem_append_left _ hc)).2⟩
  · rintro ⟨st, A, h1, h2⟩
    obtain ⟨_, _, hr⟩ := hl
    unfold dueB
    rw [List.all_eq_true]
    intro c hcm
    rw [List.all_eq_true]
    intro e he
    rw [decide_eq_true_eq, ← h2 c hcm]
    rcases List.mem_append.mp he with q | q
    · rw [← h1 e q]
      exact tale_short T A (hc c hcm).1 (hr e q).1
    · rw [← h2 e q]
      exact tale_short T A (hc c hcm).1 (hc e q).1
def byTale (cs : Ch) (st : List Int) : Bool := cs.all fun c => decide (stAt st c.1 = c.2)
theorem may_tales {n : Int} {es : Tr.Roads} (T : IsTree n es) {l cs : Ch} {ts : List (List Int)} (hl : ∃ st, Tale n es st ∧ ∀ e ∈ l, hs n e.1 ∧ stAt st e.1 = e.2) (hc : ∀ c ∈ cs, hs n c.1 ∧ hs n c.2) (ht : ∀ st, st ∈ ts ↔ Tale n es st ∧ ∀ e ∈ l, stAt st e.1 = e.2) :
    dueB es l cs = ts.any (byTale cs) := by
  rw [Bool.eq_iff_iff, due_tale T hl hc, List.any_eq_true]
  constructor
  · rintro ⟨st, A, h1, h2⟩
    exact ⟨st, (ht st).mpr ⟨A, h1⟩, List.all_eq_true.mpr fun c hc => decide_eq_true (h2 c hc)⟩
  · rintro ⟨st, h1, h2⟩
    obtain ⟨A, h3⟩ := (ht st).mp h1
    exact ⟨st, A, h3, fun c hc => of_decide_eq_true (List.all_eq_true.mp h2 c hc)⟩
theorem odd_nil {cs : Ch} {st : List Int} : decide (((cs.filter fun c => !decide (stAt st c.1 = c.2)).map fun c => c.1) = []) = byTale cs st := by
  rw [Bool.eq_iff_iff, decide_eq_true_eq, List.map_eq_nil_iff, List.filter_eq_nil_iff]
  unfold byTale
  rw [List.all_eq_true]
  constructor
  · intro h c hc
    have := h c hc
    simpa using this
  · intro h c hc
    have := h c hc
    simpa using this
theorem same_bb (b : Bool) : toD [b, b] = toD [b, b] ∧ (toD [b, b]).depth < 5 ∧ noD (toD [b, b]) = true ∧ dsz (toD [b, b]) ≤ 100000 ∧ (toD [b, b]).canLay0 = true := by
  refine ⟨rfl, ?_, rfl, ?_, Lay.lay _⟩
  · exact Nat.lt_of_le_of_lt (RepD.dep_le [b, b]) (by decide)
  · show dsz (PyData.list _) ≤ _
    simp [dsz, dszAll, RepD.toD]
def sp_wish12 (K : PySem.W.Frag) : Sp := fun vs H Q _ => ∃ (F : Hp) (t g : Addr) (m n : Int) (es : Tr.Roads) (ts : List (List Int)) (v : V), vs = [.ref t, v, .int n] ∧ Ex F H ∧ Deck F H t g m ∧ m ≤ 10 ^ 8 ∧ R K F v ts ∧ 0 < n ∧ n ≤ 60 ∧ ts ≠ [] ∧ ts.length ≤ 3125 ∧ (∀ st ∈ ts, Tale n es st) ∧
  ∀ u F' H' (cs : Ch), (∀ c ∈ cs, hs n c.1 ∧ hs n c.2) → cs.length ≤ 10 → StpM (deckS t g).M F H F' H' → Deck F' H' t g (m + 100) → R K F' u cs → Q u H'
section
variable {K : PySem.W.Frag} {S : Src} {n : Int} {F : Hp} {σ : L2.St} {E : XK} {α : Type} [Rep α] {a : V} {lim : Int} {sp : Sp}
theorem em_drawBig {j jx : Nat} {vv : V} {xs : List α} (h0 : σ[j]? = some (some a)) (hsp : ∀ vs H Q E, SpD S a lim vs H Q E → sp vs H Q E) (hj : σ[jx]? = some (some vv)) (r : R K F vv xs) (hx : 0 < xs.length) (hx2 : xs.length ≤ 100000) (hn : n ≤ lim) :
    EvM K S n (n + 1) F σ (tIx K (tVar jx) (tCall sp [] E (tCons (tVar j) (tCons (tCB (rLenA K) (tCons (tVar jx) tNil)) tNil)))) (fun w : α => w ∈ xs) := by
  have h60 : (100000 : Int) ≤ 10 ^ 60 := by decide
  refine EvM.imp (em_ix (P := fun ys => ys = xs) (P2 := fun _ i => 0 ≤ i ∧ i < (xs.length : Int)) (em_pure (ev_var hj r)) (fun ys e => EvM.imp (em_draw h0 hsp (em_pure (ev_len (ev_var hj r))) hn (fun i h => by subst h; omega)) fun i ⟨z, hz, a, b⟩ => by subst hz; exact ⟨a, b⟩) fun ys i e hi => ?_) fun x ⟨ys, i, e, _, hq⟩ => by subst e; exact List.mem_of_getElem? hq
  subst e
  exact hi
end
section
variable {K : PySem.W.Frag} {S : Src} {n m l : Int} {F H : Hp} {σ : L2.St} {ta tb tc : TE} {E : XK} {a : V} {lim : Int} {sp : Sp}
theorem em_vilN {j : Nat} {b : Int} (hs' : σ[j]? = some (some a)) (hsp : ∀ vs H Q E, VilS K S a lim vs H Q E → sp vs H Q E) (hm : EvM K S n m F σ tb (fun i => i = b)) (hl : m ≤ lim) (h0 : 0 < b) (h1 : b ≤ 40) :
    EvM K S n (m + 1000) F σ (tCall sp [] E (tCons (tVar j) (tCons tb tNil))) (fun es : Tr.Roads => ∃ m, IsTree m es ∧ m ≤ b) := fun F1 H e1 e2 i Q k =>
  ⟨_, hs', hm F1 H e1 e2 i _ fun v x F' H' s i' p' r => by
    subst p'
    exact hsp _ _ _ _ ⟨F', m, x, by rw [show v = V.int x from r]; rfl, s.fh, i', hl, h0, h1, fun u F2 H2 q es T hq s2 i2 r2 => k u es F2 H2 (s.trans s2) i2 ⟨q, T, hq⟩ r2⟩⟩
theorem go_tales {es : Tr.Roads} {l : Ch} {Q : VK} (ha : EvX K F H σ ta (doorsL n es)) (hb : EvX K F H σ tb l) (e : Ex F H) (T : IsTree n es) (hn : n ≤ 5) (hll : l.length ≤ 1000) (hc : Con l) (hl : ∀ e ∈ l, hs n e.1)
    (k : ∀ v F' H' (ts : List (List Int)), (∀ st, st ∈ ts ↔ Tale n es st ∧ ∀ e ∈ l, stAt st e.1 = e.2) → ts.length ≤ 3125 → Stp F H F' H' → R K F' v ts → Q v H') : tCall (sp_tales K) [] E (tCons ta (tCons tb tNil)) σ H Q :=
  ha.go e fun w F1 H1 s1 r1 => (hb.up s1.ff) H1 s1.fh s1.hh _ fun u F2 H2 s2 r2 => ⟨F2, n, es, l, w, u, rfl, s2.fh, Rep.mono s2.ff r1, r2, T, hn, hll, hc, hl, fun v F3 H3 ts h1 h2 s3 r3 => k v F3 H3 ts h1 h2 ((s1.trans s2).trans s3) r3⟩
theorem em_wish12 {t g : Addr} {j : Nat} {es : Tr.Roads} {ts : List (List Int)} (h0 : σ[j]? = some (some (.ref t))) (hb : EvX K F F σ tb ts) (hc : EvX K F F σ tc n) (hm : m ≤ 10 ^ 8) (hpos : 0 < n) (hn : n ≤ 60) (hne : ts ≠ []) (hl : ts.length ≤ 3125) (hts : ∀ st ∈ ts, Tale n es st) :
    EvM K (deckS t g) m (m + 100) F σ (tCall (sp_wish12 K) [] E (tCons (tVar j) (tCons tb (tCons tc tNil)))) (fun cs : Ch => (∀ c ∈ cs, hs n c.1 ∧ hs n c.2) ∧ cs.length ≤ 10) := fun F1 H e1 e2 i Q k =>
  ⟨_, h0, (hb.up e1) H e2 (e1.trans e2) _ fun v F2 H2 s2 r2 => (hc.up (e1.trans s2.ff)) H2 s2.fh ((e1.trans e2).trans s2.hh) _ fun w F3 H3 s3 r3 => by
    cases r3
    have i3 := (deckS t g).stp ((deckS t g).stp i s2) s3
    exact ⟨F3, t, g, m, n, es, ts, v, rfl, s3.fh, i3, hm, Rep.mono s3.ff r2, hpos, hn, hne, hl, hts, fun u F4 H4 cs h1 h2 s4 i4 r4 => k u cs F4 H4 (((s2.trans s3).m).trans s4) i4 ⟨h1, h2⟩ r4⟩⟩
end
end L3

/-! set(xs) of a list of ints, and its members in order -/
namespace L3S
open PySem PySem.Spec PyProof.Rows L2
section
variable {P : Program} {w : World} {A : Around} {E : Value → Shared → Prop} {s : Shared}
/-- the empty set as it is made, and the heap with it -/
def mtSet (w : World) : Obj := { cls := .type "set", dict := none, data := .set #[] 0 (.fresh 0 0 (!w.params.followText "set-order")) }
theorem fill_list {l : Addr} {items : Array Value} (ns : List Int) (hh : A.handled = none) (hl : s.heap.IsList l items) (hit : IntsAre items.toList ns) (hb : ns.length + 1 < scanBound) {R : Result → Shared → Prop}
    (h : ∀ (h' : Heap) (tk c : Nat), SetR w h' s.heap.objs.size (fun j => decide (j ∈ ns)) c → c ≤ ns.length → (∀ b o, s.heap.get? b = some o → h'.get? b = some o) → R (.ok (.ret .none)) { s with heap := h', toks := tk }) :
    codeAny (model P w) A (.builtin "set.update.loop" ⟨[.ref s.heap.objs.size, .ref (s.heap.push (mtSet w)).objs.size], []⟩) R
      { s with heap := (s.heap.push (mtSet w)).push { cls := .type "list_iterator", data := .fields #[.ref l, .int 0 0] } } := by
  have hlS : l < s.heap.objs.size := by obtain ⟨_, e, _⟩ := hl; exact Heap.lt_size e
  have hz : (s.heap.push (mtSet w)).objs.size = s.heap.objs.size + 1 := Heap.size_push ..
  have hl1 : (s.heap.push (mtSet w)).IsList l items := hl.push _
  have hlen : items.size = ns.length := by
    have q := IntsAre.length hit
    rwa [Array.length_toList] at q
  refine set_update_ints ((Walks.list (A := A.in1) (by simp [hh]) _ l (by rw [hz]; exact Nat.ne_of_lt (Nat.lt_succ_of_lt hlS)) items).toS) s.heap.objs.size (by
      rw [hz]
      simp only [List.mem_cons, List.not_mem_nil, or_false, not_or]
      exact ⟨Nat.ne_of_lt (Nat.lt_succ_self _), Nat.ne_of_gt hlS⟩) ns hlen hb (fun i v hv => ?_) (items.size - 0) 0 _ (by omega) (Nat.zero_le _) ⟨⟨_, Heap.get?_push_size _ rfl, rfl, rfl⟩, hl1.push _⟩ ⟨0, Nat.le_refl 0, setR_new_at (Heap.get?_push_of_some _ (Heap.get?_push_size _ rfl))⟩ fun s' c hm hc hS => ?_
  · have hi : i < ns.length := by rw [← hlen]; exact (Array.getElem?_eq_some_iff.mp hv).1
    obtain ⟨t, e⟩ := IntsAre.int_at hit i v (by rw [Array.getElem?_toList]; exact hv)
    refine ⟨ns[i], t, List.getElem?_eq_getElem hi, ?_⟩
    rw [e, List.getD_eq_getElem?_getD, List.getElem?_eq_getElem hi] <;> rfl
  · obtain ⟨h', g2, d2, tk, os2⟩ := s'
    have e1 : g2 = s.gens := hm.gens
    have e2 : d2 = s.drawn := hm.drawn
    have e3 : os2 = s.os := hm.os
    subst e1
    subst e2
    subst e3
    refine h h' tk c hS (by omega) fun b o e => ?_
    have hbl := Heap.lt_size e
    refine hm.heap b o (fun q => ?_) (Heap.get?_push_of_some _ (Heap.get?_push_of_some _ e))
    rw [hz] at q
    simp only [List.mem_cons, List.not_mem_nil, or_false] at q
    rcases q with q | q
    · exact absurd hbl (by rw [q]; exact Nat.lt_irrefl _)
    · exact absurd hbl (by rw [q]; exact Nat.not_lt.mpr (Nat.le_succ _))
/-- set(xs): what the library's rule for a tuple says, for a list -/
theorem set_of_list {l : Addr} {items : Array Value} (ns : List Int) {Q : Value → Shared → Prop} (hh : A.handled = none) (hl : s.heap.IsList l items) (hit : IntsAre items.toList ns) (hb : ns.length + 1 < scanBound)
    (h : ∀ (h' : Heap) (tk c : Nat), SetR w h' s.heap.objs.size (fun j => decide (j ∈ ns)) c → c ≤ ns.length → (∀ b o, s.heap.get? b = some o → h'.get? b = some o) → Q (.ref s.heap.objs.size) { s with heap := h', toks := tk }) :
    wpAny (model P w) A (call (.type "set") [.ref l]) Q E s := by
  obtain ⟨mc, mt, hmro⟩ := F.called_set.mro
  have hmade := F.called_set.made
  have hsub := F.called_set.sub
  have hnot := F.called_set.notType
  have hcan := F.called_set.canCreate
  have hchk := F.typeCall_set_1 (.ref l)
  have hlook := F.called_set.init.lookup
  have hbind := F.called_set.init.bind (.ref s.heap.objs.size)
  have hS : (s.heap.push (mtSet w)).get? s.heap.objs.size = some (mtSet w) := Heap.get?_push_size _ rfl
  have hT : Shared.TypeIs { s with heap := s.heap.push (mtSet w) } (.ref s.heap.objs.size) "set" := ⟨_, hS, rfl⟩
  refine wpAny_call (codeAny_of_tree ?_)
  show wpAny _ _ (callAny (.type "set") _) _ _ _
  refine wpAny_pure ⟨Code.quiet_builtin _ (by decide +kernel), codeAny_builtin F.entry_type_call ?_⟩
  rw [Around.under_plain (weight_type_call_type "set" [.ref l] []) rfl]
  repeat (any_goals (first | assumption | wp_step))
  refine codeAny_mono (code_set_led1 (.ref l) (E := E) (Q₁ := fun v t => v = .ref s.heap.objs.size ∧ t = { s with heap := s.heap.push (mtSet w) }) ⟨rfl, rfl⟩) fun r t hr => ?_
  match r, hr with
  | .error e, hr => exact hr
  | .ok (.ret v), hr =>
    obtain ⟨rfl, rfl⟩ := hr
    repeat (any_goals (first | assumption | wp_step))
    refine codeAny_mono (codeAny_call_builtin (R := wants (fun r t => r = .none ∧ ∃ h' tk c, t = { s with heap := h', toks := tk } ∧ SetR w h' s.heap.objs.size (fun j => decide (j ∈ ns)) c ∧ c ≤ ns.length ∧ (∀ b o, s.heap.get? b = some o → h'.get? b = some o)) E) F.called_set.init.plain F.entry_set_init (check_set_init_1 hT ?_)) fun r t hr => ?_
    · have hl0 := hl
      obtain ⟨⟨_, odict, _, oslots⟩, hol, hcl, nl, hdl⟩ := hl0
      simp only at hcl hdl
      subst hcl; subst hdl
      have hol' := Heap.get?_push_of_some (mtSet w) hol
      have hl1 : (s.heap.push (mtSet w)).IsList l items := ⟨_, hol', rfl, nl, rfl⟩
      have hs1 := F.sub_list_set
      have hs2 := F.sub_list_frozenset
      have hne : (Value.type "list" == Value.type "dict") = false := by decide
      unfold Builtin.«set.__init__» noKeywords Builtin.Frozenset.updateFrom
      generalize hPI : pyIter = PI
      wp_walk
      subst hPI
      refine wpAny_pyIter_list hl1 ?_
      refine wpAny_bind (wpAny_runValue ?_)
      refine fill_list (A := A.in1.in1) ns (by simp [hh]) hl hit hb fun h' tk c hS' hc hk => ?_
      show wpAny _ _ _ _ _ _
      refine wpAny_pure ?_
      show wpAny _ _ (ret Value.none) _ _ _
      exact wpAny_pure ⟨rfl, h', tk, c, rfl, hS', hc, hk⟩
    · match r, hr with
      | .error e, hr => exact hr
      | .ok (.ret v), hr =>
        obtain ⟨rfl, h', tk, c, rfl, hS', hc, hk⟩ := hr
        repeat (any_goals (first | assumption | wp_step))
        exact h _ _ _ hS' hc hk
      | .ok .next, hr => exact hr.elim
      | .ok .brk, hr => exact hr.elim
      | .ok .cont, hr => exact hr.elim
  | .ok .next, hr => exact hr.elim
  | .ok .brk, hr => exact hr.elim
  | .ok .cont, hr => exact hr.elim
end
end L3S
namespace L3
open PySem L2
open Rep (R)
open RepD (toD)
open Tr (adj hs IsTree TreeOn dist)
open Evl (Ex ex_l ex_t fresh_back sz_of sz_lt ixN_nat)
section
variable {X : Cx}
def rSetI (K : PySem.W.Frag) (w : World) : List V → Hp → VK → Prop := fun xs H Q => ∃ (l : Addr) (ns : List Int), xs = [.ref l] ∧ SqL K H l (ns.map V.int) ∧ ns.length ≤ 4000 ∧
  ∀ (p : Addr) (c : Nat), H p = none → (∀ D : List Int, (∀ k ∈ ns, k ∈ D) → c ≤ D.length) → Q (.ref p) (upd H p (SetO w p (fun j => decide (j ∈ ns)) c))
theorem cr_setI (hc : X.calm = true) : CallR X (.type "set") (rSetI X.K X.w) := by
  intro pins s σ H vs us Q I r h
  obtain ⟨l, ns, rfl, hs, hb, q⟩ := h
  obtain ⟨its, rv, hl, _⟩ := I.list hs
  rw [Vals.ref1 r]
  refine L3S.set_of_list ns (I.ok.hd hc) hl.isList rv.ints (by unfold scanBound; omega) fun h' tk c hS _ hk => ?_
  refine ⟨.ref _, upd H s.heap.objs.size (SetO X.w s.heap.objs.size (fun j => decide (j ∈ ns)) c), I.laid (t' := tk) hk (Nat.le_refl _) (setO_new hS), rfl, q _ _ (I.hok.fresh (Nat.le_refl _)) fun D hD => ?_⟩
  obtain ⟨o, es, ep, t, _, _, _, _, nd, hm, _, _, hn, _⟩ := hS
  have := nodup_le _ D nd fun k hk => hD k (of_decide_eq_true ((hm k).mpr hk))
  rw [List.length_map, Array.length_toList, hn] at this
  exact this
theorem k_setI {K : PySem.W.Frag} {w : World} (hK : X.K = K) (hw : X.w = w) (hc : X.calm = true) : CallR X (.type "set") (rSetI K w) := hK ▸ hw ▸ cr_setI hc
theorem k_sortSet {w : World} (hw : X.w = w) (hc : X.calm = true) : CallR X (.builtin "sorted") (rSortedSet w) := hw ▸ cr_sortedSet hc
end
theorem lt_uniq {xs ys : List Int} (hx : xs.Pairwise (· < ·)) (hy : ys.Pairwise (· < ·)) (h : ∀ k, k ∈ xs ↔ k ∈ ys) : xs = ys :=
  List.Perm.eq_of_pairwise (le := (· ≤ ·)) (fun a b _ _ h1 h2 => by omega) (hx.imp fun h => by omega) (hy.imp fun h => by omega)
    ((List.perm_ext_iff_of_nodup (hx.imp fun h => by omega) (hy.imp fun h => by omega)).mpr h)
section
variable {K : PySem.W.Frag} {w : World} {F G H : Hp} {σ : L2.St} {ta : TE} {ns ys : List Int}
/-- sorted(set(xs)) -/
theorem en_sortSet (ha : EvX K F G σ ta ns) (hl : ns.length ≤ 4000) (hs : ys.Pairwise (· < ·)) (hm : ∀ k, k ∈ ys ↔ k ∈ ns) (h64 : ys.length < 64) : EvN K F G σ (tCB (rSortedSet w) (tCons (tCB (rSetI K w) (tCons ta tNil)) tNil)) ys := fun H e g Q k =>
  ha H e g _ fun u F1 H1 s1 r1 => by
    obtain ⟨a, vs, rfl, hsq, hv⟩ := r1
    have := all2_ints.mp hv
    subst this
    refine ⟨a, ns, rfl, SqL.of (s1.fh _ _ hsq), hl, fun p c hp hc => ⟨p, _, c, rfl, upd_same, Nat.lt_of_le_of_lt (hc ys fun k hk => (hm k).mpr hk) h64, fun zs q hz hmz _ hq => ?_⟩⟩
    have e2 : zs = ys := lt_uniq hz hs fun k => by rw [hmz k, decide_eq_true_eq, hm k]
    subst e2
    have s2 := s1.own (o := SetO w p (fun j => decide (j ∈ ns)) c) hp
    have n0 : H1 q = none := Ex.dom (Ex.new hp) hq
    exact k q _ F1 _ (s2.own hq) (Ex.dom s1.hh n0) (fresh_back s1.fh n0) upd_same (all2_ints.mpr rfl)
end
theorem mayE_lt (n : Int) (es : Tr.Roads) (l : Ch) (x : Int) : (mayE n es l x).Pairwise (· < ·) := by
  unfold mayE
  refine List.Pairwise.filter _ ?_
  unfold rng
  exact List.pairwise_map.mpr (List.pairwise_lt_range.imp fun {a b} h => by omega)
/-- where one may live, by all tales -/
theorem may_all {n : Int} {es : Tr.Roads} (T : IsTree n es) {l : Ch} {ts : List (List Int)} (hl : ∃ st, Tale n es st ∧ ∀ e ∈ l, hs n e.1 ∧ stAt st e.1 = e.2) (ht : ∀ st, st ∈ ts ↔ Tale n es st ∧ ∀ e ∈ l, stAt st e.1 = e.2) {x : Int} (hx : hs n x) (p : Int) :
    p ∈ mayE n es l x ↔ p ∈ ts.map fun st => stAt st x := by
  rw [mem_mayE, List.mem_map]
  constructor
  · intro h
    obtain ⟨st, A, q⟩ := may_fits (v := ⟨0, n, es⟩) (l := l) (x := x) (y := p) T hl hx h
    exact ⟨st, (ht st).mpr ⟨A, fun e he => (q e (List.mem_cons_of_mem _ he)).2⟩, (q (x, p) List.mem_cons_self).2⟩
  · rintro ⟨st, h, rfl⟩
    obtain ⟨A, q⟩ := (ht st).mp h
    obtain ⟨_, _, hr⟩ := hl
    exact mem_mayE.mp (tale_may T A (fun e he => ⟨(hr e he).1, q e he⟩) hx)
end L3

/-! how near two live, by all tales -/
namespace L3
open PySem L2
open Rep (R)
open RepD (toD)
open Tr (adj hs IsTree TreeOn dist)
open Evl (Ex ex_l ex_t fresh_back sz_of sz_lt ixN_nat)
theorem rng2_lt (a b : Int) : (rng2 a b).Pairwise (· < ·) := by
  unfold rng2
  exact List.pairwise_map.mpr (List.pairwise_lt_range.imp fun {a b} h => by omega)
theorem rng2_first {a b : Int} (h : a < b) : atI (rng2 a b) 0 = some a := by
  rw [atI_zero, rng2_get (by omega)]
  simp
theorem rng2_last {a b : Int} (h : a < b) : atI (rng2 a b) (-1) = some (b - 1) := by
  have hl : (rng2 a b).length = (b - a).toNat := rng2_len a b
  unfold atI ixN
  rw [if_neg (by decide), if_pos (by rw [hl]; omega)]
  show (rng2 a b)[(-1 + ((rng2 a b).length : Int)).toNat]? = _
  rw [hl, rng2_get (by omega)]
  congr 1
  omega
/-- every way between that two may live from one another is that of one tale -/
theorem near_all_tales {r : Rpt} {CV : Addr} {n : Int} {es : Tr.Roads} (T : IsTree n es) {l : Ch} {ts : List (List Int)} (hV : r.v = ⟨CV, n, held es⟩) (hm : ∀ e, e ∈ r.rs ↔ e ∈ l) {st0 : List Int} (A0 : Tale n es st0) (hl : ∀ e ∈ l, hs n e.1 ∧ stAt st0 e.1 = e.2) (ht : ∀ st, st ∈ ts ↔ Tale n es st ∧ ∀ e ∈ l, stAt st e.1 = e.2) {x z : Int} (hx : hs n x) (hz : hs n z) (v : Int) :
    v ∈ rng2 (nearE2 n es l x z).1 ((nearE2 n es l x z).2 + 1) ↔ v ∈ ts.map fun st => dist es (stAt st x) (stAt st z) := by
  rw [mem_rng2, List.mem_map]
  have hne := near_ne T A0 hl hx hz
  have hle : (nearE2 n es l x z).2 ≤ dist es x z := by
    show min _ _ ≤ _
    omega
  constructor
  · rintro ⟨h1, h2⟩
    obtain ⟨p, q, _, _, hp, hq, hd⟩ := near_pairs T (fun e he => (hl e he).2 ▸ A0.hs (hl e he).1) hne h1 (by omega)
    have hmay := near_may T hV hm hx hz hp hq (by omega)
    rw [may_due hV hm] at hmay
    obtain ⟨st, A, k1, k2⟩ := (due_tale T ⟨st0, A0, hl⟩ (fun c hc => by
      simp only [List.mem_cons, List.not_mem_nil, or_false] at hc
      rcases hc with rfl | rfl
      · exact ⟨hx, hp.1⟩
      · exact ⟨hz, hq.1⟩)).mp hmay
    have e1 : stAt st x = p := k2 (x, p) (by simp)
    have e2 : stAt st z = q := k2 (z, q) (by simp)
    exact ⟨st, (ht st).mpr ⟨A, k1⟩, by rw [e1, e2]; exact hd⟩
  · rintro ⟨st, h, rfl⟩
    obtain ⟨A, q⟩ := (ht st).mp h
    obtain ⟨k1, k2⟩ := near_tale T A (fun e he => ⟨(hl e he).1, q e he⟩) hx hz
    omega
section
variable {K : PySem.W.Frag} {F G H : Hp} {σ : L2.St} {ta tb : TE}
/-- list(range(a, b)) -/
theorem en_rng2L {a b : Int} (ha : EvX K F G σ ta a) (hb : EvX K F G σ tb b) (hn : -1000 ≤ a ∧ a ≤ 1000 ∧ -1000 ≤ b ∧ b ≤ 1000) : EvN K F G σ (tLstRg (tRg2 ta tb)) (rng2 a b) := fun H e g Q k =>
  ha H e g _ fun u F1 H1 s1 h1 => (hb.up s1.ff) H1 s1.fh (g.trans s1.hh) _ fun w F2 H2 s2 h2 => by
    cases h1; cases h2
    have s12 := s1.trans s2
    refine ⟨a, b, rfl, rfl, ⟨by omega, by omega, by omega, by omega, by omega⟩, fun l hl => k l _ _ _ (s12.own hl) (Ex.dom s12.hh hl) (fresh_back s12.fh hl) upd_same ?_⟩
    refine all2_ints.mpr ?_
    simp [rgV, rng2]
end
end L3

/-! all tales, house by house in an order that tells who stands ahead (k18) -/
namespace L3
open PySem L2
open Rep (R)
open RepD (toD)
open Tr (adj hs IsTree TreeOn dist)
open Evl (Ex ex_l ex_t fresh_back sz_of sz_lt ixN_nat)
structure PartO (n : Int) (es : Tr.Roads) (ks : List Int) (ds : List KT) : Prop where
  ok : ∀ d ∈ ds, d.ks = ks ∧ Put n es ks d.f
  all : ∀ g, Put n es ks g → ∃ d ∈ ds, ∀ x ∈ ks, d.f x = g x
  len : ds.length ≤ 5 ^ ks.length
theorem partO_start (n : Int) (es : Tr.Roads) (f : Int → Int) : PartO n es [] [⟨[], f⟩] :=
  ⟨fun d hd => by
    rw [List.mem_singleton.mp hd]
    exact ⟨rfl, ⟨fun x hx => absurd hx (by simp), fun x hx => absurd hx (by simp)⟩⟩, fun g _ => ⟨_, List.mem_cons_self, fun x hx => absurd hx (by simp)⟩, by simp⟩
/-- where the next one may live -/
noncomputable def someO (n : Int) (es : Tr.Roads) (ah : List Int) (d : KT) : List Int := (rng n).filter fun k => decide (ah = []) || decide (dist es k (d.f (ah.headD 0)) < 2)
noncomputable def moreO (n : Int) (es : Tr.Roads) (h : Int) (ah : List Int) (d : KT) : List KT := (someO n es ah d).map (addK d h)
theorem partO_step {n : Int} {es : Tr.Roads} (T : IsTree n es) (hn : n ≤ 5) {ks : List Int} {ds : List KT} (P : PartO n es ks ds) {h : Int} (hh : h ∉ ks) {ah : List Int} (ha : (ah = [] ∧ ∀ u ∈ ks, ¬ adj es u h) ∨ (ah ≠ [] ∧ ah.headD 0 ∈ ks ∧ adj es (ah.headD 0) h ∧ ∀ u ∈ ks, adj es u h → u = ah.headD 0)) :
    PartO n es (ks ++ [h]) (ds.flatMap (moreO n es h ah)) := by
  refine ⟨fun d hd => ?_, fun g Pg => ?_, ?_⟩
  · obtain ⟨d0, hd0, hm⟩ := List.mem_flatMap.mp hd
    obtain ⟨z, hz, rfl⟩ := List.mem_map.mp hm
    obtain ⟨h1, h2⟩ := List.mem_filter.mp hz
    obtain ⟨k1, k2⟩ := P.ok d0 hd0
    refine ⟨by show d0.ks ++ [h] = _; rw [k1], put_add T k2 hh (mem_rng.mp h1) fun u hu a => ?_⟩
    rcases ha with ⟨_, q⟩ | ⟨q0, q1, q2, q3⟩
    · exact absurd a (q u hu)
    · rw [q3 u hu a]
      simp only [Bool.or_eq_true, decide_eq_true_eq] at h2
      rcases h2 with h2 | h2
      · exact absurd h2 q0
      · omega
  · have Pg0 : Put n es ks g := ⟨fun x hx => Pg.rng x (List.mem_append_left _ hx), fun x hx u hu ad => Pg.edge x (List.mem_append_left _ hx) u (List.mem_append_left _ hu) ad⟩
    obtain ⟨d, hd, hg⟩ := P.all g Pg0
    have hgy := Pg.rng h (by simp)
    refine ⟨addK d h (g h), List.mem_flatMap.mpr ⟨d, hd, List.mem_map.mpr ⟨g h, List.mem_filter.mpr ⟨mem_rng.mpr hgy, ?_⟩, rfl⟩⟩, fun x hx => ?_⟩
    · simp only [Bool.or_eq_true, decide_eq_true_eq]
      rcases ha with ⟨q, _⟩ | ⟨q0, q1, q2, q3⟩
      · exact .inl q
      · right
        rw [hg _ q1]
        have := Pg.edge h (by simp) _ (List.mem_append_left _ q1) q2
        omega
    · show (if x = h then g h else d.f x) = g x
      by_cases q : x = h
      · rw [if_pos q, q]
      · rw [if_neg q]
        rcases List.mem_append.mp hx with hx | hx
        · exact hg x hx
        · exact absurd (List.mem_singleton.mp hx) q
  · have key : ∀ xs : List KT, (xs.flatMap (moreO n es h ah)).length ≤ 5 * xs.length := by
      intro xs
      induction xs with
      | nil => simp
      | cons d xs ih =>
        have h1 : (moreO n es h ah d).length ≤ 5 := by
          unfold moreO someO
          rw [List.length_map]
          refine Nat.le_trans (List.length_filter_le _ _) ?_
          rw [rng_len]
          omega
        rw [List.flatMap_cons, List.length_append, List.length_cons]
        omega
    refine Nat.le_trans (key ds) ?_
    rw [List.length_append, List.length_singleton, Nat.pow_succ]
    have := P.len
    omega
/-- in a root's order who stands ahead is the one neighbour that came first -/
theorem ord_step {n : Int} {es : Tr.Roads} (T : IsTree n es) {s : Int} (hS : hs n s) {i : Nat} {p : Int × Int} (hi : (ordP n es s)[i]? = some p) :
    (ahd n es s p = [] ∧ ∀ u ∈ ((ordP n es s).take i).map Prod.snd, ¬ adj es u p.2) ∨ (ahd n es s p ≠ [] ∧ (ahd n es s p).headD 0 ∈ ((ordP n es s).take i).map Prod.snd ∧ adj es ((ahd n es s p).headD 0) p.2 ∧ ∀ u ∈ ((ordP n es s).take i).map Prod.snd, adj es u p.2 → u = (ahd n es s p).headD 0) := by
  have hpm := List.mem_of_getElem? hi
  obtain ⟨hp, hd⟩ := ordP_mem hpm
  have early : ∀ u ∈ ((ordP n es s).take i).map Prod.snd, adj es u p.2 → u ∈ ahd n es s p := fun u hu a => by
    obtain ⟨q, hq, rfl⟩ := List.mem_map.mp hu
    obtain ⟨j, hj, e⟩ := List.mem_iff_getElem.mp hq
    rw [List.length_take] at hj
    rw [List.getElem_take] at e
    have hqj : (ordP n es s)[j]? = some q := by rw [List.getElem?_eq_getElem (by omega), e]
    obtain ⟨hqn, hqd⟩ := ordP_mem (List.mem_of_getElem? hqj)
    have hle := ordP_le hi hqj (by omega)
    refine (ahd_mem T hS hpm).mpr ⟨a, ?_⟩
    rcases dist_edge T hS a with r | r <;> omega
  by_cases h : ahd n es s p = []
  · exact .inl ⟨h, fun u hu a => by
      have := early u hu a
      rw [h] at this
      cases this⟩
  · have hm : (ahd n es s p).headD 0 ∈ ahd n es s p := hd_mem h
    obtain ⟨a, e⟩ := (ahd_mem T hS hpm).mp hm
    have hh := (Tr.adj_hs T a).1
    obtain ⟨j, hj, ej⟩ := ordP_ahead hi hh (by omega)
    refine .inr ⟨h, List.mem_map.mpr ⟨_, List.mem_of_getElem? (i := j) (by rw [List.getElem?_take_of_lt hj]; exact ej), rfl⟩, a, fun u hu au => ?_⟩
    obtain ⟨b, eb⟩ := (ahd_mem T hS hpm).mp (early u hu au)
    exact parent_uniq T hS (Tr.adj_hs T b).1 hh b a (by omega) (by omega)
def sp_talesO (K : PySem.W.Frag) : Sp := fun vs H Q _ => ∃ (F : Hp) (n r : Int) (es : Tr.Roads) (w o : V), vs = [w, o] ∧ Ex F H ∧ R K F w (tab n (dist es)) ∧ R K F o (ordL n es r) ∧ IsTree n es ∧ n ≤ 5 ∧ hs n r ∧
  ∀ v F' H' (ts : List (List Int)), (∀ st, st ∈ ts ↔ Tale n es st) → ts.length ≤ 3125 → Stp F H F' H' → R K F' v ts → Q v H'
theorem partO_all {n : Int} {es : Tr.Roads} (T : IsTree n es) {ks : List Int} {ds : List KT} (P : PartO n es ks ds) (hall : ∀ x, hs n x → x ∈ ks) (hrng : ∀ x ∈ ks, hs n x) (st : List Int) : st ∈ ds.map (fun d => (rng n).map d.f) ↔ Tale n es st := by
  constructor
  · intro h
    obtain ⟨d, hd, rfl⟩ := List.mem_map.mp h
    exact put_tale T (P.ok d hd).2 hall
  · intro A
    obtain ⟨d, hd, hg⟩ := P.all (stAt st) ⟨fun x hx => A.hs (hrng x hx), fun x hx u hu a => A.edge x u a.symm⟩
    refine List.mem_map.mpr ⟨d, hd, ?_⟩
    rw [st_map A.len]
    refine List.map_congr_left fun x hx => ?_
    exact hg x (hall x (mem_rng.mp hx))
section
variable {K : PySem.W.Frag} {F G H : Hp} {σ : L2.St}
/-- {} that nobody changes -/
theorem ev_mtK {f : Int → Int} : EvX K F G σ tDNewK (⟨[], f⟩ : KT) := fun H e g Q k p hp => k _ _ _ ((Stp.refl e).new (o := .dK []) hp) ⟨p, rfl, upd_same⟩
end
theorem moreO_len {n : Int} (hn : n ≤ 5) (es : Tr.Roads) {h : Int} {ah : List Int} : ∀ xs : List KT, (xs.flatMap (moreO n es h ah)).length ≤ 5 * xs.length
  | [] => by simp
  | d :: xs => by
    have ih := moreO_len hn es (h := h) (ah := ah) xs
    have h1 : (moreO n es h ah d).length ≤ 5 := by
      unfold moreO someO
      rw [List.length_map]
      refine Nat.le_trans (List.length_filter_le _ _) ?_
      rw [rng_len]
      omega
    rw [List.flatMap_cons, List.length_append, List.length_cons]
    omega
end L3

/-! the least over all tales that fit (k18) -/
namespace L3
open PySem L2
open Rep (R)
open RepD (toD)
open Tr (adj hs IsTree TreeOn dist)
open Evl (Ex ex_l ex_t fresh_back sz_of sz_lt ixN_nat)
section
variable {n : Int} {es : Tr.Roads} (T : IsTree n es) {l : Ch} (F : ∃ st, Tale n es st ∧ ∀ e ∈ l, hs n e.1 ∧ stAt st e.1 = e.2) {ts : List (List Int)} (ht : ∀ st, st ∈ ts ↔ Tale n es st ∧ ∀ e ∈ l, stAt st e.1 = e.2)
include T F ht
theorem goal_in {t : Int} (hT : hs n t) : goalE n es l t ∈ ts := (ht _).mpr ⟨goal_tale T F hT, fun e he => goal_fits T F hT he⟩
theorem lazy_in : lazyE n es l ∈ ts := (ht _).mpr ⟨lazy_tale T F, fun e he => lazy_fits T F he⟩
theorem least_all {x t : Int} (hx : hs n x) (hT : hs n t) : minL (ts.map fun st => dist es t (stAt st x)) = lackL es l t x := by
  symm
  refine minL_uniq (List.mem_map.mpr ⟨goalE n es l t, goal_in T F ht hT, ?_⟩) fun y hy => ?_
  · unfold goalE
    rw [stAt_map hx]
    exact (near_ok T F hx hT).2
  · obtain ⟨st, hst, rfl⟩ := List.mem_map.mp hy
    obtain ⟨A, q⟩ := (ht st).mp hst
    have hr := F.choose_spec.2
    exact may_far T F hx hT (mem_mayE.mp (tale_may T A (fun e he => ⟨(hr e he).1, q e he⟩) hx))
theorem lazy_least {x : Int} (hx : hs n x) : dist es x (stAt (lazyE n es l) x) = lackL es l x x := by
  unfold lazyE
  rw [stAt_map hx]
  exact (near_ok T F hx hx).2
theorem goal_least {x t : Int} (hx : hs n x) (hT : hs n t) : dist es t (stAt (goalE n es l t) x) = lackL es l t x := by
  unfold goalE
  rw [stAt_map hx]
  exact (near_ok T F hx hT).2
end
theorem leastR {CR CV : Addr} {n : Int} {es : Tr.Roads} {l : Ch} (x : Int) : leastM ⟨CR, ⟨CV, n, held es⟩, sortP l⟩ x = lackL es l x x := by
  have : leastM ⟨CR, ⟨CV, n, held es⟩, sortP l⟩ x = lackL es (sortP l) x x := by
    unfold leastM lackL
    simp only [dist_held]
  rw [this]
  exact lackL_mems fun e => mem_sortP
section
variable {K : PySem.W.Frag} {p : Addr} {F : Hp} {σ : L2.St} {tb : TE} {E E2 : XK} {j n m : Int} {w : V} {es : Tr.Roads}
theorem em_drawnN {jp : Nat} {b : Int} (hs' : σ[jp]? = some (some (.ref p))) (hm : EvM K (potS p) n m F σ tb (fun i => i = b)) (hl : m ≤ 10 ^ 8) (h0 : 0 < b) (h1 : b ≤ 40) :
    EvM K (potS p) n (m + 1000) F σ (tCall (sp_drawn K) [] E (tCons (tVar jp) (tCons tb tNil))) (fun es : Tr.Roads => ∃ m, IsTree m es ∧ m ≤ b) := fun F1 H e1 e2 i Q k =>
  ⟨_, hs', hm F1 H e1 e2 i _ fun v x F' H' s i' p' r => by
    subst p'
    exact ⟨F', p, m, x, by rw [show v = V.int x from r]; rfl, s.fh, i', hl, h0, h1, fun u F2 H2 q es T hq s2 i2 r2 => k u es F2 H2 (s.trans s2) i2 ⟨q, T, hq⟩ r2⟩⟩
theorem em_talesO {jp j1 : Nat} (h0 : σ[jp]? = some (some (.ref p))) (h1 : σ[j1]? = some (some w)) (r : R K F w (tab n (dist es))) (T : IsTree n es) (hn : n ≤ 5) (hm : m ≤ 3 * 10 ^ 8) :
    EvM K (potS p) m (m + 1) F σ (tCall (sp_talesO K) [] E (tCons (tVar j1) (tCons (tCall (sp_order K) [] E2 (tCons (tVar jp) (tCons (tVar j1) tNil))) tNil))) (fun ts : List (List Int) => (∀ st, st ∈ ts ↔ Tale n es st) ∧ ts.length ≤ 3125) := fun F1 H e1 e2 i Q k =>
  ⟨_, h1, _, h0, _, h1, F1, p, m, n, es, w, rfl, e2, i, hm, Rep.mono e1 r, T, by omega, fun v F2 H2 s hS s2 i2 r2 =>
    ⟨F2, n, s, es, w, v, rfl, s2.fh, Rep.mono (e1.trans s2.ff) r, r2, T, hn, hS, fun u F3 H3 ts h1 h2 s3 r3 => k u ts F3 H3 (s2.trans s3.m) ((potS p).stp i2 s3) ⟨h1, h2⟩ r3⟩⟩
end
end L3

/-! == and != by an own __eq__ -/
namespace PySem.W
open PySem PySem.Calls PyProof.Rows Builtin
section
variable {prog : Program} {w : World} {A : Around} {E : Value → Shared → Prop} {s : Shared} {K : Frag} {x C L f : Addr} {h₀ : Heap} {m : Str → Option Value} {ox : Obj} {od : Option Obj} {b tb : Value}
theorem ne_entry (X : K.In s.heap) (I : InstAt s.heap x ox C od) (he : findIn K (.ref C) "__eq__" = some (some (.ref f))) (hf : isFn K (.ref f) = true) (hu : A.units < cLine) {Q : Fin → Shared → Prop}
    (h : wpAny (model prog w) A (call (.ref f) [.ref x, b]) (fun v s' => ∃ c, v = .bool c ∧ Q (.done (.ret (.bool (!c)))) s') E s) :
    wpAny (model prog w) A (Builtin.«object.__ne__» ⟨[.ref x, b], []⟩) Q E s := by
  unfold Builtin.«object.__ne__»
  repeat (first
    | with_reducible refine wpAny_cRoomFor hu ?_
    | (refine wpAny_bind (m := callSpecialIfBound? (.ref x) (Str.ofString "__eq__") [b])
        (ifBound_K X I he hf (wpAny_mono h (fun r s' hr => by
          obtain ⟨c, rfl, hq⟩ := hr
          repeat (first | exact hq | exact wpAny_pure hq | exact wpAny_truthy_bool hq | (refine wpAny_bind (m := truthy (.bool _)) (wpAny_truthy_bool ?_)) | wp_step)) fun _ _ e => e)))
    | wp_step)
theorem ne_K {Q : Value → Shared → Prop} (hu : A.units + 1 < cLine) (FF : Fr h₀ L s.heap m) (X₀ : K.In h₀) (I : InstAt s.heap x ox C od) (hb : Looks (model prog w) s.heap (typeOf b) tb) (hn : notFirst K C tb = true)
    (hne : findIn K (.ref C) "__ne__" = some (some (.builtin "object.__ne__"))) (hm : mroIn K C (.type "object") = some true) (hs : findIn K (.ref C) "__eq__" = some (some (.ref f))) (hf : isFn K (.ref f) = true)
    (h : wpAny (model prog w) A.in1 (call (.ref f) [.ref x, b]) (fun v s' => ∃ c, v = .bool c ∧ Q (.bool (!c)) s') E s) : wpAny (model prog w) A (richCompare .NotEq (.ref x) b) Q E s := by
  have X := X₀.keeps FF.keep
  have hin : Looks (model prog w) s.heap (isInstance (.ref x) (.type "object")) true := I.type.andThen (looks_mroIn X hm)
  have hcall : wpAny (model prog w) A (call (.builtin "object.__ne__") ([.ref x] ++ [b])) (fun v s' => v ≠ .notImplemented ∧ Q v s') E s :=
    wpAny_call (codeAny_call_builtin F.cmp_object.ne.plain F.cmpEntry_ne (check_slot F.cmpKind_ne F.cmpSplit_ne hin (F.cmpArgs_ne _ _) (ne_entry (A := A.in1) X I hs hf hu (wpAny_mono h (fun v s' hv => by
      obtain ⟨c, rfl, q⟩ := hv
      exact ⟨c, rfl, (fun z => nomatch z), q⟩) fun _ _ e => e))))
  have one : wpAny (model prog w) A (tryCompare (.ref x) "__ne__" b) (fun r s' => ∃ v, r = some v ∧ Q v s') E s := by
    unfold tryCompare
    refine wpAny_bind ?_
    simp only [callSpecialIfBound?, bindSpecialIfBound?]
    refine wpAny_holding (wpAny_bind (wpAny_bind (wpAny_bind (I.type.here ((looks_findIn X hne).here ?_)))))
    simp only [F.cmp_object.ne.bind]
    refine wpAny_bind (wpAny_askSetting (wpAny_ite ?_))
    have fin : ∀ {Q' : Option Value → Shared → Prop}, (∀ v s', v ≠ .notImplemented → Q v s' → Q' (some v) s') → wpAny (model prog w) A (call (.builtin "object.__ne__") ([.ref x] ++ [b]) >>= fun v => pure (some v)) Q' E s :=
      fun hQ => wpAny_bind (wpAny_mono hcall (fun v s' h' => wpAny_pure (hQ v s' h'.1 h'.2)) fun _ _ h' => h')
    split
    · refine wpAny_bind (wpAny_pure (wpAny_pure (fin fun v s' hv q => ?_)))
      cases v <;> first | exact (hv rfl).elim | exact wpAny_pure ⟨_, rfl, q⟩
    · refine wpAny_tryCatch (wpAny_bind (wpAny_pure (wpAny_pure (fin fun v s' hv q => ?_))))
      cases v <;> first | exact (hv rfl).elim | exact wpAny_pure ⟨_, rfl, q⟩
  unfold richCompare
  simp only [oneThing_ref]
  refine wpAny_holding (wpAny_bind (wpAny_cRoomFor (Nat.lt_of_succ_lt hu) ?_))
  refine wpAny_bind (I.type.here (wpAny_bind (hb.here ?_)))
  rw [cmpInfo_NotEq]
  dsimp only
  split
  · rename_i q
    have e : subIn K tb (.ref C) = some false := by
      rcases Bool.or_eq_true_iff.mp hn with e | e
      · rw [beq_iff_eq.mp e] at q; simp at q
      · exact beq_iff_eq.mp e
    refine wpAny_bind ((looks_subIn X e).here ?_)
    simp only [Bool.false_eq_true, if_false]
    refine wpAny_bind (wpAny_mono one (fun r s' z => ?_) fun _ _ e => e)
    obtain ⟨v, rfl, hq⟩ := z
    exact wpAny_pure hq
  · refine wpAny_bind (wpAny_pure ?_)
    simp only [Bool.false_eq_true, if_false]
    refine wpAny_bind (wpAny_mono one (fun r s' z => ?_) fun _ _ e => e)
    obtain ⟨v, rfl, hq⟩ := z
    exact wpAny_pure hq
end
end PySem.W
namespace L3
open PySem PySem.Spec PyProof.Rows L2
open Rep (R)
open RepD (toD)
open Evl (Ex ex_l ex_t fresh_back sz_of sz_lt ixN_nat)
theorem tyof_up {K : PySem.W.Frag} {F H : Hp} {v : V} {t : Value} (e : Ex F H) (h : TyOf K F v t) : TyOf K H v t := by
  cases h with
  | non => exact .non
  | bl x => exact .bl x
  | int i => exact .int i
  | str x => exact .str x
  | flt x => exact .flt x
  | lst h => exact .lst (e _ _ h)
  | frz h => exact .frz (e _ _ h)
  | tup h => exact .tup (e _ _ h)
  | dK h => exact .dK (e _ _ h)
  | dT h => exact .dT (e _ _ h)
  | ins h cl ha hn htk hm => exact .ins (e _ _ h) cl ha hn htk hm
theorem tyx_up {K : PySem.W.Frag} {F H : Hp} {v : V} {t : Value} (e : Ex F H) (h : TyX K F v t) : TyX K H v t := by
  cases h with
  | base h => exact .base (tyof_up e h)
  | byt b => exact .byt b
  | set h => exact .set (e _ _ h)
  | kList h c => exact .kList h c
  | kTuple h c => exact .kTuple h c
  | kDict h c => exact .kDict h c
  | fTuple h => exact .fTuple (e _ _ h)
  | fDict h => exact .fDict (e _ _ h)
/-- a class of the text, of which instances are compared and asked for -/
structure InsC (K : PySem.W.Frag) (mg : Str → Option Value) (x : Str) (C : Addr) : Prop where
  at_ : mg x = some (.ref C)
  cl : Cls K C
  isC : (PySem.W.clsIn K C).isSome = true
  ty : PySem.W.typeIn K (.ref C) = some (.type "type")
  ha : PySem.W.findIn K (.ref C) "__class__" = some (some (.builtin "object.__class__"))
  hn : PySem.W.specialIn K (.builtin "object.__class__") "__get__" = some (some (.builtin "getset_descriptor.__get__"))
  htk : PySem.W.takesIn K (.builtin "object.__class__") = some true
  hm : PySem.W.mroIn K C (.type "object") = some true
  ne : PySem.W.findIn K (.ref C) "__ne__" = some (some (.builtin "object.__ne__"))
theorem insc_of {K : PySem.W.Frag} {mg : Str → Option Value} {x : Str} {C : Addr} (h1 : mg x = some (.ref C)) (h2 : Cls K C) (h3 : PySem.W.typeIn K (.ref C) = some (.type "type")) (h4 : PySem.W.findIn K (.ref C) "__class__" = some (some (.builtin "object.__class__")))
    (h5 : PySem.W.specialIn K (.builtin "object.__class__") "__get__" = some (some (.builtin "getset_descriptor.__get__"))) (h6 : PySem.W.takesIn K (.builtin "object.__class__") = some true) (h7 : PySem.W.mroIn K C (.type "object") = some true)
    (h8 : PySem.W.findIn K (.ref C) "__ne__" = some (some (.builtin "object.__ne__"))) : InsC K mg x C :=
  ⟨h1, h2, by obtain ⟨cd, e, _⟩ := PySem.W.any_some h2.hd; rw [e]; rfl, h3, h4, h5, h6, h7, h8⟩
section
variable {K : PySem.W.Frag} {mg : Str → Option Value} {x : Str} {C D : Addr}
theorem InsC.tyx {F : Hp} {a dx : Addr} {fs : List (Str × V)} (c : InsC K mg x C) (h : F a = some (.ins C dx fs)) : TyX K F (.ref a) (.ref C) := .base (.ins h c.cl c.ha c.hn c.htk c.hm)
theorem InsC.self (c : InsC K mg x C) : PySem.W.kitOne K (.ref C) (.ref C) = some true := by
  unfold PySem.W.kitOne
  rw [if_pos (by simp)]
theorem InsC.kit {t : Value} {b : Bool} (c : InsC K mg x C) (h : PySem.W.subIn K t (.ref C) = some b) (hne : t ≠ .ref C) : PySem.W.kitOne K t (.ref C) = some b := by
  unfold PySem.W.kitOne
  rw [if_neg (fun e => hne (beq_iff_eq.mp e))]
  show (if ((PySem.W.clsIn K C).isSome && PySem.W.typeIn K (.ref C) == some (.type "type")) = true then PySem.W.subIn K t (.ref C) else none) = some b
  rw [if_pos (by rw [c.isC, c.ty]; rfl), h]
/-- a built-in type is below no class of the text -/
theorem sub_ty {T : String} (h : (PySem.fastBuiltinMro T).map (·.all fun v => match v with | .ref _ => false | _ => true) = some true) : PySem.W.subIn K (.type T) (.ref C) = some false := by
  obtain ⟨l, a, b⟩ := Option.map_eq_some_iff.mp h
  show (PySem.fastBuiltinMro T).map (·.contains (Value.ref C)) = some false
  rw [a]
  show some (l.contains (Value.ref C)) = some false
  congr 1
  rw [Bool.eq_false_iff]
  intro z
  have hz := List.contains_iff_mem.mp z
  have := List.all_eq_true.mp b _ hz
  cases this
theorem nf_self : PySem.W.notFirst K C (.ref C) = true := by simp [PySem.W.notFirst]
theorem nf_of {t : Value} (h : PySem.W.subIn K t (.ref C) = some false) : PySem.W.notFirst K C t = true := by simp [PySem.W.notFirst, h]
end
/-- x == y and x != y, x an instance of the class at C -/
def rOwnEq (K : PySem.W.Frag) (C : Addr) (sp : Sp) (E : XK) : R2 := fun x y H Q => ∃ a dx fs t, x = .ref a ∧ H a = some (.ins C dx fs) ∧ TyX K H y t ∧ PySem.W.notFirst K C t = true ∧ sp [x, y] H (fun z H' => ∃ b, z = .bl b ∧ Q (.bl b) H') E
def rOwnNe (K : PySem.W.Frag) (C : Addr) (sp : Sp) (E : XK) : R2 := fun x y H Q => ∃ a dx fs t, x = .ref a ∧ H a = some (.ins C dx fs) ∧ TyX K H y t ∧ PySem.W.notFirst K C t = true ∧ sp [x, y] H (fun z H' => ∃ b, z = .bl b ∧ Q (.bl (!b)) H') E
section
variable {X : Cx} {CX : CXT} {n j : Nat} {C : Addr} {ps : List Str} {sp : Sp} {E : XK} {mg : Str → Option Value} {x : Str}
theorem op_ownEq (c : MCal X.prog X.w X.K X.mg X.base CX C n "__eq__" ps sp) (hr : Room j X.A) (hk : n ≤ j) (hx : Passes CX X E) : OpR X (compareOp .Eq) (rOwnEq X.K C sp E) := by
  intro pins s σ H x y v u Q I rx ry h
  obtain ⟨a, dx, fs, t, rfl, ha, ty, hn, q⟩ := h
  obtain ⟨f, fd, hm, hb, F⟩ := c.ex
  cases (show v = Value.ref a from rx)
  obtain ⟨P, Z, p, _⟩ := kit_of I ry ty
  obtain ⟨mA, J, _⟩ := ins_get I.hok ha
  obtain ⟨od, J, _⟩ := J.look
  obtain ⟨m, hF⟩ := I.fr
  show wpAny (model X.prog X.w) X.A (richCompare .Eq (.ref a) u) (EP X pins σ Q) X.xe s
  refine PySem.W.cmp_K (op := .Eq) (tb := t) hr.units0 hF I.ok.mod.kin J (Z.ty _ _ I.kIn p) hn hm.at_ hm.fn ?_
  have hl := F.len _ _ _ _ q
  have r2 : Vals [V.ref a, y] [Value.ref a, u] := .cons rfl (.cons ry .nil)
  refine wpAny_call (codeAny_mono (F.run X.A X.stack s H ⟨[.ref a, u], []⟩ [.ref a, u] [.ref a, y] _ E (hr.mono hk) I.env0 (by
    have := hb s [.ref a, u] I.kIn (by simpa using hl)
    simpa using this) r2 q) fun r s' hq => ?_)
  cases r with
  | error e => exact hx pins σ H s e s' I hq
  | ok fl =>
    cases fl with
    | ret w =>
      obtain ⟨z, H', I', rz, bb, ez, qz⟩ := I.after hq
      subst ez
      cases rz
      exact ⟨.bl bb, H', I', rfl, qz⟩
    | next => exact False.elim hq
    | brk => exact False.elim hq
    | cont => exact False.elim hq
theorem op_ownNe (c : MCal X.prog X.w X.K X.mg X.base CX C n "__eq__" ps sp) (ic : InsC X.K mg x C) (hr : Room j X.A) (hk : n + 1 ≤ j) (hx : Passes CX X E) : OpR X (compareOp .NotEq) (rOwnNe X.K C sp E) := by
  intro pins s σ H x y v u Q I rx ry h
  obtain ⟨a, dx, fs, t, rfl, ha, ty, hn, q⟩ := h
  obtain ⟨f, fd, hm, hb, F⟩ := c.ex
  cases (show v = Value.ref a from rx)
  obtain ⟨P, Z, p, _⟩ := kit_of I ry ty
  obtain ⟨mA, J, _⟩ := ins_get I.hok ha
  obtain ⟨od, J, _⟩ := J.look
  obtain ⟨m, hF⟩ := I.fr
  have hr1 : Room (n + 1) X.A := hr.mono hk
  show wpAny (model X.prog X.w) X.A (richCompare .NotEq (.ref a) u) (EP X pins σ Q) X.xe s
  refine PySem.W.ne_K (tb := t) (by have := hr1.units; omega) hF I.ok.mod.kin J (Z.ty _ _ I.kIn p) hn ic.ne ic.hm hm.at_ hm.fn ?_
  have hl := F.len _ _ _ _ q
  have r2 : Vals [V.ref a, y] [Value.ref a, u] := .cons rfl (.cons ry .nil)
  refine wpAny_call (codeAny_mono (F.run X.A.in1 X.stack s H ⟨[.ref a, u], []⟩ [.ref a, u] [.ref a, y] _ E hr1.in1 I.env0.in1 (by
    have := hb s [.ref a, u] I.kIn (by simpa using hl)
    simpa using this) r2 q) fun r s' hq => ?_)
  cases r with
  | error e => exact hx pins σ H s e s' I hq
  | ok fl =>
    cases fl with
    | ret w =>
      obtain ⟨z, H', I', rz, bb, ez, qz⟩ := I.after hq
      subst ez
      cases rz
      exact ⟨bb, rfl, .bl (!bb), H', I', rfl, qz⟩
    | next => exact False.elim hq
    | brk => exact False.elim hq
    | cont => exact False.elim hq
theorem k_ownEq {K : PySem.W.Frag} (hK : X.K = K) (c : MCal X.prog X.w X.K X.mg X.base CX C n "__eq__" ps sp) (hr : Room j X.A) (hk : n ≤ j) (hx : Passes CX X E) : OpR X (compareOp .Eq) (rOwnEq K C sp E) := hK ▸ op_ownEq c hr hk hx
theorem k_ownNe {K : PySem.W.Frag} (hK : X.K = K) (c : MCal X.prog X.w X.K X.mg X.base CX C n "__eq__" ps sp) (ic : InsC X.K mg x C) (hr : Room j X.A) (hk : n + 1 ≤ j) (hx : Passes CX X E) : OpR X (compareOp .NotEq) (rOwnNe K C sp E) := hK ▸ op_ownNe c ic hr hk hx
end

theorem pe_insN {X : Cx} {x : Str} {C : Addr} {pos : Pos} (hg : Gl X x) (d : InsC X.K X.mg x C) (hd : (x == ("__debug__" : Str)) = false := by decide) : PE X (.Name x pos) (tC (.ref C)) := pe_glob (v := .ref C) hg d.at_ rfl hd
/-- a village's == : to another one, to what is none -/
def sp_eqV (K : PySem.W.Frag) (CV : Addr) : Sp := fun vs H Q _ => ∃ (F : Hp) (x : Vil) (v w : V), vs = [v, w] ∧ Ex F H ∧ R K F v x ∧ x.C = CV ∧
  ((∃ y : Vil, R K F w y ∧ y.C = CV ∧ ∀ H', Ex H H' → Q (.bl (decide (x.es = y.es))) H') ∨ (∃ t, TyX K F w t ∧ PySem.W.kitOne K t (.ref CV) = some false ∧ ∀ H', Ex H H' → Q (.bl false) H'))
/-- == of reports -/
def sp_eqR (K : PySem.W.Frag) (CR CV : Addr) : Sp := fun vs H Q _ => ∃ (F : Hp) (x : Rpt) (v w : V), vs = [v, w] ∧ Ex F H ∧ R K F v x ∧ x.C = CR ∧ x.v.C = CV ∧
  ((∃ y : Rpt, R K F w y ∧ y.C = CR ∧ y.v.C = CV ∧ ∀ H', Ex H H' → Q (.bl (decide (x.v.es = y.v.es) && decide (x.rs = y.rs))) H') ∨ (∃ t, TyX K F w t ∧ PySem.W.kitOne K t (.ref CR) = some false ∧ ∀ H', Ex H H' → Q (.bl false) H'))
section
variable {K : PySem.W.Frag} {F F' G H H' : Hp} {σ : L2.St} {ta tb tc te tl : TE} {E : XK} {mg : Str → Option Value} {C D : Addr} {xn : Str} {α : Type} [Rep α] {x : α}
theorem ev_isiO {t : Value} {b : Bool} (ha : EvX K F G σ ta x) (hty : ∀ F' v, Ex F F' → R K F' v x → TyX K F' v t) (hk : PySem.W.kitOne K t (.ref C) = some b) : EvX K F G σ (tCB (rIsi K) (tCons ta (tCons (tC (.ref C)) tNil))) b := fun H e g Q k =>
  ha H e g _ fun u F1 H1 s1 r1 => ⟨u, .ref C, t, .ref C, b, rfl, .own C, tyx_up s1.fh (hty _ _ s1.ff r1), hk, k _ F1 H1 s1 rfl⟩
theorem vil_ty (c : InsC K mg xn C) {F' : Hp} {v : V} {y : Vil} (hC : y.C = C) (r : R K F' v y) : TyX K F' v (.ref C) := by
  obtain ⟨a, dx, p, b, s, rfl, h2, _⟩ := r
  rw [hC] at h2
  exact c.tyx h2
theorem rpt_ty (c : InsC K mg xn C) {F' : Hp} {v : V} {y : Rpt} (hC : y.C = C) (r : R K F' v y) : TyX K F' v (.ref C) := by
  obtain ⟨a, dx, p, b, rfl, h2, _⟩ := r
  rw [hC] at h2
  exact c.tyx h2
theorem ev_eqVV (c : InsC K mg xn C) {v y : Vil} (ha : EvX K F G σ ta v) (hb : EvX K F G σ tb y) (h1 : v.C = C) (h2 : y.C = C) : EvX K F G σ (tOp (rOwnEq K C (sp_eqV K C) E) ta tb) (decide (v.es = y.es)) :=
  ev_op ha hb fun F1 u w _ r1 r2 H1 e1 _ Q k => by
    have hu := id r1
    obtain ⟨a, dx, p, b, s, rfl, q2, _⟩ := hu
    rw [h1] at q2
    exact ⟨a, dx, _, _, rfl, e1 _ _ q2, tyx_up e1 (vil_ty c h2 r2), nf_self, F1, v, _, _, rfl, e1, r1, h1, .inl ⟨y, r2, h2, fun H' e' => ⟨_, rfl, k _ F1 H' ((Stp.refl e1).ext e') rfl⟩⟩⟩
theorem ev_neVV (c : InsC K mg xn C) {v y : Vil} (ha : EvX K F G σ ta v) (hb : EvX K F G σ tb y) (h1 : v.C = C) (h2 : y.C = C) : EvX K F G σ (tOp (rOwnNe K C (sp_eqV K C) E) ta tb) (!decide (v.es = y.es)) :=
  ev_op ha hb fun F1 u w _ r1 r2 H1 e1 _ Q k => by
    have hu := id r1
    obtain ⟨a, dx, p, b, s, rfl, q2, _⟩ := hu
    rw [h1] at q2
    exact ⟨a, dx, _, _, rfl, e1 _ _ q2, tyx_up e1 (vil_ty c h2 r2), nf_self, F1, v, _, _, rfl, e1, r1, h1, .inl ⟨y, r2, h2, fun H' e' => ⟨_, rfl, k _ F1 H' ((Stp.refl e1).ext e') rfl⟩⟩⟩
/-- == to what is of another type -/
theorem ev_eqVO (c : InsC K mg xn C) {v : Vil} {t : Value} (ha : EvX K F G σ ta v) (hb : EvX K F G σ tb x) (h1 : v.C = C) (hty : ∀ F' u, Ex F F' → R K F' u x → TyX K F' u t) (hs : PySem.W.subIn K t (.ref C) = some false) (hne : t ≠ .ref C) :
    EvX K F G σ (tOp (rOwnEq K C (sp_eqV K C) E) ta tb) false :=
  ev_op ha hb fun F1 u w e0 r1 r2 H1 e1 _ Q k => by
    have hu := id r1
    obtain ⟨a, dx, p, b, s, rfl, q2, _⟩ := hu
    rw [h1] at q2
    have ty := hty _ _ e0 r2
    exact ⟨a, dx, _, _, rfl, e1 _ _ q2, tyx_up e1 ty, nf_of hs, F1, v, _, _, rfl, e1, r1, h1, .inr ⟨t, ty, c.kit hs hne, fun H' e' => ⟨_, rfl, k _ F1 H' ((Stp.refl e1).ext e') rfl⟩⟩⟩
theorem ev_eqRR (c : InsC K mg xn C) {v y : Rpt} (ha : EvX K F G σ ta v) (hb : EvX K F G σ tb y) (h1 : v.C = C) (h2 : y.C = C) (h3 : v.v.C = D) (h4 : y.v.C = D) : EvX K F G σ (tOp (rOwnEq K C (sp_eqR K C D) E) ta tb) (decide (v.v.es = y.v.es) && decide (v.rs = y.rs)) :=
  ev_op ha hb fun F1 u w _ r1 r2 H1 e1 _ Q k => by
    have hu := id r1
    obtain ⟨a, dx, p, b, rfl, q2, _⟩ := hu
    rw [h1] at q2
    exact ⟨a, dx, _, _, rfl, e1 _ _ q2, tyx_up e1 (rpt_ty c h2 r2), nf_self, F1, v, _, _, rfl, e1, r1, h1, h3, .inl ⟨y, r2, h2, h4, fun H' e' => ⟨_, rfl, k _ F1 H' ((Stp.refl e1).ext e') rfl⟩⟩⟩
theorem ev_neRR (c : InsC K mg xn C) {v y : Rpt} (ha : EvX K F G σ ta v) (hb : EvX K F G σ tb y) (h1 : v.C = C) (h2 : y.C = C) (h3 : v.v.C = D) (h4 : y.v.C = D) : EvX K F G σ (tOp (rOwnNe K C (sp_eqR K C D) E) ta tb) (!(decide (v.v.es = y.v.es) && decide (v.rs = y.rs))) :=
  ev_op ha hb fun F1 u w _ r1 r2 H1 e1 _ Q k => by
    have hu := id r1
    obtain ⟨a, dx, p, b, rfl, q2, _⟩ := hu
    rw [h1] at q2
    exact ⟨a, dx, _, _, rfl, e1 _ _ q2, tyx_up e1 (rpt_ty c h2 r2), nf_self, F1, v, _, _, rfl, e1, r1, h1, h3, .inl ⟨y, r2, h2, h4, fun H' e' => ⟨_, rfl, k _ F1 H' ((Stp.refl e1).ext e') rfl⟩⟩⟩
theorem ev_eqRO (c : InsC K mg xn C) {v : Rpt} {t : Value} (ha : EvX K F G σ ta v) (hb : EvX K F G σ tb x) (h1 : v.C = C) (h3 : v.v.C = D) (hty : ∀ F' u, Ex F F' → R K F' u x → TyX K F' u t) (hs : PySem.W.subIn K t (.ref C) = some false) (hne : t ≠ .ref C) :
    EvX K F G σ (tOp (rOwnEq K C (sp_eqR K C D) E) ta tb) false :=
  ev_op ha hb fun F1 u w e0 r1 r2 H1 e1 _ Q k => by
    have hu := id r1
    obtain ⟨a, dx, p, b, rfl, q2, _⟩ := hu
    rw [h1] at q2
    have ty := hty _ _ e0 r2
    exact ⟨a, dx, _, _, rfl, e1 _ _ q2, tyx_up e1 ty, nf_of hs, F1, v, _, _, rfl, e1, r1, h1, h3, .inr ⟨t, ty, c.kit hs hne, fun H' e' => ⟨_, rfl, k _ F1 H' ((Stp.refl e1).ext e') rfl⟩⟩⟩
end
end L3

/-! sorted(set(a list of pairs)), below 64; two reports at once (k44) -/
namespace L3
open PySem PySem.Spec PyProof.Rows L2
open Rep (R)
open RepD (toD)
open Tr (adj hs IsTree TreeOn dist)
open Evl (Ex ex_l ex_t fresh_back sz_of sz_lt ixN_nat)
section
variable {X : Cx} {P : Program} {w : World} {K : PySem.W.Frag}
theorem k_setOfT (hK : X.K = K) (hP : X.prog = P) (hw : X.w = w) (hc : X.calm = true) (hu : X.A.units + 64 < cLine) : CallR X (.type "set") (rSetOfT K P w) := hK ▸ hP ▸ hw ▸ cr_setOfT hc hu
theorem k_sortedT (hK : X.K = K) (hP : X.prog = P) (hw : X.w = w) (hc : X.calm = true) : CallR X (.builtin "sorted") (rSortedT K P w) := hK ▸ hP ▸ hw ▸ cr_sortedT hc
end
def prI (e : Int × Int) : List Int := [e.1, e.2]
theorem prI_inj {e f : Int × Int} (h : prI e = prI f) : e = f := by
  unfold prI at h
  simp at h
  exact Prod.ext h.1 h.2
theorem prI_map_inj : ∀ {l m : List (Int × Int)}, l.map prI = m.map prI → l = m
  | [], [], _ => rfl
  | [], _ :: _, h => by cases h
  | _ :: _, [], h => by cases h
  | a :: l, b :: m, h => by
    simp only [List.map_cons, List.cons.injEq] at h
    rw [prI_inj h.1, prI_map_inj h.2]
section
variable {K : PySem.W.Frag} {P : Program} {w : World} {F G H : Hp} {σ : L2.St} {ta : TE} {ns ys : List (Int × Int)}
theorem keys_of : ∀ {vs : List V} {ns : List (Int × Int)}, All2 (R K F) vs ns → ∃ ks : List (Addr × List Int), vs = ks.map (fun p => V.ref p.1) ∧ ks.map (·.2) = ns.map prI ∧ ∀ p ∈ ks, ∃ e ∈ ns, p.2 = prI e ∧ R K F (.ref p.1) e
  | _, _, .nil => ⟨[], rfl, rfl, fun _ h => by cases h⟩
  | _, _, .cons (a := v) (b := e) h t => by
    obtain ⟨ks, h1, h2, h3⟩ := keys_of t
    have hv := id h
    obtain ⟨a, _, _, rfl, _⟩ := hv
    refine ⟨(a, prI e) :: ks, by rw [h1]; rfl, by rw [List.map_cons, List.map_cons, h2], fun p hp => ?_⟩
    rcases List.mem_cons.mp hp with rfl | hp
    · exact ⟨e, List.mem_cons_self, rfl, h⟩
    · obtain ⟨f, hf, q⟩ := h3 p hp
      exact ⟨f, List.mem_cons_of_mem _ hf, q⟩
theorem sqt_pr {a : Addr} {e : Int × Int} (r : R K F (.ref a) e) (h : Ex F H) : SqT K H a ((prI e).map V.int) := by
  obtain ⟨b, u, w, h1, h2, h3, h4⟩ := r
  cases h1
  cases (show u = V.int e.1 from h3)
  cases (show w = V.int e.2 from h4)
  exact SqT.of (h _ _ h2)
theorem back_of : ∀ (L : List (Addr × List Int)), (∀ p ∈ L, ∃ e : Int × Int, p.2 = prI e ∧ R K F (.ref p.1) e) → ∃ zs : List (Int × Int), L.map (·.2) = zs.map prI ∧ All2 (R K F) (L.map fun p => V.ref p.1) zs
  | [], _ => ⟨[], rfl, .nil⟩
  | p :: L, h => by
    obtain ⟨zs, h1, h2⟩ := back_of L fun q hq => h q (List.mem_cons_of_mem _ hq)
    obtain ⟨e, he, r⟩ := h p List.mem_cons_self
    exact ⟨e :: zs, by rw [List.map_cons, List.map_cons, he, h1], .cons r h2⟩
theorem code_le {e f : Int × Int} (he : hs 64 e.1 ∧ hs 64 e.2) (hf : hs 64 f.1 ∧ hs 64 f.2) (h : TS.code 64 (prI e) ≤ TS.code 64 (prI f)) : leP e f := by
  unfold prI at h
  rw [code_pair, code_pair] at h
  unfold leP
  have := he.2.1; have := he.2.2; have := hf.2.1; have := hf.2.2
  omega
/-- sorted(set(xs)), xs a list of pairs -/
theorem en_sortSetP (ha : EvX K F G σ ta ns) (hl : ns.length < 64) (hb : ∀ e ∈ ns, hs 64 e.1 ∧ hs 64 e.2) (hys : ys.Pairwise leP) (nd : ys.Nodup) (hm : ∀ k, k ∈ ys ↔ k ∈ ns) : EvN K F G σ (tCB (rSortedT K P w) (tCons (tCB (rSetOfT K P w) (tCons ta tNil)) tNil)) ys := fun H e g Q k =>
  ha H e g _ fun u F1 H1 s1 r1 => by
    obtain ⟨a, vs, rfl, hsq, hv⟩ := r1
    obtain ⟨ks, rfl, hk2, hk3⟩ := keys_of hv
    refine ⟨a, ks, rfl, SqL.of (s1.fh _ _ hsq), fun p hp => ?_, ?_, fun b L hb0 hLs hLa => ?_⟩
    · obtain ⟨f, _, hp2, r⟩ := hk3 p hp
      rw [hp2]
      exact sqt_pr r s1.fh
    · have := congrArg List.length hk2
      rw [List.length_map, List.length_map] at this
      omega
    have s2 := s1.own (o := SetTO P w b L) hb0
    refine ⟨b, L, 2, 64, rfl, upd_same, fun p hp => ?_, by decide, fun p hp => ?_, fun L' q pm ndL few pw hq => ?_⟩
    · obtain ⟨f, _, hp2, r⟩ := hk3 p (hLs p hp)
      rw [hp2]
      exact sqt_pr r s2.fh
    · obtain ⟨f, hf, hp2, r⟩ := hk3 p (hLs p hp)
      rw [hp2]
      obtain ⟨h1, h2⟩ := hb f hf
      refine ⟨rfl, fun x hx => ?_⟩
      simp only [prI, List.mem_cons, List.not_mem_nil, or_false] at hx
      rcases hx with rfl | rfl
      · exact ⟨h1.1, h1.2⟩
      · exact ⟨h2.1, h2.2⟩
    obtain ⟨zs, hz2, hz3⟩ := back_of (K := K) (F := F1) L' fun p hp => by
      obtain ⟨f, _, hp2, r⟩ := hk3 p (hLs p (pm.subset hp))
      exact ⟨f, hp2, r⟩
    have mem_zs : ∀ f, f ∈ zs ↔ f ∈ ns := fun f => by
      constructor
      · intro h
        have : prI f ∈ L'.map (·.2) := by rw [hz2]; exact List.mem_map.mpr ⟨f, h, rfl⟩
        obtain ⟨p, hp, e2⟩ := List.mem_map.mp this
        have : prI f ∈ ks.map (·.2) := List.mem_map.mpr ⟨p, hLs p (pm.subset hp), e2⟩
        rw [hk2] at this
        obtain ⟨f', hf', e3⟩ := List.mem_map.mp this
        exact prI_inj e3 ▸ hf'
      · intro h
        have : prI f ∈ ks.map (·.2) := by rw [hk2]; exact List.mem_map.mpr ⟨f, h, rfl⟩
        obtain ⟨p, hp, e2⟩ := List.mem_map.mp this
        have h3 := hLa p hp
        rw [e2] at h3
        have h4 : prI f ∈ L'.map (·.2) := ((pm.map (·.2)).symm.subset) h3
        rw [hz2] at h4
        obtain ⟨f', hf', e3⟩ := List.mem_map.mp h4
        exact prI_inj e3 ▸ hf'
    have ndz : zs.Nodup := by
      rw [hz2] at ndL
      exact (List.pairwise_map.mp ndL).imp fun h z => h (by rw [z])
    have pwz : zs.Pairwise leP := by
      have h1 : (L'.map (·.2)).Pairwise (fun x y => TS.code 64 x ≤ TS.code 64 y) := List.pairwise_map.mpr pw
      rw [hz2, List.pairwise_map] at h1
      exact List.Pairwise.imp_of_mem (fun {a b} ha hb' h => code_le (hb a ((mem_zs a).mp ha)) (hb b ((mem_zs b).mp hb')) h) h1
    have e2 : zs = ys := List.Perm.eq_of_pairwise (le := leP) (fun a b _ _ h1 h2 => leP_anti h1 h2) pwz hys ((List.perm_ext_iff_of_nodup ndz nd).mpr fun f => by rw [mem_zs f, hm f])
    subst e2
    have n0 : H1 q = none := Ex.dom (Ex.new hb0) hq
    exact k q _ F1 _ (s2.own hq) (Ex.dom s1.hh n0) (fresh_back s1.fh n0) upd_same hz3
/-- a report told to a list that is told in order -/
theorem tell_sort {l : List (Int × Int)} (hl : l.Pairwise leP) (nd : l.Nodup) (e : Int × Int) : (tellL l e).Pairwise leP ∧ (tellL l e).Nodup := by
  unfold tellL
  by_cases h : e ∈ l
  · rw [if_pos h]; exact ⟨hl, nd⟩
  · rw [if_neg h]
    refine ⟨sortP_sorted _, (sortP_perm _).nodup_iff.mpr ?_⟩
    exact List.nodup_append.mpr ⟨nd, by simp, fun a ha b hb z => by simp at hb; subst hb; subst z; exact h ha⟩
end
end L3

/-! two reports of one village (k44) -/
namespace L3
open PySem PySem.Spec PyProof.Rows L2
open Rep (R)
open RepD (toD)
open Tr (adj hs IsTree TreeOn dist)
open Evl (Ex ex_l ex_t fresh_back sz_of sz_lt ixN_nat)
section
variable {K : PySem.W.Frag} {F H : Hp} {σ : L2.St} {te ta tb tc ts : TE} {tt u : TT} {tA tB' : TS} {D : Ends} {E : XK} {r : Rpt} {a : Addr} {Q : VK}
theorem y_andM {b : Bool} (h1 : EvT F H σ tt b) (e : Ex F H) (ht : b = true → ∀ H', Ex H H' → tIfS u tA tB' D σ H') (hf : b = false → ∀ H', Ex H H' → tB' D σ H') : tIfS (tAnd tt u) tA tB' D σ H := by
  refine h1 H e (Ex.refl H) _ fun H' e' => ?_
  cases b with
  | true => exact ht rfl H' e'
  | false => exact hf rfl H' e'
theorem y_orM {b : Bool} (h1 : EvT F H σ tt b) (e : Ex F H) (ht : b = true → ∀ H', Ex H H' → tA D σ H') (hf : b = false → ∀ H', Ex H H' → tIfS u tA tB' D σ H') : tIfS (tOr tt u) tA tB' D σ H := by
  refine h1 H e (Ex.refl H) _ fun H' e' => ?_
  cases b with
  | true => exact ht rfl H' e'
  | false => exact hf rfl H' e'
theorem go_tellX {x y : Int} {CR CV : Addr} (ho : EvX K F H σ te (V.ref a)) (f : Folk K F H a r) (e : Ex F H) (hC : r.C = CR) (hV : r.v.C = CV) (hx : EvX K F H σ tb x) (hy : EvX K F H σ tc y) (hf : Fits r.v ((x, y) :: r.rs))
    (k : ∀ F' H', StpM (fun b => b = a) F H F' H' → Folk K F' H' a ⟨r.C, r.v, tellL r.rs (x, y)⟩ → Q .non H') : tMeth CR "tell" (sp_tell K CR CV) [] E te (tCons tb (tCons tc tNil)) σ H Q :=
  ho.go e fun v F0 H0 s0 r0 => by
    cases r0
    have f0 := f.stp s0
    obtain ⟨h0, dx, vv, vh, h1, h2, h3, h4⟩ := id f0
    subst hC
    refine ⟨a, dx, _, rfl, h1, rfs_no (by decide +kernel) vv vh, (hx.up s0.ff) H0 s0.fh s0.hh _ fun u F1 H1 s1 r1 => (hy.up (s0.ff.trans s1.ff)) H1 s1.fh (s0.hh.trans s1.hh) _ fun w F2 H2 s2 r2 => ?_⟩
    cases r1; cases r2
    exact ⟨F2, a, r, x, y, rfl, s2.fh, (f0.stp s1).stp s2, rfl, hV, hf, fun F3 H3 s3 f3 => k F3 H3 (((s0.trans s1).trans s2).m.trans s3) f3⟩
theorem go_backX {x y : Int} {CR CV : Addr} (ho : EvX K F H σ te (V.ref a)) (f : Folk K F H a r) (e : Ex F H) (hC : r.C = CR) (hV : r.v.C = CV) (hx : EvX K F H σ tb x) (hy : EvX K F H σ tc y) (hf : (x, y) ∈ r.rs)
    (k : ∀ F' H', StpM (fun b => b = a) F H F' H' → Folk K F' H' a ⟨r.C, r.v, r.rs.filter fun e => !decide (e = (x, y))⟩ → Q .non H') : tMeth CR "take_back" (sp_back K CR CV) [] E te (tCons tb (tCons tc tNil)) σ H Q :=
  ho.go e fun v F0 H0 s0 r0 => by
    cases r0
    have f0 := f.stp s0
    obtain ⟨h0, dx, vv, vh, h1, h2, h3, h4⟩ := id f0
    subst hC
    refine ⟨a, dx, _, rfl, h1, rfs_no (by decide +kernel) vv vh, (hx.up s0.ff) H0 s0.fh s0.hh _ fun u F1 H1 s1 r1 => (hy.up (s0.ff.trans s1.ff)) H1 s1.fh (s0.hh.trans s1.hh) _ fun w F2 H2 s2 r2 => ?_⟩
    cases r1; cases r2
    exact ⟨F2, a, r, x, y, rfl, s2.fh, (f0.stp s1).stp s2, rfl, hV, hf, fun F3 H3 s3 f3 => k F3 H3 (((s0.trans s1).trans s2).m.trans s3) f3⟩
end
def sp_r44 (K : PySem.W.Frag) (CR CV : Addr) : Sp := fun vs H Q _ => ∃ (F : Hp) (t g : Addr) (m n : Int) (es : Tr.Roads) (r : Rpt) (v w s : V), vs = [.ref t, v, w, s] ∧ Ex F H ∧ Deck F H t g m ∧ m ≤ 10 ^ 8 ∧ R K F v r ∧ r.C = CR ∧ r.v = ⟨CV, n, held es⟩ ∧ R K F w (tab n (dist es)) ∧ R K F s r.rs ∧ IsTree n es ∧ n ≤ 60 ∧
  r.rs.length ≤ 1000 ∧ ∀ F' H', StpM (deckS t g).M F H F' H' → Deck F' H' t g (m + 3) → Q (.bl true) H'
section
variable {K : PySem.W.Frag} {F H : Hp} {σ : L2.St} {ta tb ts : TE} {tu tw : TS} {D : Ends} {E : XK} {Q : VK} {CR CV b t g : Addr} {r : Rpt} {m n : Int} {es : Tr.Roads} {w : V} {j1 j3 : Nat}
theorem go_r44 (h1 : σ[j1]? = some (some (.ref t))) (hb : EvX K F H σ tb (V.ref b)) (h3 : σ[j3]? = some (some w)) (fk : Folk K F H b r) (e : Ex F H) (hI : Deck F H t g m) (nM : ¬ TM t g b) (hm : m ≤ 10 ^ 8) (hC : r.C = CR) (hV : r.v = ⟨CV, n, held es⟩) (rf : R K F w (tab n (dist es)))
    (hl : EvX K F H σ ts r.rs) (T : IsTree n es) (hn : n ≤ 60) (hll : r.rs.length ≤ 1000)
    (k : ∀ H', StpM (TM t g) F H F H' → Deck F H' t g (m + 3) → Folk K F H' b r → Q (.bl true) H') : tCall (sp_r44 K CR CV) [] E (tCons (tVar j1) (tCons tb (tCons (tVar j3) (tCons ts tNil)))) σ H Q := by
  obtain ⟨o, q1, q2, q3, q4⟩ := fk.lend e
  have i2 : Deck (upd F b o) H t g m := (deckS t g).frz hI nM
  refine ⟨_, h1, (hb.up q2).go q3 fun vb F1 H1 s1 rb => ⟨_, h3, (hl.up (q2.trans s1.ff)) H1 s1.fh s1.hh _ fun v F3 H3 s3 r3 => ?_⟩⟩
  cases rb
  have s13 := s1.trans s3
  have e3 : Ex F F3 := q2.trans s13.ff
  refine ⟨F3, t, g, m, n, es, r, _, w, v, rfl, s3.fh, (deckS t g).stp i2 s13, hm, Rep.mono s13.ff q4, hC, hV, Rep.mono e3 rf, r3, T, hn, hll, fun F4 H4 s4 i4 => ?_⟩
  have sZ : StpM (TM t g) F H F H4 := StpM.unlend ((s13.m (M := TM t g)).trans s4) q2
  exact k H4 sZ ((deckS t g).dn i4 (e3.trans s4.ff)) (fk.stpM sZ nM)
end
/-- what stands of one lot -/
structure Lot (n : Int) (st : List Int) (j : Nat) (l : Ch) : Prop where
  le : l.Pairwise leP
  nd : l.Nodup
  len : l.length ≤ j
  ok : ∀ e ∈ l, hs n e.1 ∧ stAt st e.1 = e.2
theorem Lot.nil {n : Int} {st : List Int} : Lot n st 0 [] := ⟨.nil, .nil, Nat.le_refl _, fun e h => by cases h⟩
theorem Lot.up {n : Int} {st : List Int} {j : Nat} {l : Ch} (h : Lot n st j l) : Lot n st (j + 1) l := ⟨h.le, h.nd, Nat.le_succ_of_le h.len, h.ok⟩
theorem Lot.tell {n : Int} {st : List Int} {j : Nat} {l : Ch} (h : Lot n st j l) {x : Int} (hx : hs n x) : Lot n st (j + 1) (tellL l (x, stAt st x)) := by
  obtain ⟨h1, h2⟩ := tell_sort h.le h.nd (x, stAt st x)
  refine ⟨h1, h2, ?_, fun e he => ?_⟩
  · unfold tellL
    split
    · exact Nat.le_succ_of_le h.len
    · rw [(sortP_perm _).length_eq, List.length_append]
      have := h.len
      simp
      omega
  · rcases mem_tell.mp he with q | rfl
    · exact h.ok e q
    · exact ⟨hx, rfl⟩
theorem Lot.back {n : Int} {st : List Int} {j : Nat} {l : Ch} (h : Lot n st j l) (e : Int × Int) : Lot n st (j + 1) (l.filter fun f => !decide (f = e)) :=
  ⟨h.le.filter _, h.nd.filter _, Nat.le_trans (List.length_filter_le _ _) (Nat.le_succ_of_le h.len), fun f hf => h.ok f ((List.mem_filter.mp hf).1)⟩
theorem lay_norm {es : Tr.Roads} : (es.map fun e => (min e.1 e.2, max e.1 e.2)) = es.map fun e => (min e.1 e.2, max e.1 e.2) := rfl
section
variable {K : PySem.W.Frag} {S : Src} {n m : Int} {F H : Hp} {σ : L2.St} {te te1 te2 : TE} {tt : TT} {tA tB' tu tw : TS} {D : Ends} {P : Bool → Prop}
theorem y_andMM {b : Bool} (h1 : EvT F H σ tt b) (e : Ex F H) (i : S.I n F H) (nm : n ≤ m) (hM : b = true → EvM K S n m F σ te P)
    (ht : b = true → ∀ F' H', StpM S.M F H F' H' → S.I m F' H' → tA D σ H') (hf : ∀ F' H', StpM S.M F H F' H' → S.I m F' H' → tB' D σ H') : tIfS (tAnd tt (tTest te)) tA tB' D σ H :=
  y_andM (u := tTest te) h1 e (fun hb H' e' => y_ifM (K := K) (S := S) (hM hb) (e.trans e') (S.stp i (Stp.of_ex e e')) (fun F2 H2 s2 i2 _ => ht hb F2 H2 ((Stp.of_ex e e').m.trans s2) i2) fun F2 H2 s2 i2 _ => hf F2 H2 ((Stp.of_ex e e').m.trans s2) i2)
    fun hb H' e' => hf F H' (Stp.of_ex e e').m (S.le (S.stp i (Stp.of_ex e e')) nm)
theorem u_or2 (h : te1 σ H fun v H1 => ∃ b, v = .bl b ∧ if (!b) = true then tu D σ H1 else te2 σ H1 fun w H2 => ∃ c, w = .bl c ∧ if (!c) = true then tu D σ H2 else tw D σ H2) : tIfS (tOr (tNot (tB te1)) (tNot (tB te2))) tu tw D σ H := h
theorem u_not (h : te1 σ H fun v H1 => ∃ b, v = .bl b ∧ if (!b) = true then tu D σ H1 else tw D σ H1) : tIfS (tNot (tB te1)) tu tw D σ H := h
end
theorem at2 {α : Type} (a b : α) {q : Int} (h : hs 2 q) : atI [a, b] q = some (if q = 0 then a else b) := by
  obtain ⟨h0, h1⟩ := h
  rcases (by omega : q = 0 ∨ q = 1) with rfl | rfl <;> rfl
theorem set2 {α : Type} (f : Int → α) (v : α) {q : Int} (h : hs 2 q) : [f 0, f 1].set q.toNat v = [(fun j => if j = q then v else f j) 0, (fun j => if j = q then v else f j) 1] := by
  obtain ⟨h0, h1⟩ := h
  rcases (by omega : q = 0 ∨ q = 1) with rfl | rfl <;> rfl
theorem ixN_nat' {q : Int} (h : hs 2 q) : ixN 2 q = some q.toNat := by
  obtain ⟨h0, h1⟩ := h
  rcases (by omega : q = 0 ∨ q = 1) with rfl | rfl <;> rfl
theorem at2f {α : Type} (f : Int → α) {q : Int} (h : hs 2 q) : atI [f 0, f 1] q = some (f q) := by
  obtain ⟨h0, h1⟩ := h
  rcases (by omega : q = 0 ∨ q = 1) with rfl | rfl <;> rfl
section
variable {K : PySem.W.Frag} {F G H : Hp} {σ : L2.St} {ta tb tc td : TE} {E : XK} {v : Vil} {C CR CV t g : Addr} {m n : Int} {es : Tr.Roads} {r : Rpt} {j : Nat}
theorem ev_rpt0 (ha : EvX K F G σ ta v) (ht : VOk v → Fits v []) : EvX K F G σ (tMake C (sp_rpt K C) [] E (tCons ta tNil)) (⟨C, v, []⟩ : Rpt) :=
  EvF.ev fun H e g Q k => ha H e g _ fun w F1 H1 s1 r1 x dx hx hdx ne =>
    ⟨F1, H1, x, dx, w, v, rfl, s1.fh, ((Stp.refl s1.fh).own hdx).own (by rw [upd_ne (Ne.symm ne)]; exact hx), hx, upd_same, r1, fun F2 H2 s2 f2 => ⟨rfl, k x F2 H2 (s1.trans s2) (Ex.dom s1.hh hx) f2⟩⟩
theorem em_r44 (h1 : σ[j]? = some (some (.ref t))) (hb : EvX K F F σ tb r) (hc : EvX K F F σ tc (tab n (dist es))) (hd : EvX K F F σ td r.rs) (hm : m ≤ 10 ^ 8) (hC : r.C = CR) (hV : r.v = ⟨CV, n, held es⟩) (T : IsTree n es) (hn : n ≤ 60) (hll : r.rs.length ≤ 1000) :
    EvM K (deckS t g) m (m + 3) F σ (tCall (sp_r44 K CR CV) [] E (tCons (tVar j) (tCons tb (tCons tc (tCons td tNil))))) (fun b : Bool => b = true) := fun F1 H e1 e2 i Q k =>
  ⟨_, h1, (hb.up e1) H e2 (e1.trans e2) _ fun v1 F2 H2 s2 r2 => (hc.up (e1.trans s2.ff)) H2 s2.fh ((e1.trans e2).trans s2.hh) _ fun v2 F3 H3 s3 r3 => (hd.up ((e1.trans s2.ff).trans s3.ff)) H3 s3.fh (((e1.trans e2).trans s2.hh).trans s3.hh) _ fun v3 F4 H4 s4 r4 =>
    ⟨F4, t, g, m, n, es, r, v1, v2, v3, rfl, s4.fh, (deckS t g).stp i ((s2.trans s3).trans s4), hm, Rep.mono (s3.ff.trans s4.ff) r2, hC, hV, Rep.mono s4.ff r3, r4, T, hn, hll, fun F5 H5 s5 i5 => k _ _ F5 H5 (((s2.trans s3).trans s4).m.trans s5) i5 rfl rfl⟩⟩
theorem held_sort : sortP (es.map fun e => (min e.1 e.2, max e.1 e.2)) = held es := rfl
end
end L3

namespace Lw
open PySem L2 L3
open Rep (R)
open RepD (toD)
open Tr (adj hs IsTree TreeOn dist)
open Evl (Ex ex_l ex_t fresh_back sz_of sz_lt ixN_nat)
def topS (i : Nat) : Stmt := PySem.Challenge.pw_movedays_k44_whole_two_reports_of_one_vi.main.body.getD i (.Pass ⟨0, 0, 0, 0⟩)
abbrev s_Village_houses : Stmt := inClass (topS 11) 2
theorem sc_Village_houses : FnScope ["self"] ["self"] (defScope s_Village_houses) := ⟨rfl, rfl, rfl, by decide +kernel, rfl, by decide +kernel, by decide +kernel⟩

abbrev s_Village_roads : Stmt := inClass (topS 11) 3
theorem sc_Village_roads : FnScope ["self"] ["self"] (defScope s_Village_roads) := ⟨rfl, rfl, rfl, by decide +kernel, rfl, by decide +kernel, by decide +kernel⟩

abbrev s_Village_far : Stmt := inClass (topS 11) 5
theorem sc_Village_far : FnScope ["self", "x", "y"] ["self", "x", "y"] (defScope s_Village_far) := ⟨rfl, rfl, rfl, by decide +kernel, rfl, by decide +kernel, by decide +kernel⟩

abbrev s_need_houses : Stmt := topS 8
theorem sc_need_houses : FnScope ["village", "some", "house"] ["village", "some"] (defScope s_need_houses) := ⟨rfl, rfl, rfl, by decide +kernel, rfl, by decide +kernel, by decide +kernel⟩

abbrev s_put_together : Stmt := topS 9
theorem sc_put_together : FnScope ["parts", "number", "road", "x", "y", "part"] ["parts", "number", "road"] (defScope s_put_together) := ⟨rfl, rfl, rfl, by decide +kernel, rfl, by decide +kernel, by decide +kernel⟩

abbrev s_steps_from : Stmt := topS 10
theorem sc_steps_from : FnScope ["beside", "begun", "found", "edge", "steps", "further", "house", "near"] ["beside", "begun"] (defScope s_steps_from) := ⟨rfl, rfl, rfl, by decide +kernel, rfl, by decide +kernel, by decide +kernel⟩

abbrev s_Village___init__ : Stmt := inClass (topS 11) 0
theorem sc_Village___init__ : FnScope ["self", "roads", "parts", "number", "road", "x", "y", "house"] ["self", "roads"] (defScope s_Village___init__) := ⟨rfl, rfl, rfl, by decide +kernel, rfl, by decide +kernel, by decide +kernel⟩

abbrev s_Village___eq__ : Stmt := inClass (topS 11) 1
theorem sc_Village___eq__ : FnScope ["self", "other"] ["self", "other"] (defScope s_Village___eq__) := ⟨rfl, rfl, rfl, by decide +kernel, rfl, by decide +kernel, by decide +kernel⟩

abbrev s_Village_apart : Stmt := inClass (topS 11) 7
theorem sc_Village_apart : FnScope ["self", "x", "y"] ["self", "x", "y"] (defScope s_Village_apart) := ⟨rfl, rfl, rfl, by decide +kernel, rfl, by decide +kernel, by decide +kernel⟩

abbrev s_Reports___init__ : Stmt := inClass (topS 13) 0
theorem sc_Reports___init__ : FnScope ["self", "village"] ["self", "village"] (defScope s_Reports___init__) := ⟨rfl, rfl, rfl, by decide +kernel, rfl, by decide +kernel, by decide +kernel⟩

abbrev s_Reports_village : Stmt := inClass (topS 13) 2
theorem sc_Reports_village : FnScope ["self"] ["self"] (defScope s_Reports_village) := ⟨rfl, rfl, rfl, by decide +kernel, rfl, by decide +kernel, by decide +kernel⟩

abbrev s_Reports_reports : Stmt := inClass (topS 13) 3
theorem sc_Reports_reports : FnScope ["self"] ["self"] (defScope s_Reports_reports) := ⟨rfl, rfl, rfl, by decide +kernel, rfl, by decide +kernel, by decide +kernel⟩

abbrev s_Reports_tell : Stmt := inClass (topS 13) 4
theorem sc_Reports_tell : FnScope ["self", "x", "y", "here", "there"] ["self", "x", "y"] (defScope s_Reports_tell) := ⟨rfl, rfl, rfl, by decide +kernel, rfl, by decide +kernel, by decide +kernel⟩

abbrev s_Reports_take_back : Stmt := inClass (topS 13) 5
theorem sc_Reports_take_back : FnScope ["self", "x", "y", "report"] ["self", "x", "y"] (defScope s_Reports_take_back) := ⟨rfl, rfl, rfl, by decide +kernel, rfl, by decide +kernel, by decide +kernel⟩

abbrev s_Reports_lets_live : Stmt := inClass (topS 13) 6
theorem sc_Reports_lets_live : FnScope ["self", "x", "p", "village", "here", "there"] ["self", "x", "p"] (defScope s_Reports_lets_live) := ⟨rfl, rfl, rfl, by decide +kernel, rfl, by decide +kernel, by decide +kernel⟩

abbrev s_Reports_may_live : Stmt := inClass (topS 13) 7
theorem sc_Reports_may_live : FnScope ["self", "x", "p"] ["self", "x"] (defScope s_Reports_may_live) := ⟨rfl, rfl, rfl, by decide +kernel, rfl, by decide +kernel, by decide +kernel⟩

abbrev s_law_take : Stmt := topS 16
theorem sc_law_take : FnScope ["deck", "many", "drawn", "k", "mixed"] ["deck", "many"] (defScope s_law_take) := ⟨rfl, rfl, rfl, by decide +kernel, rfl, by decide +kernel, by decide +kernel⟩

abbrev s_law_deck : Stmt := topS 15
theorem sc_law_deck : FnScope ["script", "great", "fold", "cell"] ["script"] (defScope s_law_deck) := ⟨rfl, rfl, rfl, by decide +kernel, rfl, by decide +kernel, by decide +kernel⟩

abbrev s_law_roads : Stmt := topS 17
theorem sc_law_roads : FnScope ["deck", "most", "many", "shape", "left", "named", "found", "k", "at", "pair"] ["deck", "most"] (defScope s_law_roads) := ⟨rfl, rfl, rfl, by decide +kernel, rfl, by decide +kernel, by decide +kernel⟩

abbrev s_law_doors : Stmt := topS 18
theorem sc_law_doors : FnScope ["roads", "found", "one", "other", "k"] ["roads"] (defScope s_law_doors) := ⟨rfl, rfl, rfl, by decide +kernel, rfl, by decide +kernel, by decide +kernel⟩

abbrev s_law_ways : Stmt := topS 19
theorem sc_law_ways : FnScope ["doors", "found", "begin", "ways", "edge", "here", "there", "spot"] ["doors"] (defScope s_law_ways) := ⟨rfl, rfl, rfl, by decide +kernel, rfl, by decide +kernel, by decide +kernel⟩

abbrev s_law_tale : Stmt := topS 20
theorem sc_law_tale : FnScope ["deck", "doors", "way", "begin", "found", "edge", "here", "taken", "there", "some", "free", "spot"] ["deck", "doors"] (defScope s_law_tale) := ⟨rfl, rfl, rfl, by decide +kernel, rfl, by decide +kernel, by decide +kernel⟩

abbrev s_law_lives : Stmt := topS 23
theorem sc_law_lives : FnScope ["ways", "some", "spot", "found", "there", "here", "goal"] ["ways", "some", "spot"] (defScope s_law_lives) := ⟨rfl, rfl, rfl, by decide +kernel, rfl, by decide +kernel, by decide +kernel⟩

abbrev s_law_right : Stmt := topS 24
theorem sc_law_right : FnScope ["deck", "made", "ways", "stands", "turn", "spot"] ["deck", "made", "ways", "stands"] (defScope s_law_right) := ⟨rfl, rfl, rfl, by decide +kernel, rfl, by decide +kernel, by decide +kernel⟩

abbrev s_law : Stmt := topS 25
theorem sc_law : FnScope ["script", "deck", "lap", "roads", "doors", "ways", "many", "land", "tales", "both", "stands", "turn", "at", "spot", "pair", "bare", "far_off", "one"] ["script"] (defScope s_law) := ⟨rfl, rfl, rfl, by decide +kernel, rfl, by decide +kernel, by decide +kernel⟩

structure Txt (K : PySem.W.Frag) (mg : Str → Option Value) : Type where
  nVillageError : Addr
  nNoRoad : Addr
  nNoHouse : Addr
  nClash : Addr
  nNoReport : Addr
  nVillage : Addr
  nReports : Addr
  f_Village_houses : Mt K nVillage "houses" "Village.houses" s_Village_houses ["self"]
  f_Village_roads : Mt K nVillage "roads" "Village.roads" s_Village_roads ["self"]
  f_Village_far : Mt K nVillage "far" "Village.far" s_Village_far ["self", "x", "y"]
  f_need_houses : Ft K mg "need_houses" s_need_houses ["village", "some"]
  f_put_together : Ft K mg "put_together" s_put_together ["parts", "number", "road"]
  f_steps_from : Ft K mg "steps_from" s_steps_from ["beside", "begun"]
  f_Village : Nt K mg nVillage "Village" "Village.__init__" s_Village___init__ ["self", "roads"]
  f_Village___eq__ : Mt K nVillage "__eq__" "Village.__eq__" s_Village___eq__ ["self", "other"]
  f_Village_apart : Mt K nVillage "apart" "Village.apart" s_Village_apart ["self", "x", "y"]
  f_Reports : Nt K mg nReports "Reports" "Reports.__init__" s_Reports___init__ ["self", "village"]
  f_Reports_village : Mt K nReports "village" "Reports.village" s_Reports_village ["self"]
  f_Reports_reports : Mt K nReports "reports" "Reports.reports" s_Reports_reports ["self"]
  f_Reports_tell : Mt K nReports "tell" "Reports.tell" s_Reports_tell ["self", "x", "y"]
  f_Reports_take_back : Mt K nReports "take_back" "Reports.take_back" s_Reports_take_back ["self", "x", "y"]
  f_Reports_lets_live : Mt K nReports "lets_live" "Reports.lets_live" s_Reports_lets_live ["self", "x", "p"]
  f_Reports_may_live : Mt K nReports "may_live" "Reports.may_live" s_Reports_may_live ["self", "x"]
  f_law_take : Ft K mg "_law_take" s_law_take ["deck", "many"]
  f_law_deck : Ft K mg "_law_deck" s_law_deck ["script"]
  f_law_roads : Ft K mg "_law_roads" s_law_roads ["deck", "most"]
  f_law_doors : Ft K mg "_law_doors" s_law_doors ["roads"]
  f_law_ways : Ft K mg "_law_ways" s_law_ways ["doors"]
  f_law_tale : Ft K mg "_law_tale" s_law_tale ["deck", "doors"]
  f_law_lives : Ft K mg "_law_lives" s_law_lives ["ways", "some", "spot"]
  f_law_right : Ft K mg "_law_right" s_law_right ["deck", "made", "ways", "stands"]
  f_law : Ft K mg "law" s_law ["script"]
  b_abs : mg "abs" = none
  b_all : mg "all" = none
  b_enumerate : mg "enumerate" = none
  b_isinstance : mg "isinstance" = none
  b_len : mg "len" = none
  b_list : mg "list" = none
  b_max : mg "max" = none
  b_min : mg "min" = none
  b_range : mg "range" = none
  b_set : mg "set" = none
  b_sorted : mg "sorted" = none
  na_Village_roads_held : NoAttr K nVillage "roads_held"
  na_Village_beside_held : NoAttr K nVillage "beside_held"
  na_Village_steps_held : NoAttr K nVillage "steps_held"
  na_Reports_village_held : NoAttr K nReports "village_held"
  na_Reports_heard_held : NoAttr K nReports "heard_held"
  cl_Village : Cls K nVillage
  cl_Reports : Cls K nReports
  i_Village : InsC K mg "Village" nVillage
section
variable {P : Program} {w : World} {K : PySem.W.Frag} {mg : Str → Option Value} {base : Heap}
theorem ok_Village_houses (T : Txt K mg) : MCal P w K mg base CX0 T.nVillage 1 "houses" ["self"] (Pu1 K (fun v : Vil => v.C = T.nVillage) (fun v => v.n)) := by
  refine T.f_Village_houses.ok sc_Village_houses (fun vs H Q E h => ?_) (fun f cdv A outer s H vs Q E hr h => ?_)
  · obtain ⟨F, x, v, rfl, _⟩ := h
    rfl
  obtain ⟨F, vil, v, rfl, hF, rv, hC, k⟩ := h
  refine ⟨_, (pss_one (ps_ret (pe_callB (k_len (K := K) rfl) (by rfl) T.b_len (by decide +kernel) (pa_cons (k_fld (K := K) rfl (pv 0) rfl) pa_nil)))), ?_⟩
  refine x_ret (ev_len (ev_beside (hC ▸ T.cl_Village) (hC ▸ T.na_Village_beside_held) (ev_var rfl rv))) hF fun u F' H' s1 r1 => k u F' H' s1 ?_
  have ok := vok_of (.inr ⟨_, rv⟩)
  have : (((rng vil.n).map (nb vil.es)).length : Int) = vil.n := by
    rw [List.length_map, rng_len]
    have := ok.tree.pos
    omega
  rw [this] at r1
  exact r1
theorem ok_Village_roads (T : Txt K mg) : MCal P w K mg base CX0 T.nVillage 1 "roads" ["self"] (PuL1 K (fun v : Vil => v.C = T.nVillage) (fun v => v.es)) := by
  refine T.f_Village_roads.ok sc_Village_roads (fun vs H Q E h => ?_) (fun f cdv A outer s H vs Q E hr h => ?_)
  · obtain ⟨F, x, v, rfl, _⟩ := h
    rfl
  obtain ⟨F, vil, v, rfl, hF, rv, hC, k⟩ := h
  refine ⟨_, (pss_one (ps_ret (pe_callTy (k_list (K := K) rfl rfl) (by rfl) T.b_list (by decide +kernel) (pa_cons (k_fld (K := K) rfl (pv 0) rfl) pa_nil)))), ?_⟩
  exact EvN.go (en_list (ev_roads (hC ▸ T.cl_Village) (hC ▸ T.na_Village_roads_held) (ev_var rfl rv))) hF fun p us F' H' s1 n0 n1 h1 r1 => k p us F' H' s1 n0 n1 h1 r1
theorem ok_Village_far (T : Txt K mg) : MCal P w K mg base CX0 T.nVillage 1 "far" ["self", "x", "y"] (Pu3 K (fun (v : Vil) (x y : Int) => v.C = T.nVillage ∧ hs v.n x ∧ hs v.n y) (fun v x y => dist v.es x y)) := by
  refine T.f_Village_far.ok sc_Village_far (fun vs H Q E h => ?_) (fun f cdv A outer s H vs Q E hr h => ?_)
  · obtain ⟨F, x, y, z, v, w, t, rfl, _⟩ := h
    rfl
  obtain ⟨F, vil, x, y, v, w, t, rfl, hF, rv, rx, ry, ⟨hC, hx, hy⟩, k⟩ := h
  refine ⟨_, (pss_one (ps_ret (k_ixA (K := K) rfl hr (k_ixA (K := K) rfl hr (k_fld (K := K) rfl (pv 0) rfl) (pv 1) (fun _ _ => rfl)) (pv 2) (fun _ _ => rfl)))), ?_⟩
  exact x_ret (ev_tab (ev_steps (hC ▸ T.cl_Village) (hC ▸ T.na_Village_steps_held) (ev_var rfl rv)) (ev_var rfl rx) (ev_var rfl ry) hx hy) hF fun u F' H' s1 r1 => k u F' H' s1 r1
theorem ok_need_houses (T : Txt K mg) : Cal P w K mg base CX0 2 "need_houses" s_need_houses ["village", "some"] (Pu2 K (fun (v : Vil) (xs : List Int) => v.C = T.nVillage ∧ ∀ x ∈ xs, hs v.n x) (fun _ _ => ())) := by
  refine T.f_need_houses.ok sc_need_houses (fun vs H Q E h => ?_) (fun f cdv A outer s H vs Q E hr h => ?_)
  · obtain ⟨F, x, y, v, w, rfl, _⟩ := h
    rfl
  obtain ⟨F, vil, xs, v, w, rfl, hF, rv, rx, ⟨hC, hx⟩, k⟩ := h
  refine ⟨_, (pss_one (ps_for PassesOwn.never rfl (k_pilist (K := K) rfl (pv 1)) (pg_name (i := 2) sc_need_houses.nd rfl (by first | exact Or.inl rfl | exact Or.inr rfl))
    (pss_one (ps_if (pt_not (pt_chain op_le op_lt pe_int (pv 2) (pe_mcal0 (ok_Village_houses T) hr (by decide) pass0 (pv 0))))
    (pss_one ps_never)
    pss_nil)))), ?_⟩
  refine y_for (K := K) (B := BN K Int 2) (it_list (ev_var rfl rx)) hF tgt_n fun F1 H1 s1 => ?_
  refine ⟨fun i F' σ' H' => F' = F1 ∧ Stp F H F1 H' ∧ ∃ o, σ' = [some v, some w, o], ⟨rfl, s1, _, rfl⟩, fun i F' σ' H' ⟨e, h, _⟩ => ⟨by rw [e]; exact Ex.refl _, by rw [e]; exact h.fh⟩, ?_, ?_⟩
  · rintro i x F' σ' H' hxi ⟨rfl, s2, o, rfl⟩ F4 H4 s4 σ2 ⟨u, ru, rfl⟩
    cases ru
    have hh := hx x (List.mem_of_getElem? hxi)
    refine y_if (b := !(decide ((0 : Int) ≤ x) && decide (x < vil.n))) (et_not (et_test (ev_lelt ev_int (ev_var (x := x) rfl rfl) (ev_vm0 (ev_var rfl (Rep.mono (s2.ff.trans s4.ff) rv)) hC (by decide +kernel) hC)))) s4.fh (fun hb H5 e5 => ?_) fun hb H5 e5 => ?_
    · rw [decide_eq_true hh.1, decide_eq_true hh.2] at hb
      cases hb
    · exact ⟨F', rfl, s2.ext (s4.hh.trans e5), _, rfl⟩
  · rintro F' σ' H' ⟨rfl, s2, o, rfl⟩
    exact k .non F' H' s2 rfl
theorem ok_put_together (T : Txt K mg) : Cal P w K mg base CX0 1 "put_together" s_put_together ["parts", "number", "road"]
    (Pu3 K (fun (ps : List Int) (_ : Int) (r : Int × Int) => ps.length ≤ 100 ∧ hs ps.length r.1 ∧ hs ps.length r.2 ∧ ps.getD r.1.toNat 0 ≠ ps.getD r.2.toNat 0) (fun ps _ r => putT ps r.1 r.2)) := by
  refine T.f_put_together.ok sc_put_together (fun vs H Q E h => ?_) (fun f cdv A outer s H vs Q E hr h => ?_)
  · obtain ⟨F, x, y, z, v, w, t, rfl, _⟩ := h
    rfl
  obtain ⟨F, ps, num, ⟨x, y⟩, v, w, t, rfl, hF, rv, rn, rr, ⟨hl, hx, hy, hne⟩, k⟩ := h
  refine ⟨_, (pss_cons (ps_asg (pv 2) (k_tup (K := K) (n := 2) rfl rfl (pgs_cons (pg_name (i := 3) sc_put_together.nd rfl (by first | exact Or.inl rfl | exact Or.inr rfl)) (pgs_cons (pg_name (i := 4) sc_put_together.nd rfl (by first | exact Or.inl rfl | exact Or.inr rfl)) pgs_nil))))
    (pss_cons (ps_if (PW.pt (pw_or (pt_not (pt_chain op_le op_lt pe_int (pv 3) (pe_callB (k_len (K := K) rfl) (by rfl) T.b_len (by decide +kernel) (pa_cons (pv 0) pa_nil)))) (pw_or (pt_not (pt_chain op_le op_lt pe_int (pv 4) (pe_callB (k_len (K := K) rfl) (by rfl) T.b_len (by decide +kernel) (pa_cons (pv 0) pa_nil)))) (pw_or1 (pt_cmpR (k_eqA (K := K) rfl hr.units) (k_ixA (K := K) rfl hr (pv 0) (pv 3) (fun _ _ => rfl)) (k_ixA (K := K) rfl hr (pv 0) (pv 4) (fun _ _ => rfl)) (nomark _))))))
    (pss_one ps_never)
    pss_nil)
    (pss_one (ps_ret (pe_lc (own := [("part", 5)]) rfl sc_put_together.nd (k_pilist (K := K) rfl (pv 0)) (k_blk (N := ["parts", "number", "road", "x", "y", "part"]) (sc := defScope s_put_together) rfl rfl (by decide +kernel)) (fun _ _ _ _ _ => (pg_name (i := 5) sc_put_together.nd rfl (by first | exact Or.inl rfl | exact Or.inr rfl))) (fun _ _ _ _ _ => pts_nil) (fun _ _ _ _ _ => (pe_ifExp (pt_cmpR (k_eqA (K := K) rfl hr.units) (pv 5) (k_ixA (K := K) rfl hr (pv 0) (pv 4) (fun _ _ => rfl)) (nomark _)) (k_ixA (K := K) rfl hr (pv 0) (pv 3) (fun _ _ => rfl)) (pv 5)))))))), ?_⟩
  have hax : atI ps x = some (ps.getD x.toNat 0) := by
    have h2 := atI_nat (getD_at (ps := ps) (k := x.toNat) (by have := hx.1; have := hx.2; omega))
    rwa [Int.toNat_of_nonneg hx.1] at h2
  have hay : atI ps y = some (ps.getD y.toNat 0) := by
    have h2 := atI_nat (getD_at (ps := ps) (k := y.toNat) (by have := hy.1; have := hy.2; omega))
    rwa [Int.toNat_of_nonneg hy.1] at h2
  -- x, y = road
  refine u_asg (EvX.go (K := K) (ev_var rfl rr) hF fun v1 F1 H1 s1 r1 => ?_)
  refine (tgt_p (K := K) (α := Int) (β := Int) (i := 3) (j := 4)) v1 (x, y) _ F1 H1 r1 s1.fh _ ?_
  rintro σ' ⟨u1, u2, q1, q2, rfl⟩
  cases q1; cases q2
  have rv1 := Rep.mono s1.ff rv
  have vx : ∀ {G : Hp} {o : Option V}, EvX K F1 G [some v, some w, some t, some (.int x), some (.int y), o] (tVar 3) x := ev_var rfl rfl
  have vy : ∀ {G : Hp} {o : Option V}, EvX K F1 G [some v, some w, some t, some (.int x), some (.int y), o] (tVar 4) y := ev_var rfl rfl
  have vp : ∀ {G : Hp} {o : Option V}, EvX K F1 G [some v, some w, some t, some (.int x), some (.int y), o] (tVar 0) ps := ev_var rfl rv1
  refine x_if (b := !(decide ((0 : Int) ≤ x) && decide (x < (ps.length : Int))) || (!(decide ((0 : Int) ≤ y) && decide (y < (ps.length : Int))) || decide (ps.getD x.toNat 0 = ps.getD y.toNat 0)))
    (et_or (et_not (et_test (ev_lelt ev_int vx (ev_len vp)))) fun _ => et_or (et_not (et_test (ev_lelt ev_int vy (ev_len vp)))) fun _ => et_test (ev_eqAI (ev_ix vp vx hax) (ev_ix vp vy hay))) s1.fh (fun hb H2 e2 => ?_) fun hb H2 e2 => ?_
  · rw [decide_eq_true hx.1, decide_eq_true hx.2, decide_eq_true hy.1, decide_eq_true hy.2, decide_eq_false hne] at hb
    cases hb
  · refine x_ret (ev_lcy (K := K) (fun p => if p = ps.getD y.toNat 0 then ps.getD x.toNat 0 else p) (it_list vp) tgt_n (by omega) (fun F' x σ' ⟨u, _, e⟩ => by subst e; rfl) fun F' p σ' hm e ⟨u, ru, es⟩ => by
      subst es
      refine EvX.is (ev_if (b := decide (p = ps.getD y.toNat 0)) (x1 := ps.getD x.toNat 0) (x2 := p) (et_test (ev_eqAI (ev_var rfl ru) (ev_ix (ev_var rfl (Rep.mono e rv1)) (ev_var (x := y) rfl rfl) hay))) (fun _ => ev_ix (ev_var rfl (Rep.mono e rv1)) (ev_var (x := x) rfl rfl) hax) (fun _ => ev_var rfl ru)) ?_
      simp) (s1.fh.trans e2) fun u F3 H3 s3 r3 => k u F3 H3 ((s1.ext e2).trans s3) r3
theorem ok_steps_from (T : Txt K mg) : Cal P w K mg base CX0 1 "steps_from" s_steps_from ["beside", "begun"] (sp_steps K) := by
  refine T.f_steps_from.ok sc_steps_from (fun vs H Q E h => ?_) (fun f cdv A outer s H vs Q E hr h => ?_)
  · obtain ⟨F, b, s, n, es, rfl, _⟩ := h
    rfl
  obtain ⟨F, b, s0, n, es, rfl, hF, rb, Tn, hn, hS, k⟩ := h
  refine ⟨_, (pss_cons (ps_set (i := 2) sc_steps_from.nd rfl (by first | exact Or.inl rfl | exact Or.inr rfl) (pe_disp (pps_cons (pv 1) pe_int pps_nil) (by rfl) (by rfl) (fun z => by cases z) (by decide)))
    (pss_cons (ps_set (i := 3) sc_steps_from.nd rfl (by first | exact Or.inl rfl | exact Or.inr rfl) (pe_lst (pa_cons (pv 1) pa_nil)))
    (pss_cons (ps_set (i := 4) sc_steps_from.nd rfl (by first | exact Or.inl rfl | exact Or.inr rfl) pe_int)
    (pss_cons (ps_while PassesOwn.never (pt_cmpR (k_neA (K := K) rfl hr.units) (pv 3) (pe_lst pa_nil) (nomark _))
    (pss_cons (ps_aug (i := 4) sc_steps_from.nd rfl (by first | exact Or.inl rfl | exact Or.inr rfl) pe_int ip_addA)
    (pss_cons (ps_set (i := 5) sc_steps_from.nd rfl (by first | exact Or.inl rfl | exact Or.inr rfl) (pe_lst pa_nil))
    (pss_cons (ps_for PassesOwn.never rfl (k_pilist (K := K) rfl (pv 3)) (pg_name (i := 6) sc_steps_from.nd rfl (by first | exact Or.inl rfl | exact Or.inr rfl))
    (pss_one (ps_aug (i := 5) sc_steps_from.nd rfl (by first | exact Or.inl rfl | exact Or.inr rfl) (pe_lc (own := [("near", 7)]) rfl sc_steps_from.nd (k_pilist (K := K) rfl (k_ixA (K := K) rfl hr (pv 0) (pv 6) (fun _ _ => rfl))) (k_blk (N := ["beside", "begun", "found", "edge", "steps", "further", "house", "near"]) (sc := defScope s_steps_from) rfl rfl (by decide +kernel)) (fun _ _ _ _ _ => (pg_name (i := 7) sc_steps_from.nd rfl (by first | exact Or.inl rfl | exact Or.inr rfl))) (fun _ _ _ _ _ => (pts_one (pt_cmpR (k_notInA (K := K) rfl hr) (pv 7) (pv 2) (by rfl)))) (fun _ _ _ _ _ => (pv 7))) ip_addA)))
    (pss_cons (ps_expr (k_bm (K := K) rfl PySem.F.plainAttrs_dict PySem.F.slot_dict_update PySem.F.type_dict_update mt_update (pv 2) (pa_cons (pe_dc (own := [("near", 7)]) rfl sc_steps_from.nd (k_pilist (K := K) rfl (pv 5)) (k_blk (N := ["beside", "begun", "found", "edge", "steps", "further", "house", "near"]) (sc := defScope s_steps_from) rfl rfl (by decide +kernel)) (fun _ _ _ _ _ => (pg_name (i := 7) sc_steps_from.nd rfl (by first | exact Or.inl rfl | exact Or.inr rfl))) (fun _ _ _ _ _ => pts_nil) (fun _ _ _ _ _ => (pv 7)) (fun _ _ _ _ _ => (pv 4))) pa_nil)))
    (pss_one (ps_set (i := 3) sc_steps_from.nd rfl (by first | exact Or.inl rfl | exact Or.inr rfl) (pv 5))))))))
    (pss_one (ps_ret (pe_lc (own := [("house", 6)]) rfl sc_steps_from.nd (pi_range1 (by rfl) T.b_range (pa_cons (pe_callB (k_len (K := K) rfl) (by rfl) T.b_len (by decide +kernel) (pa_cons (pv 0) pa_nil)) pa_nil)) (k_blk (N := ["beside", "begun", "found", "edge", "steps", "further", "house", "near"]) (sc := defScope s_steps_from) rfl rfl (by decide +kernel)) (fun _ _ _ _ _ => (pg_name (i := 6) sc_steps_from.nd rfl (by first | exact Or.inl rfl | exact Or.inr rfl))) (fun _ _ _ _ _ => pts_nil) (fun _ _ _ _ _ => (k_ixA (K := K) rfl hr (pv 2) (pv 6) (fun _ _ => rfl)))))))))), ?_⟩
  have hlen := Tn.len
  have hpos := Tn.pos
  -- found = {begun: 0}
  refine fun d hd => ⟨_, rfl, ⟨upd_same, [(.inl s0, .int 0)], rfl, by simp, ?_⟩⟩
  have fd : F d = none := fresh_back hF hd
  have s1 : Stp F H F (upd (upd H d (.dK [])) d (.dK (mergeK [] [(.inl s0, .int 0)]))) := ((Stp.refl hF).own hd).mut hd fd
  have h1 : upd (upd H d (.dK [])) d (.dK (mergeK [] [(.inl s0, .int 0)])) d = some (.dK [(.inl s0, .int 0)]) := upd_same
  generalize upd (upd H d (.dK [])) d (.dK (mergeK [] [(.inl s0, .int 0)])) = H1 at s1 h1
  refine x_asg (K := K) (ev_lst (xs := [s0]) (el_cons (ev_var rfl rfl) el_nil) (by simp)) s1.fh fun ve F2 H2 s2 r2 => ?_
  refine x_asg (K := K) (ev_int (i := 0)) s2.fh fun v F3 H3 s3 r3 => ?_
  cases r3
  have fd2 : F3 d = none := s3.fno (s2.hh _ _ h1) (s2.fno h1 fd)
  refine x_while (F := F3) (fun m F' σ' H' => ∃ (t : Int) (kvs : List (Key × V)) (edge : List Int) (ve : V) (o5 o6 o7 : Option V), σ' = [some b, some (.int s0), some (.ref d), some ve, some (.int t), o5, o6, o7] ∧ Stp F H F' H' ∧ F' d = none ∧ H' d = some (.dK kvs) ∧
    R K F' ve edge ∧ Lev n (dist es s0) t kvs edge ∧ kvs.length ≤ 1 + t.toNat * 60 ∧ m = cnt n (dist es s0) t ∧ t.toNat + m ≤ n.toNat) (cnt n (dist es s0) 0)
    ⟨0, _, [s0], ve, _, _, _, rfl, (s1.trans s2).trans s3, fd2, s3.hh _ _ (s2.hh _ _ h1), Rep.mono s3.ff r2, lev_start Tn hS, by simp, rfl, by have := cnt_le (n := n) (D := dist es s0) 0; simpa using this⟩ ?_
  rintro m F' σ' H' ⟨t, kvs, edge, ve, o5, o6, o7, rfl, sA, fd3, hd3, re, L, hkl, rfl, hm⟩
  have rb' := Rep.mono sA.ff rb
  refine ⟨sA.fh, _, et_test (ev_ne (K := K) (ev_var rfl re) ev_nillst), fun hb H4 e4 => ?_, fun hb H4 e4 => ?_⟩
  · have hne : edge ≠ [] := by simpa using hb
    have ht := L.nn
    refine ⟨_, rfl, .inl ⟨t, 1, rfl, rfl, ?_⟩⟩
    refine x_asgN (en_lst (K := K) (α := Int) el_nil (Nat.zero_le _)) (sA.fh.trans e4) fun fp us F5 H5 s5 n5 f5 h5 r5 => ?_
    cases r5
    have sB := (sA.ext e4).trans s5
    have hfp : H fp = none := Ex.dom (sA.hh.trans e4) n5
    have hd5 := s5.hh _ _ (e4 _ _ hd3)
    have fd5 : F5 d = none := s5.fno (e4 _ _ hd3) fd3
    have nfd : d ≠ fp := fun z => by subst z; rw [e4 _ _ hd3] at n5; cases n5
    have hnew : ∀ x, (newOf es kvs x).length ≤ 60 := fun x => Nat.le_trans (Nat.le_trans (List.length_filter_le _ _) (nb_len es x)) (by omega)
    have hel := lev_len L
    refine x_for (K := K) (B := BN K Int 6) (it_list (ev_var rfl (Rep.mono s5.ff re))) s5.fh tgt_n fun F6 H6 s6 => ?_
    refine ⟨fun i F7 σ7 H7 => ∃ o6 o7, σ7 = [some b, some (.int s0), some (.ref d), some ve, some (.int (t + 1)), some (.ref fp), o6, o7] ∧ Stp F H F7 H7 ∧ Ex F6 F7 ∧ F7 d = none ∧ F7 fp = none ∧ H7 d = some (.dK kvs) ∧ H7 fp = some (.lst (((edge.take i).flatMap (newOf es kvs)).map V.int)),
      ⟨_, _, rfl, sB.trans s6, Ex.refl _, s6.fno hd5 fd5, s6.fno h5 f5, s6.hh _ _ hd5, s6.hh _ _ h5⟩, fun i F7 σ7 H7 ⟨_, _, _, q1, q2, _⟩ => ⟨q2, q1.fh⟩, ?_, ?_⟩
    · rintro i h F7 σ7 H7 hi ⟨o6, o7, rfl, sC, e67, fd7, ff7, hd7, hf7⟩ F8 H8 s8 σ8 ⟨u, ru, rfl⟩
      cases ru
      have hh := ((L.edg h).mp (List.mem_of_getElem? hi)).1
      have rb8 := Rep.mono (sC.ff.trans s8.ff) rb
      have hd8 := s8.hh _ _ hd7
      have hf8 := s8.hh _ _ hf7
      refine ⟨_, rfl, EvX.go (K := K) (x := newOf es kvs h) (EvX.is (ev_lc (fun y => !(valV kvs (.inl y)).isSome) id (it_list (ev_ix (ev_var rfl rb8) (ev_var (x := h) rfl rfl) (map_at (rng_at hh)))) tgt_n (Nat.le_trans (nb_len es h) (by omega)) (fun F' x σ' ⟨u, _, e⟩ => by subst e; rfl)
        (fun F' x σ' hm e ⟨u, ru, es⟩ => by subst es; exact et_test (ev_dnotin (ev_var rfl ru) (ev_obj rfl) hd8)) (fun F' x σ' hm hf e ⟨u, ru, es⟩ => by subst es; exact ev_var rfl ru)) (by rw [List.map_id]; rfl)) s8.fh fun v9 F9 H9 s9 r9 => ?_⟩
      obtain ⟨b9, vs9, rfl, hb9, hv9⟩ := r9
      have := all2_ints.mp hv9
      subst this
      have hf9 := s9.hh _ _ hf8
      have hl1 := flatMap_len hnew (edge.take i)
      have hl2 := hnew h
      have hl3 : (edge.take i).length ≤ edge.length := by rw [List.length_take]; exact Nat.min_le_right _ _
      have hl4 : (edge.take i).length * 60 ≤ 60 * 60 := Nat.mul_le_mul_right _ (by omega)
      have fd9 : F9 d = none := s9.fno hd8 (s8.fno hd7 fd7)
      have ff9 : F9 fp = none := s9.fno hf8 (s8.fno hf7 ff7)
      refine .inr ⟨fp, b9, _, _, rfl, rfl, hf9, s9.fh _ _ hb9, by rw [List.length_map, List.length_map]; exact Nat.le_of_lt (sz_lt (show _ < 100000 by omega)), F9, _, _, rfl, ((sC.trans s8).trans s9).mut hfp ff9, e67.trans (s8.ff.trans s9.ff), fd9, ff9, by rw [upd_ne nfd]; exact s9.hh _ _ hd8, ?_⟩
      rw [upd_same, List.take_add_one, hi]
      simp
    · rintro F7 σ7 H7 ⟨o6, o7, rfl, sC, e67, fd7, ff7, hd7, hf7⟩
      rw [List.take_length] at hf7
      have sD := sC.frz hfp ff7 hf7
      have rfu : R K (upd F7 fp (.lst ((edge.flatMap (newOf es kvs)).map V.int))) (.ref fp) (edge.flatMap (newOf es kvs)) := ⟨fp, _, rfl, upd_same, all2_ints.mpr rfl⟩
      have fd8 : upd F7 fp (.lst ((edge.flatMap (newOf es kvs)).map V.int)) d = none := by rw [upd_ne nfd]; exact fd7
      generalize upd F7 fp (.lst ((edge.flatMap (newOf es kvs)).map V.int)) = F8 at sD rfu fd8
      have hl1 := flatMap_len hnew edge
      have hl4 : edge.length * 60 ≤ 60 * 60 := Nat.mul_le_mul_right _ (by omega)
      refine ⟨_, rfl, .inr (.inr (.inl ⟨rfl, .inl ⟨_, hd7⟩⟩)), ?_⟩
      refine dc_const (K := K) (c := t + 1) (it_list (ev_var rfl rfu)) tgt_n (by omega) (fun F' x σ' ⟨u, _, e⟩ => by subst e; rfl) (fun F' x σ' e ⟨u, ru, es⟩ => by subst es; exact ev_var rfl ru) (fun F' x σ' e ⟨u, ru, es⟩ => by subst es; exact ev_var rfl rfl) H7 sD.fh (Ex.refl _) _ fun p kv2 F9 H9 s9 n9 f9 h9 l9 a9 v9 => ?_
      have hd9 := s9.hh _ _ hd7
      have L2 := lev_next Tn hS L (kvs' := mergeK kvs kv2) (valV_upd a9 v9)
      have hl2 := lev_len L2
      have hl3 := length_mergeK kv2 kvs
      have fd9 : F9 d = none := s9.fno hd7 fd8
      have hc := cnt_lt L hne
      refine ⟨d, p, kvs, kv2, rfl, rfl, (fun z => by subst z; rw [hd7] at n9; cases n9), hd9, h9, Nat.le_of_lt (sz_lt (show _ < 100000 by omega)), ?_⟩
      refine ⟨_, rfl, cnt n (dist es s0) (t + 1), F9, hc, t + 1, mergeK kvs kv2, _, .ref fp, _, _, _, rfl, (sD.trans s9).mut hd fd9, fd9, upd_same, Rep.mono s9.ff rfu, L2, by omega, rfl, by omega⟩
  · have hnil : edge = [] := by simpa using hb
    subst hnil
    refine x_ret (ev_lcy (K := K) (fun v => dist es s0 v) (it_rng1 ((ev_len (ev_var rfl rb')).is (show _ = n by rw [List.length_map, rng_len]; omega)) (by omega)) tgt_n (by rw [rng_len]; omega) (fun F' x σ' ⟨u, _, e⟩ => by subst e; rfl) fun F' x σ' hm e ⟨u, ru, es⟩ => by
      subst es
      exact ev_dget (ev_obj rfl) (ev_var rfl ru) (e4 _ _ hd3) (lev_done Tn hS L x (mem_rng.mp hm)) rfl) (sA.fh.trans e4) fun u F5 H5 s5 r5 => k u F5 H5 ((sA.ext e4).trans s5) r5
theorem ok_Village (T : Txt K mg) : NCal P w K mg base CX0 T.nVillage 2 "Village" ["self", "roads"] (sp_vil K T.nVillage) := by
  refine T.f_Village.ok sc_Village___init__ (fun vs H Q E h => ?_) (fun f cdv A outer s H vs Q E hr h => ?_)
  · obtain ⟨F, H0, x, dx, w, n, es, rfl, _⟩ := h
    rfl
  obtain ⟨F, H0, o, dx, w, n, es, rfl, hF0, sA, hn, ho, rw', Tn, hn6, k⟩ := h
  refine ⟨_, (pss_cons (ps_set (i := 2) sc_Village___init__.nd rfl (by first | exact Or.inl rfl | exact Or.inr rfl) (pe_listRg rfl (by rfl) T.b_list (prg_1 (by rfl) T.b_range (pe_op op_addA (pe_callB (k_len (K := K) rfl) (by rfl) T.b_len (by decide +kernel) (pa_cons (pv 1) pa_nil)) pe_int))))
    (pss_cons (ps_for PassesOwn.never rfl (k_enum (K := K) rfl (by rfl) T.b_enumerate (pa_cons (pv 1) pa_nil)) (k_tup (K := K) (n := 2) rfl rfl (pgs_cons (pg_name (i := 3) sc_Village___init__.nd rfl (by first | exact Or.inl rfl | exact Or.inr rfl)) (pgs_cons (pg_name (i := 4) sc_Village___init__.nd rfl (by first | exact Or.inl rfl | exact Or.inr rfl)) pgs_nil)))
    (pss_one (ps_set (i := 2) sc_Village___init__.nd rfl (by first | exact Or.inl rfl | exact Or.inr rfl) (pe_cal (ok_put_together T) hr (by decide) (by rfl) pass0 (pa_cons (pv 2) (pa_cons (pv 3) (pa_cons (pv 4) pa_nil)))))))
    (pss_cons (k_psfld (K := K) rfl (pv 0) (pe_callB (k_sorted (K := K) rfl) (by rfl) T.b_sorted (by decide +kernel) (pa_cons (pe_lc (own := [("x", 5), ("y", 6)]) rfl sc_Village___init__.nd (k_pilist (K := K) rfl (pv 1)) (k_blk (N := ["self", "roads", "parts", "number", "road", "x", "y", "house"]) (sc := defScope s_Village___init__) rfl rfl (by decide +kernel)) (fun _ _ _ _ _ => (k_tup (K := K) (n := 2) rfl rfl (pgs_cons (pg_name (i := 5) sc_Village___init__.nd rfl (by first | exact Or.inl rfl | exact Or.inr rfl)) (pgs_cons (pg_name (i := 6) sc_Village___init__.nd rfl (by first | exact Or.inl rfl | exact Or.inr rfl)) pgs_nil)))) (fun _ _ _ _ _ => pts_nil) (fun _ _ _ _ _ => (pe_tup (pa_cons (pe_callB (call_min2' rfl) (by rfl) T.b_min (by decide +kernel) (pa_cons (pv 5) (pa_cons (pv 6) pa_nil))) (pa_cons (pe_callB (call_max2' rfl) (by rfl) T.b_max (by decide +kernel) (pa_cons (pv 5) (pa_cons (pv 6) pa_nil))) pa_nil))))) pa_nil)) rfl)
    (pss_cons (k_psfld (K := K) rfl (pv 0) (pe_lc (own := [("house", 7)]) rfl sc_Village___init__.nd (k_pilist (K := K) rfl (pv 2)) (k_blk (N := ["self", "roads", "parts", "number", "road", "x", "y", "house"]) (sc := defScope s_Village___init__) rfl rfl (by decide +kernel)) (fun _ _ _ _ _ => (pg_name (i := 7) sc_Village___init__.nd rfl (by first | exact Or.inl rfl | exact Or.inr rfl))) (fun _ _ _ _ _ => pts_nil) (fun _ _ _ _ _ => (pe_lst pa_nil))) rfl)
    (pss_cons (ps_for PassesOwn.never rfl (k_pilist (K := K) rfl (k_fld (K := K) rfl (pv 0) rfl)) (k_tup (K := K) (n := 2) rfl rfl (pgs_cons (pg_name (i := 5) sc_Village___init__.nd rfl (by first | exact Or.inl rfl | exact Or.inr rfl)) (pgs_cons (pg_name (i := 6) sc_Village___init__.nd rfl (by first | exact Or.inl rfl | exact Or.inr rfl)) pgs_nil)))
    (pss_cons (ps_expr (k_bm (K := K) rfl PySem.F.plainAttrs_list PySem.F.slot_list_append PySem.F.type_list_append mt_append (k_ixA (K := K) rfl hr (k_fld (K := K) rfl (pv 0) rfl) (pv 5) (fun _ _ => rfl)) (pa_cons (pv 6) pa_nil)))
    (pss_one (ps_expr (k_bm (K := K) rfl PySem.F.plainAttrs_list PySem.F.slot_list_append PySem.F.type_list_append mt_append (k_ixA (K := K) rfl hr (k_fld (K := K) rfl (pv 0) rfl) (pv 6) (fun _ _ => rfl)) (pa_cons (pv 5) pa_nil))))))
    (pss_one (k_psfld (K := K) rfl (pv 0) (pe_lc (own := [("house", 7)]) rfl sc_Village___init__.nd (pi_range1 (by rfl) T.b_range (pa_cons (pe_callB (k_len (K := K) rfl) (by rfl) T.b_len (by decide +kernel) (pa_cons (pv 2) pa_nil)) pa_nil)) (k_blk (N := ["self", "roads", "parts", "number", "road", "x", "y", "house"]) (sc := defScope s_Village___init__) rfl rfl (by decide +kernel)) (fun _ _ _ _ _ => (pg_name (i := 7) sc_Village___init__.nd rfl (by first | exact Or.inl rfl | exact Or.inr rfl))) (fun _ _ _ _ _ => pts_nil) (fun _ _ _ _ _ => (pe_cal (ok_steps_from T) hr (by decide) (by rfl) pass0 (pa_cons (k_fld (K := K) rfl (pv 0) rfl) (pa_cons (pv 7) pa_nil))))) rfl))))))), ?_⟩
  have hlen := Tn.len
  have hpos := Tn.pos
  have cl := T.cl_Village
  have fo0 : F o = none := fresh_back hF0 hn
  -- parts
  refine x_asg (ev_rngL (K := K) (n := n) ((ev_addI (ev_len (ev_var rfl rw')) (ev_int (i := 1))).is hlen) (by omega)) sA.fh fun vp F1 H1 s1 r1 => ?_
  have sB := sA.trans s1
  refine x_for (K := K) (α := Int × (Int × Int)) (B := BP K Int (Int × Int) 3 4) (it_enum (ev_var rfl (Rep.mono s1.ff rw'))) s1.fh tgt_p fun F2 H2 s2 => ?_
  refine ⟨fun i F' σ' H' => ∃ (vp : V) (ps : List Int) (o3 o4 : Option V), σ' = [some (.ref o), some w, some vp, o3, o4, none, none, none] ∧ Stp F H0 F' H' ∧ Ex F2 F' ∧ F' o = none ∧ H' o = some (.ins T.nVillage dx []) ∧ R K F' vp ps ∧ (ps.length : Int) = n ∧ Sep es i ps,
    ⟨vp, rng n, _, _, rfl, sB.trans s2, Ex.refl _, s2.fno (s1.hh _ _ ho) (s1.fno ho fo0), s2.hh _ _ (s1.hh _ _ ho), Rep.mono s2.ff r1, by rw [rng_len]; omega, sep_start⟩, fun i F' σ' H' ⟨_, _, _, _, _, q1, q2, _⟩ => ⟨q2, q1.fh⟩, ?_, ?_⟩
  · rintro i ⟨num, road⟩ F' σ' H' hxi ⟨vp, ps, o3, o4, rfl, sC, e2, fo, ho', rp, hpl, hsep⟩ F4 H4 s4 σ2 ⟨u1, u2, q1, q2, rfl⟩
    obtain ⟨_, hei⟩ := enu_at hxi
    have hr' := Tn.tr.rng road (List.mem_of_getElem? hei)
    have hx : hs (ps.length : Int) road.1 := by rw [hpl]; exact hr'.1
    have hy : hs (ps.length : Int) road.2 := by rw [hpl]; exact hr'.2
    refine EvX.go (K := K) (ev_call3 (ev_var rfl (Rep.mono s4.ff rp)) (ev_var (x := num) rfl q1) (ev_var (x := road) rfl q2) ⟨by omega, hx, hy, sep_ne Tn hsep hei hpl⟩) s4.fh fun v F5 H5 s5 r5 => ?_
    refine ⟨F5, v, _, _, _, rfl, (sC.trans s4).trans s5, (e2.trans s4.ff).trans s5.ff, s5.fno (s4.hh _ _ ho') (s4.fno ho' fo), s5.hh _ _ (s4.hh _ _ ho'), r5, by show ((putT ps road.1 road.2).length : Int) = n; unfold putT; rw [List.length_map]; exact hpl, sep_step hsep hei hx hy⟩
  rintro F3 σ3 H3 ⟨vp, ps, o3, o4, rfl, sC, e2, fo3, ho3, rp, hpl, _⟩
  have rw3 := Rep.mono sC.ff rw'
  -- self.roads_held
  refine EvX.go (K := K) (x := held es) ((en_sortP (ev_lcy normR (it_list (ev_var rfl rw3)) tgt_p (by omega) (fun F' x σ' ⟨_, _, _, _, e⟩ => by subst e; rfl) fun F' x σ' hm e ⟨u1, u2, q1, q2, es⟩ => by
    subst es
    exact ev_pair (ev_min2 (ev_var rfl q1) (ev_var rfl q2)) (ev_max2 (ev_var rfl q1) (ev_var rfl q2)))).ev) sC.fh fun vr F4 H4 s4 r4 => ⟨_, rfl, o, T.nVillage, dx, [], rfl, s4.hh _ _ ho3, cl, T.na_Village_roads_held, by decide, ?_⟩
  have ho4 := s4.hh _ _ ho3
  have fo4 : F4 o = none := s4.fno ho3 fo3
  have s5 : Stp F H0 F4 (upd H4 o (.ins T.nVillage dx [(("roads_held" : Str), vr)])) := (sC.trans s4).mut hn fo4
  have ho5 : upd H4 o (.ins T.nVillage dx [(("roads_held" : Str), vr)]) o = some (.ins T.nVillage dx [(("roads_held" : Str), vr)]) := upd_same
  show tSeq _ _ _ _ (upd H4 o (.ins T.nVillage dx [(("roads_held" : Str), vr)]))
  generalize upd H4 o (.ins T.nVillage dx [(("roads_held" : Str), vr)]) = H5 at s5 ho5
  have rp4 := Rep.mono s4.ff rp
  -- self.beside_held
  refine u_fld (lc_empties (K := K) (it_list (ev_var rfl rp4)) tgt_n (by omega) (fun F' x σ' ⟨u, _, e⟩ => by subst e; rfl) H5 s5.fh (Ex.refl _) _ fun p as F6 H6 s6 np na b => ⟨_, rfl, o, T.nVillage, dx, _, rfl, s6.hh _ _ ho5, cl, T.na_Village_beside_held, by simp, ?_⟩)
  rw [rb_put]
  have ho6 := s6.hh _ _ ho5
  have fo6 : F6 o = none := s6.fno ho5 fo4
  have b7 := b.oth (u := .ins T.nVillage dx [(("roads_held" : Str), vr), (("beside_held" : Str), .ref p)]) ho6
  have s7 := (s5.trans s6).mut (o := .ins T.nVillage dx [(("roads_held" : Str), vr), (("beside_held" : Str), .ref p)]) hn fo6
  have ho7 : upd H6 o (.ins T.nVillage dx [(("roads_held" : Str), vr), (("beside_held" : Str), .ref p)]) o = some (.ins T.nVillage dx [(("roads_held" : Str), vr), (("beside_held" : Str), .ref p)]) := upd_same
  generalize upd H6 o (.ins T.nVillage dx [(("roads_held" : Str), vr), (("beside_held" : Str), .ref p)]) = H7 at b7 s7 ho7
  have hp0 : H0 p = none := Ex.dom s5.hh np
  have ha0 : ∀ a ∈ as, H0 a = none := fun a h => Ex.dom s5.hh (na a h)
  have hln : ps.length = n.toNat := by omega
  rw [hln, ← nb_nil] at b7
  have Th := tree_held Tn
  have rvr : R K F6 vr (held es) := Rep.mono s6.ff r4
  refine x_for (K := K) (α := Int × Int) (B := BP K Int Int 5 6) (it_list (ev_fldC (o := o) rfl ho7 cl T.na_Village_roads_held (rb_r _ _) rvr)) s7.fh tgt_p fun F8 H8 s8 => ?_
  refine ⟨fun i F' σ' H' => ∃ o5 o6, σ' = [some (.ref o), some w, some vp, o3, o4, o5, o6, none] ∧ Stp F H0 F' H' ∧ Ex F8 F' ∧ F' o = none ∧ H' o = some (.ins T.nVillage dx [(("roads_held" : Str), vr), (("beside_held" : Str), .ref p)]) ∧ Bk F' H' p as ((rng n).map (nb ((held es).take i))),
    ⟨_, _, rfl, s7.trans s8, Ex.refl _, s8.fno ho7 fo6, s8.hh _ _ ho7, b7.stp s8⟩, fun i F' σ' H' ⟨_, _, _, q1, q2, _⟩ => ⟨q2, q1.fh⟩, ?_, ?_⟩
  · rintro i ⟨x, y⟩ F' σ' H' hxi ⟨o5, o6, rfl, sD, e8, fo, ho', bk⟩ F9 H9 s9 σ2 ⟨u1, u2, q1, q2, rfl⟩
    cases q1; cases q2
    have hr' := Th.tr.rng (x, y) (List.mem_of_getElem? hxi)
    have hxy : x ≠ y := Tr.adj_ne Th (.inl (List.mem_of_getElem? hxi))
    have bk9 := bk.stp s9
    have ho9 := s9.hh _ _ ho'
    have hl1 : ∀ z, (nb ((held es).take i) z).length < 100000 := fun z => Nat.lt_of_le_of_lt (nb_len _ z) (by rw [List.length_take, held_len]; omega)
    have sD9 := sD.trans s9
    have fo9 : F9 o = none := s9.fno ho' fo
    refine app_bk (l := 0) (i := 5) (j := 6) rfl rfl rfl ho9 cl T.na_Village_beside_held (rb_b _ _) bk9 hr'.1.1 (map_at' hr'.1) (hl1 x) fun a ha hq => ?_
    have ham := List.mem_of_getElem? ha
    have bk10 := bk9.put (l' := nb ((held es).take i) x ++ [y]) ha
    have hoa : o ≠ a := fun z => by subst z; rw [ho9] at hq; cases hq
    have s10 := sD9.mut (o := .lst ((nb ((held es).take i) x ++ [y]).map V.int)) (ha0 a ham) (bk9.fa a ham)
    have ho10 : upd H9 a (.lst ((nb ((held es).take i) x ++ [y]).map V.int)) o = _ := (upd_ne hoa).trans ho9
    generalize upd H9 a (.lst ((nb ((held es).take i) x ++ [y]).map V.int)) = H10 at bk10 s10 ho10
    have hm2 : (((rng n).map (nb ((held es).take i))).set x.toNat (nb ((held es).take i) x ++ [y]))[y.toNat]? = some (nb ((held es).take i) y) := by
      rw [List.getElem?_set_ne (fun z => hxy (by have := hr'.1.1; have := hr'.2.1; omega))]
      exact map_at' hr'.2
    refine app_bk (l := 0) (i := 6) (j := 5) rfl rfl rfl ho10 cl T.na_Village_beside_held (rb_b _ _) bk10 hr'.2.1 hm2 (hl1 y) fun a2 ha2 hq2 => ?_
    have ham2 := List.mem_of_getElem? ha2
    have bk11 := bk10.put (l' := nb ((held es).take i) y ++ [x]) ha2
    have hoa2 : o ≠ a2 := fun z => by subst z; rw [ho10] at hq2; cases hq2
    rw [nb_set hr'.1 hr'.2 hxy] at bk11
    refine ⟨F9, _, _, rfl, s10.mut (ha0 a2 ham2) (bk10.fa a2 ham2), e8.trans s9.ff, fo9, (upd_ne hoa2).trans ho10, ?_⟩
    rw [List.take_add_one, hxi]
    exact bk11
  rintro F9 σ9 H9 ⟨o5, o6, rfl, sD, e8, fo9, ho9, bk⟩
  rw [List.take_length] at bk
  obtain ⟨F10, s10, e10, r10, hother⟩ := bk.frz (K := K) sD hp0 ha0
  obtain ⟨ne1, ne2⟩ := bk.ne ho9
  have fo10 : F10 o = none := (hother o ne1 ne2).trans fo9
  have e410 : Ex F4 F10 := ((s6.ff.trans s8.ff).trans e8).trans e10
  -- self.steps_held
  refine EvX.go (K := K) (ev_lcy (fun s => (rng n).map (dist (held es) s)) (it_rng1 ((ev_len (ev_var rfl (Rep.mono e410 rp4))).is hpl) (by omega)) tgt_n (by rw [rng_len]; omega) (fun F' x σ' ⟨u, _, e⟩ => by subst e; rfl) fun F' x σ' hm e ⟨u, ru, es⟩ => by
    subst es
    exact ev_stepsF (ev_fldC (o := o) rfl ho9 cl T.na_Village_beside_held (rb_b _ _) (Rep.mono e r10)) (ev_var rfl ru) Th hn6 (mem_rng.mp hm)) s10.fh fun vs F11 H11 s11 r11 => ⟨_, rfl, o, T.nVillage, dx, _, rfl, s11.hh _ _ ho9, cl, T.na_Village_steps_held, by simp, ?_⟩
  rw [rbs_put]
  have fo11 : F11 o = none := s11.fno ho9 fo10
  have s12 := ((s10.trans s11).mut (o := .ins T.nVillage dx (vfs vr (.ref p) vs)) hn fo11).frz hn fo11 upd_same
  have e12 : Ex F11 (upd F11 o (.ins T.nVillage dx (vfs vr (.ref p) vs))) := Ex.new fo11
  refine k _ _ s12 ⟨o, dx, vr, .ref p, vs, rfl, upd_same, held_ok Tn hn6 _, Rep.mono (((s8.ff.trans e8).trans (e10.trans s11.ff)).trans e12) rvr, Rep.mono (s11.ff.trans e12) r10, Rep.mono e12 r11⟩
theorem ok_Village___eq__ (T : Txt K mg) : MCal P w K mg base CX0 T.nVillage 1 "__eq__" ["self", "other"] (sp_eqV K T.nVillage) := by
  refine T.f_Village___eq__.ok sc_Village___eq__ (fun vs H Q E h => ?_) (fun f cdv A outer s H vs Q E hr h => ?_)
  · obtain ⟨F, x, v, w, rfl, _⟩ := h
    rfl
  obtain ⟨F, x, v, w, rfl, hF, rv, hC, hk⟩ := h
  refine ⟨_, (pss_one (ps_ret (pe_and (pe_callB (k_isi (K := K) rfl) (by rfl) T.b_isinstance (by decide +kernel) (pa_cons (pv 1) (pa_cons (pe_insN (by rfl) T.i_Village) pa_nil))) (pe_one (pe_cmpR (k_eqA (K := K) rfl hr.units) (k_fld (K := K) rfl (pv 0) rfl) (k_fld (K := K) rfl (pv 1) rfl) (nomark _)))))), ?_⟩
  rcases hk with ⟨y, ry, hy, k⟩ | ⟨t, ty, hk, k⟩
  · refine x_ret (K := K) (x := (true && decide (x.es = y.es) : Bool)) (ev_andV (ev_isiO (x := w) (ev_var rfl rfl) (fun F' u e r => by cases (show u = w from r); exact vil_ty T.i_Village hy (Rep.mono e ry)) T.i_Village.self) fun _ => ev_eq (K := K) (ev_roads (hC ▸ T.cl_Village) (hC ▸ T.na_Village_roads_held) (ev_var rfl rv)) (ev_roads (hy ▸ T.cl_Village) (hy ▸ T.na_Village_roads_held) (ev_var rfl ry))) hF fun u F' H' s r => ?_
    cases r
    exact k H' s.hh
  · refine x_ret (K := K) (x := (false && decide (x.es = x.es) : Bool)) (ev_andV (ev_isiO (x := w) (ev_var rfl rfl) (fun F' u e r => by cases (show u = w from r); exact tyx_up e ty) hk) fun z => by cases z) hF fun u F' H' s r => ?_
    cases r
    exact k H' s.hh
theorem ok_Village_apart (T : Txt K mg) : MCal P w K mg base CX0 T.nVillage 3 "apart" ["self", "x", "y"] (Pu3 K (fun (v : Vil) (x y : Int) => v.C = T.nVillage ∧ hs v.n x ∧ hs v.n y) (fun v x y => dist v.es x y)) := by
  refine T.f_Village_apart.ok sc_Village_apart (fun vs H Q E h => ?_) (fun f cdv A outer s H vs Q E hr h => ?_)
  · obtain ⟨F, x, y, z, v, w, t, rfl, _⟩ := h
    rfl
  obtain ⟨F, vil, x, y, v, w, t, rfl, hF, rv, rx, ry, ⟨hC, hx, hy⟩, k⟩ := h
  cases rx; cases ry
  refine ⟨_, (pss_cons (ps_expr (pe_cal (ok_need_houses T) hr (by decide) (by rfl) pass0 (pa_cons (pv 0) (pa_cons (pe_lst (pa_cons (pv 1) (pa_cons (pv 2) pa_nil))) pa_nil))))
    (pss_one (ps_ret (pe_mcal (ok_Village_far T) hr (by decide) pass0 (pv 0) (pa_cons (pv 1) (pa_cons (pv 2) pa_nil)))))), ?_⟩
  refine u_drop (EvX.go (K := K) (ev_call2 (ev_var (x := vil) rfl rv) (ev_lst (xs := [x, y]) (el_cons (ev_var rfl rfl) (el_cons (ev_var rfl rfl) el_nil)) (by simp)) ⟨hC, fun z hz => by
    simp only [List.mem_cons, List.not_mem_nil, or_false] at hz
    rcases hz with rfl | rfl
    · exact hx
    · exact hy⟩) hF fun v1 F1 H1 s1 r1 => ?_)
  exact x_ret (K := K) (ev_vm2 (ev_var rfl (Rep.mono s1.ff rv)) (ev_var (x := x) rfl rfl) (ev_var (x := y) rfl rfl) hC (by decide +kernel) ⟨hC, hx, hy⟩) s1.fh fun u F' H' s2 r2 => k u F' H' (s1.trans s2) r2
theorem ok_Reports (T : Txt K mg) : NCal P w K mg base CX0 T.nReports 1 "Reports" ["self", "village"] (sp_rpt K T.nReports) := by
  refine T.f_Reports.ok sc_Reports___init__ (fun vs H Q E h => ?_) (fun f cdv A outer s H vs Q E hr h => ?_)
  · obtain ⟨F, H0, x, dx, w, v, rfl, _⟩ := h
    rfl
  obtain ⟨F, H0, o, dx, w, v, rfl, hF0, sA, hn, ho, rw', k⟩ := h
  refine ⟨_, (pss_cons (k_psfld (K := K) rfl (pv 0) (pv 1) rfl)
    (pss_one (k_psfld (K := K) rfl (pv 0) (pe_lst pa_nil) rfl))), ?_⟩
  have cl := T.cl_Reports
  have fo0 : F o = none := fresh_back hF0 hn
  refine u_fld (EvX.go (K := K) (ev_var (x := v) rfl rw') sA.fh fun vv F1 H1 s1 r1 => ⟨_, rfl, o, T.nReports, dx, [], rfl, s1.hh _ _ ho, cl, T.na_Reports_village_held, by decide, ?_⟩)
  rw [rfs_put0]
  have ho1 := s1.hh _ _ ho
  have fo1 : F1 o = none := s1.fno ho fo0
  have s2 : Stp F H0 F1 (upd H1 o (.ins T.nReports dx [(("village_held" : Str), vv)])) := (sA.trans s1).mut hn fo1
  have ho2 : upd H1 o (.ins T.nReports dx [(("village_held" : Str), vv)]) o = some (.ins T.nReports dx [(("village_held" : Str), vv)]) := upd_same
  generalize upd H1 o (.ins T.nReports dx [(("village_held" : Str), vv)]) = H2 at s2 ho2
  refine u_fld1 (EvX.go (K := K) (F := F1) (ev_nillst (α := Int × Int)) s2.fh fun vh F3 H3 s3 r3 => ⟨_, rfl, o, T.nReports, dx, _, rfl, s3.hh _ _ ho2, cl, T.na_Reports_heard_held, by simp, ?_⟩)
  rw [rfs_put1]
  have fo3 : F3 o = none := s3.fno ho2 fo1
  exact k _ _ ((s2.trans s3).mut hn fo3) ⟨fo3, dx, vv, vh, upd_same, Rep.mono s3.ff r1, r3, ⟨⟨rng v.n, id_tale (vok_of (.inr ⟨_, rw'⟩)).tree, fun e he => by cases he⟩, .nil, .nil⟩⟩
theorem ok_Reports_village (T : Txt K mg) : MCal P w K mg base CX0 T.nReports 1 "village" ["self"] (Pu1 K (fun r : Rpt => r.C = T.nReports) (fun r => r.v)) := by
  refine T.f_Reports_village.ok sc_Reports_village (fun vs H Q E h => ?_) (fun f cdv A outer s H vs Q E hr h => ?_)
  · obtain ⟨F, x, v, rfl, _⟩ := h
    rfl
  obtain ⟨F, r, v, rfl, hF, rr, hC, k⟩ := h
  refine ⟨_, (pss_one (ps_ret (k_fld (K := K) rfl (pv 0) rfl))), ?_⟩
  exact x_ret (ev_rv (hC ▸ T.cl_Reports) (hC ▸ T.na_Reports_village_held) (ev_var rfl rr)) hF fun u F' H' s1 r1 => k u F' H' s1 r1
theorem ok_Reports_reports (T : Txt K mg) : MCal P w K mg base CX0 T.nReports 1 "reports" ["self"] (PuL1 K (fun r : Rpt => r.C = T.nReports) (fun r => r.rs)) := by
  refine T.f_Reports_reports.ok sc_Reports_reports (fun vs H Q E h => ?_) (fun f cdv A outer s H vs Q E hr h => ?_)
  · obtain ⟨F, x, v, rfl, _⟩ := h
    rfl
  obtain ⟨F, r, v, rfl, hF, rr, hC, k⟩ := h
  refine ⟨_, (pss_one (ps_ret (pe_callTy (k_list (K := K) rfl rfl) (by rfl) T.b_list (by decide +kernel) (pa_cons (k_fld (K := K) rfl (pv 0) rfl) pa_nil)))), ?_⟩
  exact EvN.go (en_list (ev_rr (hC ▸ T.cl_Reports) (hC ▸ T.na_Reports_heard_held) (ev_var rfl rr))) hF fun p us F' H' s1 n0 n1 h1 r1 => k p us F' H' s1 n0 n1 h1 r1
theorem ok_Reports_tell (T : Txt K mg) : MCal P w K mg base CX0 T.nReports 3 "tell" ["self", "x", "y"] (sp_tell K T.nReports T.nVillage) := by
  refine T.f_Reports_tell.ok sc_Reports_tell (fun vs H Q E h => ?_) (fun f cdv A outer s H vs Q E hr h => ?_)
  · obtain ⟨F, a, r, x, y, rfl, _⟩ := h
    rfl
  obtain ⟨F, a, r, x, y, rfl, hF, fk, hC, hV, hfit, k⟩ := h
  refine ⟨_, (pss_cons (ps_expr (pe_cal (ok_need_houses T) hr (by decide) (by rfl) pass0 (pa_cons (k_fld (K := K) rfl (pv 0) rfl) (pa_cons (pe_lst (pa_cons (pv 1) (pa_cons (pv 2) pa_nil))) pa_nil))))
    (pss_cons (ps_for PassesOwn.never rfl (k_pilist (K := K) rfl (k_fld (K := K) rfl (pv 0) rfl)) (k_tup (K := K) (n := 2) rfl rfl (pgs_cons (pg_name (i := 3) sc_Reports_tell.nd rfl (by first | exact Or.inl rfl | exact Or.inr rfl)) (pgs_cons (pg_name (i := 4) sc_Reports_tell.nd rfl (by first | exact Or.inl rfl | exact Or.inr rfl)) pgs_nil)))
    (pss_one (ps_if (pt_cmpR op_gt (pe_mcal (ok_Village_far T) hr (by decide) pass0 (k_fld (K := K) rfl (pv 0) rfl) (pa_cons (pv 2) (pa_cons (pv 4) pa_nil))) (pe_mcal (ok_Village_far T) hr (by decide) pass0 (k_fld (K := K) rfl (pv 0) rfl) (pa_cons (pv 1) (pa_cons (pv 3) pa_nil))) (nomark _))
    (pss_one ps_never)
    pss_nil)))
    (pss_one (ps_if (pt_cmpR (k_notInA (K := K) rfl hr) (pe_tup (pa_cons (pv 1) (pa_cons (pv 2) pa_nil))) (k_fld (K := K) rfl (pv 0) rfl) (by rfl))
    (pss_one (k_psfld (K := K) rfl (pv 0) (pe_callB (k_sorted (K := K) rfl) (by rfl) T.b_sorted (by decide +kernel) (pa_cons (pe_op op_addA (k_fld (K := K) rfl (pv 0) rfl) (pe_lst (pa_cons (pe_tup (pa_cons (pv 1) (pa_cons (pv 2) pa_nil))) pa_nil))) pa_nil)) rfl))
    pss_nil)))), ?_⟩
  obtain ⟨fa, dx, vv, vh, hA, rv, rr, ok⟩ := id fk
  have vok := vok_of (.inr ⟨_, rv⟩)
  have Tv := vok.tree
  have cl : Cls K r.C := hC ▸ T.cl_Reports
  have n1 : NoAttr K r.C "village_held" := hC ▸ T.na_Reports_village_held
  have n2 : NoAttr K r.C "heard_held" := hC ▸ T.na_Reports_heard_held
  have hxy := fits_rng hfit List.mem_cons_self
  have hlen := fits_len ok.fits ok.nd
  have hn6 := vok.small
  refine u_drop (EvX.go (K := K) (ev_call2 (ev_fldC rfl hA cl n1 (rfs_v _ _) rv) (ev_lst (xs := [x, y]) (el_cons (ev_var rfl rfl) (el_cons (ev_var rfl rfl) el_nil)) (by simp)) ⟨hV, fun z hz => by
    simp only [List.mem_cons, List.not_mem_nil, or_false] at hz
    rcases hz with rfl | rfl
    · exact hxy.1
    · exact hxy.2⟩) hF fun v1 F1 H1 s1 r1 => ?_)
  have hA1 := s1.hh _ _ hA
  refine x_for (K := K) (α := Int × Int) (B := BP K Int Int 3 4) (it_list (ev_fldC rfl hA1 cl n2 (rfs_h _ _) (Rep.mono s1.ff rr))) s1.fh tgt_p fun F2 H2 s2 => ?_
  refine ⟨fun i F' σ' H' => ∃ o3 o4, σ' = [some (.ref a), some (.int x), some (.int y), o3, o4] ∧ Stp F H F' H' ∧ Ex F2 F', ⟨_, _, rfl, s1.trans s2, Ex.refl _⟩, fun i F' σ' H' ⟨_, _, _, q1, q2⟩ => ⟨q2, q1.fh⟩, ?_, ?_⟩
  · rintro i ⟨x', y'⟩ F' σ' H' hxi ⟨o3, o4, rfl, sB, e2⟩ F4 H4 s4 σ2 ⟨u1, u2, q1, q2, rfl⟩
    cases q1; cases q2
    have hm := List.mem_of_getElem? hxi
    have sC := sB.trans s4
    have hA4 := sC.hh _ _ hA
    have rv4 := Rep.mono sC.ff rv
    have hr' := fits_rng ok.fits hm
    have hf := fits_far Tv hfit List.mem_cons_self (List.mem_cons_of_mem _ hm)
    refine y_if (et_test (ev_gt (K := K) (ev_vm2 (ev_fldC rfl hA4 cl n1 (rfs_v _ _) rv4) (ev_var (x := y) rfl rfl) (ev_var (x := y') rfl rfl) hV (by decide +kernel) ⟨hV, hxy.2, hr'.2⟩) (ev_vm2 (ev_fldC rfl hA4 cl n1 (rfs_v _ _) rv4) (ev_var (x := x) rfl rfl) (ev_var (x := x') rfl rfl) hV (by decide +kernel) ⟨hV, hxy.1, hr'.1⟩))) s4.fh (fun hb H5 e5 => ?_) fun hb H5 e5 => ?_
    · exfalso
      have := of_decide_eq_true hb
      simp only at hf
      omega
    · exact ⟨F4, _, _, rfl, sC.ext e5, e2.trans s4.ff⟩
  · rintro F' σ' H' ⟨o3, o4, rfl, sB, e2⟩
    have hA4 := sB.hh _ _ hA
    have rr4 := Rep.mono sB.ff rr
    have fa4 : F' a = none := sB.fno hA fa
    refine y_if (et_test (ev_notIn (K := K) (ev_pair (ev_var (x := x) rfl rfl) (ev_var (x := y) rfl rfl)) (ev_fldC rfl hA4 cl n2 (rfs_h _ _) rr4))) sB.fh (fun hb H5 e5 => ?_) fun hb H5 e5 => ?_
    · have hni : (x, y) ∉ r.rs := fun z => by simp [z] at hb
      have sC := sB.ext e5
      have hA5 := e5 _ _ hA4
      refine EvX.go (K := K) (x := sortP (r.rs ++ [(x, y)])) (F := F') ((en_sortP (ev_cat (ev_fldC rfl hA5 cl n2 (rfs_h _ _) rr4) (ev_lst (el_cons (ev_pair (ev_var (x := x) rfl rfl) (ev_var (x := y) rfl rfl)) el_nil) (by simp)) (by simp; omega))).ev) sC.fh fun v6 F6 H6 s6 r6 => ⟨_, rfl, a, r.C, dx, _, rfl, s6.hh _ _ hA5, cl, n2, by simp [rfs], ?_⟩
      rw [rfs_put]
      have fa6 : F6 a = none := s6.fno hA5 fa4
      have hA6 := s6.hh _ _ hA5
      have e : tellL r.rs (x, y) = sortP (r.rs ++ [(x, y)]) := if_neg hni
      have ok' := rok_tell ok hfit
      rw [e] at ok' k
      exact k F6 _ ((sC.trans s6).m.mut (.inl rfl) fa6 (fun z => by rw [hA6] at z; cases z)) ⟨fa6, dx, vv, v6, upd_same, Rep.mono (sB.ff.trans s6.ff) rv, r6, ok'⟩
    · have hi : (x, y) ∈ r.rs := by
        apply Classical.byContradiction
        intro z
        simp [z] at hb
      have sC := sB.ext e5
      have e : tellL r.rs (x, y) = r.rs := if_pos hi
      rw [e] at k
      exact k F' H5 sC.m (fk.stp sC)
theorem ok_Reports_take_back (T : Txt K mg) : MCal P w K mg base CX0 T.nReports 3 "take_back" ["self", "x", "y"] (sp_back K T.nReports T.nVillage) := by
  refine T.f_Reports_take_back.ok sc_Reports_take_back (fun vs H Q E h => ?_) (fun f cdv A outer s H vs Q E hr h => ?_)
  · obtain ⟨F, a, r, x, y, rfl, _⟩ := h
    rfl
  obtain ⟨F, a, r, x, y, rfl, hF, fk, hC, hV, hin, k⟩ := h
  refine ⟨_, (pss_cons (ps_expr (pe_cal (ok_need_houses T) hr (by decide) (by rfl) pass0 (pa_cons (k_fld (K := K) rfl (pv 0) rfl) (pa_cons (pe_lst (pa_cons (pv 1) (pa_cons (pv 2) pa_nil))) pa_nil))))
    (pss_cons (ps_if (pt_cmpR (k_notInA (K := K) rfl hr) (pe_tup (pa_cons (pv 1) (pa_cons (pv 2) pa_nil))) (k_fld (K := K) rfl (pv 0) rfl) (by rfl))
    (pss_one ps_never)
    pss_nil)
    (pss_one (k_psfld (K := K) rfl (pv 0) (pe_lc (own := [("report", 3)]) rfl sc_Reports_take_back.nd (k_pilist (K := K) rfl (k_fld (K := K) rfl (pv 0) rfl)) (k_blk (N := ["self", "x", "y", "report"]) (sc := defScope s_Reports_take_back) rfl rfl (by decide +kernel)) (fun _ _ _ _ _ => (pg_name (i := 3) sc_Reports_take_back.nd rfl (by first | exact Or.inl rfl | exact Or.inr rfl))) (fun _ _ _ _ _ => (pts_one (pt_cmpR (k_neA (K := K) rfl hr.units) (pv 3) (pe_tup (pa_cons (pv 1) (pa_cons (pv 2) pa_nil))) (nomark _)))) (fun _ _ _ _ _ => (pv 3))) rfl)))), ?_⟩
  obtain ⟨fa, dx, vv, vh, hA, rv, rr, ok⟩ := id fk
  have vok := vok_of (.inr ⟨_, rv⟩)
  have cl : Cls K r.C := hC ▸ T.cl_Reports
  have n1 : NoAttr K r.C "village_held" := hC ▸ T.na_Reports_village_held
  have n2 : NoAttr K r.C "heard_held" := hC ▸ T.na_Reports_heard_held
  have hxy := fits_rng ok.fits hin
  have hlen := fits_len ok.fits ok.nd
  have hn6 := vok.small
  refine u_drop (EvX.go (K := K) (ev_call2 (ev_fldC rfl hA cl n1 (rfs_v _ _) rv) (ev_lst (xs := [x, y]) (el_cons (ev_var rfl rfl) (el_cons (ev_var rfl rfl) el_nil)) (by simp)) ⟨hV, fun z hz => by
    simp only [List.mem_cons, List.not_mem_nil, or_false] at hz
    rcases hz with rfl | rfl
    · exact hxy.1
    · exact hxy.2⟩) hF fun v1 F1 H1 s1 r1 => ?_)
  have hA1 := s1.hh _ _ hA
  have rr1 := Rep.mono s1.ff rr
  have fa1 : F1 a = none := s1.fno hA fa
  refine x_if (et_test (ev_notIn (K := K) (ev_pair (ev_var (x := x) rfl rfl) (ev_var (x := y) rfl rfl)) (ev_fldC rfl hA1 cl n2 (rfs_h _ _) rr1))) s1.fh (fun hb H5 e5 => ?_) fun hb H5 e5 => ?_
  · simp [hin] at hb
  have sC := s1.ext e5
  have hA5 := e5 _ _ hA1
  refine u_fld1 (EvX.go (K := K) (x := r.rs.filter fun e => !decide (e = (x, y))) (F := F1) (EvX.is (ev_lc (fun e : Int × Int => !decide (e = (x, y))) id (it_list (ev_fldC rfl hA5 cl n2 (rfs_h _ _) rr1)) tgt_n (by omega) (fun F' x σ' ⟨u, _, e⟩ => by subst e; rfl)
    (fun F' e0 σ' hm e ⟨u, ru, es'⟩ => by
      subst es'
      exact et_test (ev_ne (ev_var rfl ru) (ev_pair (ev_var (x := x) rfl rfl) (ev_var (x := y) rfl rfl))))
    (fun F' e0 σ' hm hf e ⟨u, ru, es'⟩ => by subst es'; exact ev_var rfl ru)) (List.map_id _)) sC.fh fun v6 F6 H6 s6 r6 => ⟨_, rfl, a, r.C, dx, _, rfl, s6.hh _ _ hA5, cl, n2, by simp [rfs], ?_⟩)
  rw [rfs_put]
  have fa6 : F6 a = none := s6.fno hA5 fa1
  have hA6 := s6.hh _ _ hA5
  exact k F6 _ ((sC.trans s6).m.mut (.inl rfl) fa6 (fun z => by rw [hA6] at z; cases z)) ⟨fa6, dx, vv, v6, upd_same, Rep.mono (s1.ff.trans s6.ff) rv, r6, rok_drop ok⟩
theorem ok_Reports_lets_live (T : Txt K mg) : MCal P w K mg base CX0 T.nReports 2 "lets_live" ["self", "x", "p"] (Pu3 K (fun (r : Rpt) (x p : Int) => r.C = T.nReports ∧ r.v.C = T.nVillage ∧ hs r.v.n x ∧ hs r.v.n p) (fun r x p => r.rs.all fun e => decide (dist r.v.es p e.2 ≤ dist r.v.es x e.1))) := by
  refine T.f_Reports_lets_live.ok sc_Reports_lets_live (fun vs H Q E h => ?_) (fun f cdv A outer s H vs Q E hr h => ?_)
  · obtain ⟨F, x, y, z, v, w, t, rfl, _⟩ := h
    rfl
  obtain ⟨F, r, x, p, v, w, t, rfl, hF, rr, rx, rp, ⟨hC, hV, hx, hp⟩, k⟩ := h
  cases rx; cases rp
  refine ⟨_, (pss_cons (ps_set (i := 3) sc_Reports_lets_live.nd rfl (by first | exact Or.inl rfl | exact Or.inr rfl) (k_fld (K := K) rfl (pv 0) rfl))
    (pss_one (ps_ret (pe_callB (k_all (K := K) rfl rfl) (by rfl) T.b_all (by decide +kernel) (pa_cons (pe_lc (own := [("here", 4), ("there", 5)]) rfl sc_Reports_lets_live.nd (k_pilist (K := K) rfl (k_fld (K := K) rfl (pv 0) rfl)) (k_blk (N := ["self", "x", "p", "village", "here", "there"]) (sc := defScope s_Reports_lets_live) rfl rfl (by decide +kernel)) (fun _ _ _ _ _ => (k_tup (K := K) (n := 2) rfl rfl (pgs_cons (pg_name (i := 4) sc_Reports_lets_live.nd rfl (by first | exact Or.inl rfl | exact Or.inr rfl)) (pgs_cons (pg_name (i := 5) sc_Reports_lets_live.nd rfl (by first | exact Or.inl rfl | exact Or.inr rfl)) pgs_nil)))) (fun _ _ _ _ _ => pts_nil) (fun _ _ _ _ _ => (pe_cmpR op_le (pe_mcal (ok_Village_far T) hr (by decide) pass0 (pv 3) (pa_cons (pv 2) (pa_cons (pv 5) pa_nil))) (pe_mcal (ok_Village_far T) hr (by decide) pass0 (pv 3) (pa_cons (pv 1) (pa_cons (pv 4) pa_nil))) (nomark _)))) pa_nil))))), ?_⟩
  obtain ⟨ok, vok⟩ := rok_of rr
  have hlen := fits_len ok.fits ok.nd
  have hn6 := vok.small
  refine x_asg (K := K) (ev_rv (hC ▸ T.cl_Reports) (hC ▸ T.na_Reports_village_held) (ev_var (x := r) rfl rr)) hF fun vv F1 H1 s1 rv => ?_
  refine x_ret (K := K) (EvX.is (ev_all (ev_lcy (fun e : Int × Int => decide (dist r.v.es p e.2 ≤ dist r.v.es x e.1)) (it_list (ev_rr (hC ▸ T.cl_Reports) (hC ▸ T.na_Reports_heard_held) (ev_var (x := r) rfl (Rep.mono s1.ff rr)))) tgt_p (by omega) (fun F' x σ' ⟨_, _, _, _, e⟩ => by subst e; rfl) fun F' e0 σ' hm e ⟨u1, u2, q1, q2, es'⟩ => by
    subst es'
    have hr' := fits_rng ok.fits hm
    exact ev_le (ev_vm2 (ev_var rfl (Rep.mono e rv)) (ev_var (x := p) rfl rfl) (ev_var rfl q2) hV (by decide +kernel) ⟨hV, hp, hr'.2⟩) (ev_vm2 (ev_var rfl (Rep.mono e rv)) (ev_var (x := x) rfl rfl) (ev_var rfl q1) hV (by decide +kernel) ⟨hV, hx, hr'.1⟩))) (by rw [List.all_map]; rfl)) s1.fh fun u F3 H3 s3 r3 => k u F3 H3 (s1.trans s3) r3
theorem ok_Reports_may_live (T : Txt K mg) : MCal P w K mg base CX0 T.nReports 3 "may_live" ["self", "x"] (PuL2 K (fun (r : Rpt) (x : Int) => r.C = T.nReports ∧ r.v.C = T.nVillage ∧ hs r.v.n x) (fun r x => mayE r.v.n r.v.es r.rs x)) := by
  refine T.f_Reports_may_live.ok sc_Reports_may_live (fun vs H Q E h => ?_) (fun f cdv A outer s H vs Q E hr h => ?_)
  · obtain ⟨F, x, y, v, w, rfl, _⟩ := h
    rfl
  obtain ⟨F, r, x, v, w, rfl, hF, rr, rx, ⟨hC, hV, hx⟩, k⟩ := h
  cases rx
  refine ⟨_, (pss_cons (ps_expr (pe_cal (ok_need_houses T) hr (by decide) (by rfl) pass0 (pa_cons (k_fld (K := K) rfl (pv 0) rfl) (pa_cons (pe_lst (pa_cons (pv 1) pa_nil)) pa_nil))))
    (pss_one (ps_ret (pe_lc (own := [("p", 2)]) rfl sc_Reports_may_live.nd (pi_range1 (by rfl) T.b_range (pa_cons (pe_mcal0 (ok_Village_houses T) hr (by decide) pass0 (k_fld (K := K) rfl (pv 0) rfl)) pa_nil)) (k_blk (N := ["self", "x", "p"]) (sc := defScope s_Reports_may_live) rfl rfl (by decide +kernel)) (fun _ _ _ _ _ => (pg_name (i := 2) sc_Reports_may_live.nd rfl (by first | exact Or.inl rfl | exact Or.inr rfl))) (fun _ _ _ _ _ => (pts_one (pt_val (pe_mcal (ok_Reports_lets_live T) hr (by decide) pass0 (pv 0) (pa_cons (pv 1) (pa_cons (pv 2) pa_nil)))))) (fun _ _ _ _ _ => (pv 2)))))), ?_⟩
  obtain ⟨ok, vok⟩ := rok_of rr
  have hn6 := vok.small
  have hpos := vok.tree.pos
  refine u_drop (EvX.go (K := K) (ev_call2 (ev_rv (hC ▸ T.cl_Reports) (hC ▸ T.na_Reports_village_held) (ev_var (x := r) rfl rr)) (ev_lst (xs := [x]) (el_cons (ev_var rfl rfl) el_nil) (by simp)) ⟨hV, fun z hz => by rw [List.mem_singleton.mp hz]; exact hx⟩) hF fun v1 F2 H2 s2 r2 => ?_)
  have rr2 := Rep.mono s2.ff rr
  refine EvN.go (K := K) (EvN.is (en_lc (fun p => r.rs.all fun e => decide (dist r.v.es p e.2 ≤ dist r.v.es x e.1)) id (it_rng1 (ev_vm0 (f := fun v => v.n) (ev_rv (hC ▸ T.cl_Reports) (hC ▸ T.na_Reports_village_held) (ev_var (x := r) rfl rr2)) hV (by decide +kernel) hV) (by omega)) tgt_n (by rw [rng_len]; omega) (fun F' x σ' ⟨u, _, e⟩ => by subst e; rfl)
    (fun F' p σ' hm e ⟨u, ru, es'⟩ => by
      subst es'
      exact et_B (ev_rm2 (f := fun r x p => r.rs.all fun e => decide (dist r.v.es p e.2 ≤ dist r.v.es x e.1)) (ev_var (x := r) rfl (Rep.mono e rr2)) (ev_var (x := x) rfl rfl) (ev_var rfl ru) hC (by decide +kernel) ⟨hC, hV, hx, mem_rng.mp hm⟩))
    (fun F' p σ' hm hf e ⟨u, ru, es'⟩ => by subst es'; exact ev_var rfl ru)) (List.map_id _)) s2.fh fun p us F' H' s3 n0 n1 h1 r1 => k p us F' H' (s2.trans s3) (Ex.dom s2.hh n0) n1 h1 r1
theorem ok_law_take (T : Txt K mg) : Cal P w K mg base CX0 1 "_law_take" s_law_take ["deck", "many"] sp_take := by
  refine T.f_law_take.ok sc_law_take (fun vs H Q E h => ?_) (fun f cdv A outer s H vs Q E hr h => ?_)
  · obtain ⟨t, g, F, n, many, rfl, _⟩ := h
    rfl
  obtain ⟨t, g, F, n, many, rfl, hF, hT, hn, hm0, hm1, k⟩ := h
  refine ⟨_, (pss_cons (ps_while PassesOwn.never (PW.pt (pw_and (pt_cmpR (k_neA (K := K) rfl hr.units) (k_ixA (K := K) rfl hr (pv 0) pe_int (fun _ _ => rfl)) (pe_lst pa_nil) (nomark _)) (pw_and1 (pt_cmpR op_lt (k_ixA (K := K) rfl hr (k_ixA (K := K) rfl hr (pv 0) pe_int (fun _ _ => rfl)) (pe_un un_neg pe_int) (fun _ _ => rfl)) pe_int (nomark _)))))
    (pss_one (ps_expr (k_bm0 (K := K) rfl PySem.F.plainAttrs_list PySem.F.slot_list_pop PySem.F.type_list_pop mt_pop (k_ixA (K := K) rfl hr (pv 0) pe_int (fun _ _ => rfl))))))
    (pss_cons (ps_if (pt_cmpR (k_neA (K := K) rfl hr.units) (k_ixA (K := K) rfl hr (pv 0) pe_int (fun _ _ => rfl)) (pe_lst pa_nil) (nomark _))
    (pss_cons (ps_set (i := 2) sc_law_take.nd rfl (by first | exact Or.inl rfl | exact Or.inr rfl) (pe_op op_mod (k_ixA (K := K) rfl hr (k_ixA (K := K) rfl hr (pv 0) pe_int (fun _ _ => rfl)) (pe_un un_neg pe_int) (fun _ _ => rfl)) (pv 1)))
    (pss_cons (ps_asg (pe_op op_fdivW (k_ixA (K := K) rfl hr (k_ixA (K := K) rfl hr (pv 0) pe_int (fun _ _ => rfl)) (pe_un un_neg pe_int) (fun _ _ => rfl)) (pv 1)) (pg_sub (k_ixA (K := K) rfl hr (pv 0) pe_int (fun _ _ => rfl)) (pe_un un_neg pe_int) set_list))
    (pss_one (ps_ret (pv 2)))))
    pss_nil)
    (pss_cons (ps_asg (pe_op op_addA (k_ixA (K := K) rfl hr (pv 0) pe_int (fun _ _ => rfl)) pe_int) (pg_sub (pv 0) pe_int set_list))
    (pss_cons (ps_set (i := 3) sc_law_take.nd rfl (by first | exact Or.inl rfl | exact Or.inr rfl) (k_ixA (K := K) rfl hr (pv 0) pe_int (fun _ _ => rfl)))
    (pss_cons (ps_set (i := 4) sc_law_take.nd rfl (by first | exact Or.inl rfl | exact Or.inr rfl) (pe_op op_addA (pe_op op_mul (pe_op op_addA (k_ixA (K := K) rfl hr (pv 0) pe_int (fun _ _ => rfl)) pe_int) (pe_op op_powW (pe_op op_addA (pv 3) pe_int) pe_int)) (pe_op op_mul pe_int (pv 3))))
    (pss_one (ps_ret (pe_op op_mod (pe_op op_fdivW (pe_op op_mod (pe_op op_powW (pe_op op_mod (pv 4) pe_int) pe_int) pe_int) pe_int) (pv 1))))))))), ?_⟩
  obtain ⟨f1, f2, ne, ds, fold, turn, h1, h2, h3, h4, h5, h6⟩ := hT
  have m200 : many.natAbs < 2 ^ 200 := by have q40 : (10 : Int) ^ 60 < 2 ^ 200 := (by decide); omega
  have evg : ∀ {F G : Hp} {σ : L2.St} {fold turn : Int}, σ[0]? = some (some (.ref t)) → G t = some (.lst [.ref g, .int fold, .int turn]) → EvX K F G σ (tIx K (tVar 0) (tC (.int 0))) (V.ref g) := fun hs q => ev_cell hs q rfl rfl
  have evl : ∀ {F G : Hp} {σ : L2.St} {fold turn : Int} {ds : List Int}, σ[0]? = some (some (.ref t)) → G t = some (.lst [.ref g, .int fold, .int turn]) → G g = some (.lst (ds.map V.int)) → ds ≠ [] → EvX K F G σ (tIx K (tIx K (tVar 0) (tC (.int 0))) (tUn (rU fun i => .int (-i)) (tC (.int 1)))) (ds.getLastD 0) := fun hs q q2 hne =>
    ev_ixC (evg hs q) (ev_neg ev_int) q2 (atI_map (atI_lastD hne)) rfl
  refine x_while (fun m F' σ' H' => F' = F ∧ ∃ (ds : List Int), m = ds.length ∧ σ' = [some (.ref t), some (.int many), none, none, none] ∧ StpM (TM t g) F H F H' ∧
    H' t = some (.lst [.ref g, .int fold, .int turn]) ∧ H' g = some (.lst (ds.map V.int))) ds.length (F := F) ⟨rfl, ds, rfl, rfl, StpM.refl hF, h1, h2⟩ ?_
  rintro m F' σ' H' ⟨rfl, ds, rfl, rfl, s0, q1, q2⟩
  refine ⟨s0.fh, _, et_and (et_test (ev_neE (evg rfl q1) q2)) fun hb => et_test (ev_lt (evl rfl q1 q2 (by simpa using hb)) ev_int), fun hb H2 e2 => ?_, fun hb H2 e2 => ?_⟩
  · have hds : ds ≠ [] := by
      intro z
      subst z
      simp at hb
    have p1 := e2 _ _ q1
    have p2 := e2 _ _ q2
    have hl : 0 < ds.length := List.length_pos_iff.mpr hds
    have hy : (ds.map V.int)[(ds.map V.int).length - 1]? = some (V.int (ds[ds.length - 1]'(by omega))) := by
      rw [List.length_map, List.getElem?_map, List.getElem?_eq_getElem (by omega)]; rfl
    refine .inl ⟨_, rfl, .inl ⟨t, _, 0, _, rfl, rfl, SqL.of p1, rfl, .inl ⟨rfl, _, SqL.of p2⟩, g, _, _, rfl, rfl, p2, hy, ?_⟩⟩
    refine ⟨ds.dropLast.length, F', by rw [List.length_dropLast]; omega, rfl, ds.dropLast, rfl, rfl, (s0.ext e2).mut (.inl (.inr rfl)) f2 (fun z => by rw [p2] at z; cases z), by rw [upd_ne ne]; exact p1, ?_⟩
    rw [upd_same, List.map_dropLast]
  have p1 := e2 _ _ q1
  have p2 := e2 _ _ q2
  have s1 := s0.ext e2
  refine x_if (F := F') (et_test (ev_neE (K := K) (evg rfl p1) p2)) s1.fh (fun hb3 H3 e3 => ?_) fun _ H3 e3 => ?_
  · have hds : ds ≠ [] := by simpa using hb3
    have p3 := e3 _ _ p1
    have p4 := e3 _ _ p2
    have s2 := s1.ext e3
    refine x_asg (ev_modI (K := K) (evl rfl p3 p4 hds) (ev_var (x := many) rfl rfl) hm0) s2.fh fun v F4 H4 s4 r4 => ?_
    cases r4
    have p5 := s4.hh _ _ p3
    have p6 := s4.hh _ _ p4
    refine (ev_divI (K := K) (evl rfl p5 p6 hds) (ev_var (x := many) rfl rfl) (wide_div (b := 200) hm0 m200 (by decide) (by decide))).go s4.fh fun v F5 H5 s5 r5 => ?_
    cases r5
    have p7 := s5.hh _ _ p5
    have p8 := s5.hh _ _ p6
    have hl : 0 < ds.length := List.length_pos_iff.mpr hds
    refine .inl ⟨_, rfl, .inl ⟨t, _, 0, _, rfl, rfl, SqL.of p7, rfl, 1, rfl, g, _, -1, ds.length - 1, rfl, rfl, p8, ?_, ?_⟩⟩
    · rw [List.length_map]
      unfold ixN
      rw [if_neg (by decide), if_pos (by omega)]
      congr 1
      omega
    have eS : (ds.map V.int).set (ds.length - 1) (V.int (ds.getLastD 0 / many)) = (ds.set (ds.length - 1) (ds.getLastD 0 / many)).map V.int := by rw [List.map_set]
    rw [eS]
    have s6 := (s2.trans (Stp.of_ex s2.fh ((s4.hh).trans s5.hh)).m).mut (.inl (.inr rfl)) (p := g) (o := .lst ((ds.set (ds.length - 1) (ds.getLastD 0 / many)).map V.int)) f2 (fun z => by rw [p8] at z; cases z)
    refine ⟨_, rfl, k _ _ (Int.emod_nonneg _ (by omega)) (Int.emod_lt_of_pos _ hm0) s6 ⟨f1, f2, ne, _, fold, turn, by rw [upd_ne ne]; exact p7, upd_same, h3, h4, h5, by omega⟩⟩
  · have p3 := e3 _ _ p1
    have p4 := e3 _ _ p2
    have s2 := s1.ext e3
    refine (ev_addI (K := K) (ev_cell (x := turn) rfl p3 rfl rfl) ev_int).go s2.fh fun v F5 H5 s5 r5 => ?_
    cases r5
    have p7 := s5.hh _ _ p3
    have p8 := s5.hh _ _ p4
    refine ⟨_, rfl, t, _, 2, 2, rfl, rfl, p7, rfl, ?_⟩
    have s6 := (s2.ext s5.hh).mut (.inl (.inl rfl)) (p := t) (o := .lst ([V.ref g, V.int fold, V.int turn].set 2 (V.int (turn + 1)))) f1 (fun z => by rw [p7] at z; cases z)
    have p9 : upd H5 t (.lst ([V.ref g, V.int fold, V.int turn].set 2 (V.int (turn + 1)))) t = some (.lst [.ref g, .int fold, .int (turn + 1)]) := upd_same
    have p10 : upd H5 t (.lst ([V.ref g, V.int fold, V.int turn].set 2 (V.int (turn + 1)))) g = some (.lst (ds.map V.int)) := by rw [upd_ne (Ne.symm ne)]; exact p8
    generalize upd H5 t (.lst ([V.ref g, V.int fold, V.int turn].set 2 (V.int (turn + 1)))) = H6 at s6 p9 p10
    dsimp only
    refine x_asg (ev_cell (K := K) (x := turn + 1) rfl p9 rfl rfl) s6.fh fun v F7 H7 s7 r7 => ?_
    cases r7
    have p11 := s7.hh _ _ p9
    refine x_asg (ev_addI (K := K) (ev_mulI (ev_addI (ev_cell (x := fold) rfl p11 rfl rfl) ev_int) (ev_powI (ev_addI (ev_var (x := turn + 1) rfl rfl) ev_int) ev_int (pow_ok (k := 40) (n := 3) (by omega) (by decide) (by decide))) (.inl (by omega))) (ev_mulI ev_int (ev_var (x := turn + 1) rfl rfl) (.inl (by decide)))) s7.fh fun v F8 H8 s8 r8 => ?_
    cases r8
    generalize (fold + 40503) * (turn + 1 + 5) ^ (3 : Int).toNat + 69621 * (turn + 1) = mx
    have hmx := Int.emod_lt_of_pos mx (show (0 : Int) < 2305843009213693951 by decide)
    have hmn := Int.emod_nonneg mx (show (2305843009213693951 : Int) ≠ 0 by decide)
    have hmx2 : (mx % 2305843009213693951).natAbs < 2 ^ 61 := by
      have : (2305843009213693951 : Int) < 2 ^ 61 := by decide
      omega
    refine x_ret (ev_modI (K := K) (ev_divI (ev_modI (ev_powI (ev_modI (ev_var (x := mx) rfl rfl) ev_int (by decide)) ev_int (pow_ok (k := 61) (n := 3) hmx2 (by decide) (by decide))) ev_int (by decide)) ev_int (wide_div (b := 7) (by decide) (by decide) (by decide) (by decide))) (ev_var (x := many) rfl rfl) hm0) s8.fh fun v F9 H9 s9 r9 => ?_
    cases r9
    have sZ := s6.ext ((s7.hh.trans s8.hh).trans s9.hh)
    exact k _ _ (Int.emod_nonneg _ (by omega)) (Int.emod_lt_of_pos _ hm0) sZ ⟨f1, f2, ne, ds, fold, turn + 1, s9.hh _ _ (s8.hh _ _ p11), s9.hh _ _ (s8.hh _ _ (s7.hh _ _ p10)), h3, h4, by omega, by omega⟩
theorem ok_law_deck (T : Txt K mg) : Cal P w K mg base CX0 1 "_law_deck" s_law_deck ["script"] (sp_deck K) := by
  refine T.f_law_deck.ok sc_law_deck (fun vs H Q E h => ?_) (fun f cdv A outer s H vs Q E hr h => ?_)
  · obtain ⟨F, sc, s, rfl, _⟩ := h
    rfl
  obtain ⟨F, sc, s, rfl, hF, hS, hn, k⟩ := h
  refine ⟨_, (pss_cons (ps_set (i := 1) sc_law_deck.nd rfl (by first | exact Or.inl rfl | exact Or.inr rfl) (pe_lst pa_nil))
    (pss_cons (ps_set (i := 2) sc_law_deck.nd rfl (by first | exact Or.inl rfl | exact Or.inr rfl) pe_int)
    (pss_cons (ps_for PassesOwn.never rfl (k_pilist (K := K) rfl (pv 0)) (pg_name (i := 3) sc_law_deck.nd rfl (by first | exact Or.inl rfl | exact Or.inr rfl))
    (pss_cons (ps_set (i := 2) sc_law_deck.nd rfl (by first | exact Or.inl rfl | exact Or.inr rfl) (pe_op op_mod (pe_op op_addA (pe_op op_mul (pv 2) pe_int) (pv 3)) pe_int))
    (pss_one (ps_if (pt_cmpR op_ge (pe_callB call_abs' (by rfl) T.b_abs (by decide +kernel) (pa_cons (pv 3) pa_nil)) (pe_op op_powW pe_int pe_int) (nomark _))
    (pss_one (ps_expr (k_bm (K := K) rfl PySem.F.plainAttrs_list PySem.F.slot_list_insert PySem.F.type_list_insert mt_insert (pv 1) (pa_cons pe_int (pa_cons (pe_op op_sub (pe_callB call_abs' (by rfl) T.b_abs (by decide +kernel) (pa_cons (pv 3) pa_nil)) (pe_op op_powW pe_int pe_int)) pa_nil)))))
    pss_nil))))
    (pss_one (ps_ret (pe_lst (pa_cons (pv 1) (pa_cons (pv 2) (pa_cons pe_int pa_nil))))))))), ?_⟩
  refine x_asgN (K := K) (en_lst (α := Int) el_nil (Nat.zero_le _)) hF fun g us F1 H1 s1 n0 n1 h1 r1 => ?_
  cases r1
  refine x_asg (K := K) ev_int s1.fh fun v F2 H2 s2 r2 => ?_
  cases r2
  have hG : H g = none := n0
  have hFg : F g = none := fresh_back hF hG
  have e2 : Ex F H2 := hF.trans (s1.hh.trans s2.hh)
  refine x_for (K := K) (α := Int) (xs := s.ns) (F := F) (it_scr (ev_var (v := sc) rfl hS)) e2 tgt_n fun F3 H3 s3 => ?_
  refine ⟨fun i F' σ' H' => F' = F3 ∧ Ex F3 H' ∧ ∃ (fold : Int) (ds : List Int) (o3 : Option V), σ' = [some sc, some (.ref g), some (.int fold), o3] ∧ Ex H H' ∧ H' g = some (.lst (ds.map V.int)) ∧ ds.length ≤ i ∧ 0 ≤ fold ∧ fold < 2 ^ 61,
    ⟨rfl, s3.fh, _, [], _, rfl, (s1.hh.trans s2.hh).trans s3.hh, s3.hh _ _ (s2.hh _ _ h1), Nat.le_refl _, by decide, by decide⟩, ?_, ?_, ?_⟩
  · rintro i F' σ' H' ⟨rfl, h, _⟩
    exact ⟨Ex.refl _, h⟩
  · rintro i x F' σ' H' hx ⟨rfl, q0, fold, ds, o3, rfl, q1, q2, q3, q4, q5⟩ F4 H4 s4 σ2 ⟨v, rv, rfl⟩
    cases rv
    have hi : i < s.ns.length := (List.getElem?_eq_some_iff.mp hx).1
    have p2 := s4.hh _ _ q2
    have e4 : Ex F4 H4 := s4.fh
    refine x_asg (ev_modI (K := K) (ev_addI (ev_mulI (ev_var (x := fold) rfl rfl) ev_int (.inl (by omega))) (ev_var (x := x) rfl rfl)) ev_int (by decide)) e4 fun v F5 H5 s5 r5 => ?_
    cases r5
    have hm1 := Int.emod_lt_of_pos (fold * 1000003 + x) (show (0 : Int) < 2305843009213693951 by decide)
    have hm2 := Int.emod_nonneg (fold * 1000003 + x) (show (2305843009213693951 : Int) ≠ 0 by decide)
    have hm3 : (2305843009213693951 : Int) < 2 ^ 61 := by decide
    generalize (fold * 1000003 + x) % 2305843009213693951 = mx at *
    have p3 := s5.hh _ _ p2
    have e6 : Ex H H5 := (q1.trans s4.hh).trans s5.hh
    have e36 : Ex F' H5 := (q0.trans s4.hh).trans s5.hh
    refine y_if (et_test (ev_ge (K := K) (ev_abs (ev_var (x := x) rfl rfl)) (ev_powI ev_int ev_int (pow_ok (k := 4) (n := 18) (by decide) (by decide) (by decide))))) s5.fh (fun _ H7 e7 => ?_) fun _ H7 e7 => ?_
    · refine ⟨_, rfl, .inl ⟨rfl, _, SqL.of (e7 _ _ p3)⟩, ?_⟩
      refine (ev_sub (K := K) (F := F5) (ev_abs (ev_var (x := x) rfl rfl)) (ev_powI ev_int ev_int (pow_ok (k := 4) (n := 18) (by decide) (by decide) (by decide)))).go (s5.fh.trans e7) fun v F8 H8 s8 r8 => ?_
      cases r8
      have p8 := s8.hh _ _ (e7 _ _ p3)
      refine ⟨g, _, 0, _, rfl, rfl, p8, by rw [List.length_map]; exact Nat.lt_of_lt_of_le (show ds.length < 2000 by omega) (by decide), by decide, by decide, ?_⟩
      have hF3g : F' g = none := (s3.nw _ _ (s2.hh _ _ h1)).trans hFg
      refine ⟨F', rfl, Ex.mut ((e36.trans e7).trans s8.hh) hF3g, mx, _ :: ds, _, rfl, Ex.mut ((e6.trans e7).trans s8.hh) hG, by rw [upd_same]; rfl, by simp; omega, hm2, by omega⟩
    · exact ⟨F', rfl, e36.trans e7, mx, ds, _, rfl, e6.trans e7, e7 _ _ p3, by omega, hm2, by omega⟩
  · rintro F' σ' H' ⟨rfl, q0, fold, ds, o3, rfl, q1, q2, q3, q4, q5⟩
    refine ⟨_, rfl, _, rfl, ⟨by show 3 ≤ sizeLine; decide, fun t ht => ?_⟩⟩
    have ntg : t ≠ g := fun z => by subst z; rw [q2] at ht; cases ht
    have tH : H t = none := Ex.dom q1 ht
    have ex : Ex H' (upd H' t (.lst [.ref g, .int fold, .int 0])) := Ex.new ht
    exact k t g _ (Stp.of_ex hF (q1.trans ex)) tH hG ⟨fresh_back hF tH, hFg, ntg, ds, fold, 0, upd_same, ex _ _ q2, q4, by omega, by omega, by omega⟩
theorem ok_law_roads (T : Txt K mg) : Cal P w K mg base CX0 2 "_law_roads" s_law_roads ["deck", "most"] (sp_dvil K) := by
  refine T.f_law_roads.ok sc_law_roads (fun vs H Q E h => ?_) (fun f cdv A outer s H vs Q E hr h => ?_)
  · obtain ⟨b, g, F, n, most, rfl, _⟩ := h
    rfl
  obtain ⟨b, g, F, n, most, rfl, hF, hI, hn, m0, m1, k⟩ := h
  refine ⟨_, (pss_cons (ps_par (i := 2) (j := 3) rfl sc_law_roads.nd rfl rfl (by decide) rfl rfl (pa_cons (pe_op op_addA pe_int (pe_cal (ok_law_take T) hr (by decide) (by rfl) pass0 (pa_cons (pv 0) (pa_cons (pv 1) pa_nil)))) (pa_cons (pe_cal (ok_law_take T) hr (by decide) (by rfl) pass0 (pa_cons (pv 0) (pa_cons pe_int pa_nil))) pa_nil)) (by rfl))
    (pss_cons (ps_set (i := 4) sc_law_roads.nd rfl (by first | exact Or.inl rfl | exact Or.inr rfl) (pe_listRg rfl (by rfl) T.b_list (prg_1 (by rfl) T.b_range (pv 2))))
    (pss_cons (ps_setLc (i := 5) (own := [("k", 7)]) rfl sc_law_roads.nd rfl rfl (sw_true rfl rfl rfl (by decide +kernel)) (pi_range1 (by rfl) T.b_range (pa_cons (pv 2) pa_nil)) (k_blk (N := ["deck", "most", "many", "shape", "left", "named", "found", "k", "at", "pair"]) (sc := defScope s_law_roads) rfl rfl (by decide +kernel)) (fun _ _ _ _ _ => (pg_name (i := 7) sc_law_roads.nd rfl (by first | exact Or.inl rfl | exact Or.inr rfl))) (fun _ _ _ _ _ => pts_nil) (fun _ _ _ _ _ => (k_bm (K := K) rfl PySem.F.plainAttrs_list PySem.F.slot_list_pop PySem.F.type_list_pop mt_popAt (pv 4) (pa_cons (pe_cal (ok_law_take T) hr (by decide) (by rfl) pass0 (pa_cons (pv 0) (pa_cons (pe_callB (k_len (K := K) rfl) (by rfl) T.b_len (by decide +kernel) (pa_cons (pv 4) pa_nil)) pa_nil))) pa_nil))))
    (pss_cons (ps_set (i := 6) sc_law_roads.nd rfl (by first | exact Or.inl rfl | exact Or.inr rfl) (pe_lst pa_nil))
    (pss_cons (ps_for PassesOwn.never rfl (pi_range2 (by rfl) T.b_range (pa_cons pe_int (pa_cons (pv 2) pa_nil))) (pg_name (i := 7) sc_law_roads.nd rfl (by first | exact Or.inl rfl | exact Or.inr rfl))
    (pss_cons (ps_set (i := 8) sc_law_roads.nd rfl (by first | exact Or.inl rfl | exact Or.inr rfl) (k_ixA (K := K) rfl hr (pe_lst (pa_cons (pe_op op_sub (pv 7) pe_int) (pa_cons pe_int (pa_cons (pe_cal (ok_law_take T) hr (by decide) (by rfl) pass0 (pa_cons (pv 0) (pa_cons (pv 7) pa_nil))) (pa_cons (pe_callB (call_max2' rfl) (by rfl) T.b_max (by decide +kernel) (pa_cons pe_int (pa_cons (pe_op op_sub (pe_op op_sub (pv 7) pe_int) (pe_cal (ok_law_take T) hr (by decide) (by rfl) pass0 (pa_cons (pv 0) (pa_cons pe_int pa_nil)))) pa_nil))) pa_nil))))) (pv 3) (fun _ _ => rfl)))
    (pss_cons (ps_set (i := 9) sc_law_roads.nd rfl (by first | exact Or.inl rfl | exact Or.inr rfl) (k_ixA (K := K) rfl hr (pe_lst (pa_cons (pe_tup (pa_cons (k_ixA (K := K) rfl hr (pv 5) (pv 8) (fun _ _ => rfl)) (pa_cons (k_ixA (K := K) rfl hr (pv 5) (pv 7) (fun _ _ => rfl)) pa_nil))) (pa_cons (pe_tup (pa_cons (k_ixA (K := K) rfl hr (pv 5) (pv 7) (fun _ _ => rfl)) (pa_cons (k_ixA (K := K) rfl hr (pv 5) (pv 8) (fun _ _ => rfl)) pa_nil))) pa_nil))) (pe_cal (ok_law_take T) hr (by decide) (by rfl) pass0 (pa_cons (pv 0) (pa_cons pe_int pa_nil))) (fun _ _ => rfl)))
    (pss_one (ps_expr (k_bm (K := K) rfl PySem.F.plainAttrs_list PySem.F.slot_list_insert PySem.F.type_list_insert mt_insert (pv 6) (pa_cons (pe_cal (ok_law_take T) hr (by decide) (by rfl) pass0 (pa_cons (pv 0) (pa_cons (pe_op op_addA (pe_callB (k_len (K := K) rfl) (by rfl) T.b_len (by decide +kernel) (pa_cons (pv 6) pa_nil)) pe_int) pa_nil))) (pa_cons (pv 9) pa_nil))))))))
    (pss_one (ps_ret (pv 6)))))))), ?_⟩
  have h60 : (1000 : Int) ≤ 10 ^ 60 := by decide
  refine u_par (u_cons (EvM.go (K := K) (S := deckS b g) (em_add em_int fun _ _ => em_draw rfl draw_deck (em_pure (ev_var (x := most) rfl rfl)) (by omega) (fun i h => by subst h; omega)) hF hI fun v many F1 H1 s1 i1 p1 r1 =>
    u_cons (EvM.go (K := K) (S := deckS b g) (em_draw rfl draw_deck em_int (by omega) (fun i h => by subst h; decide)) s1.fh i1 fun v kind F2 H2 s2 i2 p2 r2 => u_nil ⟨_, _, rfl, ?_⟩)))
  cases r1
  cases r2
  have hmany : 0 < many ∧ many ≤ most := by
    obtain ⟨x, y, rfl, ⟨z, rfl, q0, q1⟩, rfl⟩ := p1
    omega
  have hkind : 0 ≤ kind ∧ kind < 4 := by
    obtain ⟨z, rfl, q0, q1⟩ := p2
    omega
  refine x_asgN (K := K) (en_rng (ev_var (x := many) rfl rfl) (by omega)) s2.fh fun l us F3 H3 s3 n3 f3 h3 r3 => ?_
  have := all2_ints.mp r3
  subst this
  have sA := (s1.trans s2).trans s3.m
  have i3 := (deckS b g).stp i2 s3
  have nMl : ¬ (deckS b g).M l := fun z => ((deckS b g).no i2 z).1 n3
  refine u_asg (lc_pops (K := K) (S := deckS b g) (F0 := F) (H0 := H) draw_deck (ev_var (x := many) rfl rfl) s3.fh sA i3 (fun _ => rfl) (fun _ => rfl) (fun _ => rfl) ((s1.trans s2).dm _ n3) f3 nMl h3 r3 (by omega) (by rw [rng_len]; omega) (by rw [rng_len]; omega) (by omega) fun q us4 names vr rest F4 H4 sB hq0 hq3 fq nMq h4 r4 hl4 fl4 rr4 hperm hnl i4 e34 nql => ?_)
  have hrest : rest = [] := by
    have := hperm.length_eq
    rw [List.length_append, rng_len] at this
    exact List.eq_nil_of_length_eq_zero (by omega)
  subst hrest
  rw [List.append_nil] at hperm
  have sB2 := sB.frz hq0 fq h4
  have i5' := (deckS b g).frz (o := .lst us4) i4 nMq
  have rn : R K (upd F4 q (.lst us4)) (.ref q) names := ⟨q, us4, rfl, upd_same, r4.imp fun _ _ => Rep.mono (Ex.new fq)⟩
  generalize upd F4 q (.lst us4) = F6 at sB2 i5' rn
  have hnd : names.Nodup := hperm.nodup_iff.mpr (rng_nodup _)
  refine x_asgN (K := K) (en_lst (K := K) (α := Int × Int) el_nil (Nat.zero_le _)) sB2.fh fun fo us6 F7 H7 s7 n7 f7 h7 r7 => ?_
  cases r7
  have hfo : H fo = none := sB2.dm _ n7
  have sC := sB2.trans s7.m
  have i7 := (deckS b g).stp i5' s7
  refine x_for (K := K) (B := BN K Int 7) (it_rng2 (ev_int (i := 1)) (ev_var (x := many) rfl rfl) (by omega)) s7.fh tgt_n fun F8 H8 s8 => ?_
  refine ⟨fun i F' σ' H' => ∃ (us : List V) (es : Tr.Roads) (o7 o8 o9 : Option V), σ' = [some (.ref b), some (.int most), some (.int many), some (.int kind), some (.ref l), some (.ref q), some (.ref fo), o7, o8, o9] ∧ StpM (deckS b g).M F H F' H' ∧ Ex F8 F' ∧ F' fo = none ∧ H' fo = some (.lst us) ∧ All2 (R K F') us es ∧
      TreeOn (Vn names i) es ∧ es.length = i ∧ Deck F' H' b g (n + 50 + 4 * (i : Int)),
    ⟨[], [], _, _, _, rfl, sC.trans s8.m, Ex.refl _, s8.fno h7 f7, s8.hh _ _ h7, .nil, vn_zero (List.getElem?_eq_getElem (by omega)), rfl, (deckS b g).le ((deckS b g).stp i7 s8) (by omega)⟩, fun i F' σ' H' ⟨_, _, _, _, _, _, q1, q2, _⟩ => ⟨q2, q1.fh⟩, ?_, ?_⟩
  · rintro i kk F' σ' H' hki ⟨us, es, o7, o8, o9, rfl, sD, e8, fo', ho', ru, hT, hle, hI'⟩ F9 H9 s9 σ2 ⟨u, rv, rfl⟩
    cases rv
    obtain ⟨hkk, hil⟩ : kk = (i : Int) + 1 ∧ (i : Int) + 1 < many := by
      have h1 := (List.getElem?_eq_some_iff.mp hki).1
      rw [rng2_len] at h1
      rw [rng2_get h1] at hki
      have := Option.some.inj hki
      omega
    subst hkk
    have sE := sD.trans s9.m
    have i9 := (deckS b g).stp hI' s9
    have rn9 : R K F9 (.ref q) names := Rep.mono (s7.ff.trans (s8.ff.trans (e8.trans s9.ff))) rn
    have ho9 := s9.hh _ _ ho'
    have fo9 : F9 fo = none := s9.fno ho' fo'
    have hc1 : ∀ (n : Int) {σ : L2.St} {F : Hp}, σ[7]? = some (some (.int ((i : Int) + 1))) → EvM K (deckS b g) n n F σ (tOp (rI0 fun i j => .int (i - j)) (tVar 7) (tC (.int 1))) (fun x => 0 ≤ x ∧ x < (i : Int) + 1) := fun n σ F h => EvM.imp (em_pure (ev_sub (ev_var (x := (i : Int) + 1) h rfl) ev_int)) fun x e => by subst e; omega
    refine u_asg (EvM.go (K := K) (S := deckS b g) (n := n + 50 + 4 * (i : Int)) (em_ix (α := Int) (P2 := fun _ j => j = kind) (em_lst (eml_all (hc1 _ rfl) (eml_all (EvM.imp em_int fun x e => by subst e; omega) (eml_all (EvM.imp (em_draw rfl draw_deck (em_pure (ev_var (x := (i : Int) + 1) rfl rfl)) (by omega) (fun i h => by subst h; omega)) fun x ⟨y, e, a, b⟩ => by subst e; exact ⟨a, b⟩)
      (eml_all (EvM.imp (em_max2 em_int fun _ _ => em_sub (em_sub (em_pure (ev_var (x := (i : Int) + 1) rfl rfl)) fun _ _ => em_int) fun _ _ => em_draw rfl draw_deck em_int (by omega) (fun i h => by subst h; omega)) fun x ⟨a, b, ha, ⟨c, d, ⟨e, f, he, hf, hc⟩, ⟨z, hz, hd, hd2⟩, hb⟩, hx⟩ => by subst ha he hf hc hb hx; omega) eml_nilA)))) fun xs h => by omega)
      (fun _ _ => em_pure (ev_var (x := kind) rfl rfl)) (fun xs j h e => by subst e; omega)) s9.fh i9 fun v sk F10 H10 s10 i10 p10 r10 => ?_)
    obtain ⟨xs, ik, ⟨_, hxs⟩, _, hsk⟩ := p10
    obtain ⟨sk0, sk1⟩ := hxs _ (List.mem_of_getElem? hsk)
    cases r10
    have rn10 := Rep.mono s10.ff rn9
    have hu : names[sk.toNat]? = Option.some names[sk.toNat] := List.getElem?_eq_getElem (by omega)
    have hv : names[i + 1]? = Option.some names[i + 1] := List.getElem?_eq_getElem (by omega)
    generalize names[sk.toNat] = nu at hu
    generalize names[i + 1] = nv at hv
    have hatu : atI names sk = Option.some nu := by
      have := atI_nat hu
      rwa [Int.toNat_of_nonneg sk0] at this
    have hatv : atI names ((i : Int) + 1) = Option.some nv := by
      have := atI_nat hv
      simpa using this
    have ea : ∀ {G : Hp}, EvX K F10 G [some (V.ref b), some (.int most), some (.int many), some (.int kind), some (.ref l), some (.ref q), some (.ref fo), some (.int ((i : Int) + 1)), some (.int sk), o9] (tIx K (tVar 5) (tVar 8)) nu := ev_ix (ev_var rfl rn10) (ev_var (x := sk) rfl rfl) hatu
    have eb : ∀ {G : Hp}, EvX K F10 G [some (V.ref b), some (.int most), some (.int many), some (.int kind), some (.ref l), some (.ref q), some (.ref fo), some (.int ((i : Int) + 1)), some (.int sk), o9] (tIx K (tVar 5) (tVar 7)) nv := ev_ix (ev_var rfl rn10) (ev_var (x := (i : Int) + 1) rfl rfl) hatv
    refine u_asg (EvM.go (K := K) (S := deckS b g) (em_ix (α := Int × Int) (P2 := fun _ j => 0 ≤ j ∧ j < 2) (em_lst (eml_all (P := fun e : Int × Int => e = (nu, nv) ∨ e = (nv, nu)) (EvM.imp (em_pure (ev_pair ea eb)) fun e h => .inl h) (eml_all (EvM.imp (em_pure (ev_pair eb ea)) fun e h => .inr h) eml_nilA)) fun xs h => by omega)
      (fun _ _ => EvM.imp (em_draw rfl draw_deck em_int (by omega) (fun i h => by subst h; omega)) fun x ⟨y, e, a, b⟩ => by subst e; exact ⟨a, b⟩) (fun xs j h e => by omega)) s10.fh i10 fun vp pr F11 H11 s11 i11 p11 r11 => ?_)
    obtain ⟨xs2, ik2, ⟨_, hxs2⟩, _, hpr⟩ := p11
    have hpr2 := hxs2 _ (List.mem_of_getElem? hpr)
    have nMfo : ¬ (deckS b g).M fo := fun z => ((deckS b g).no i5' z).1 n7
    have ho11 := s11.hh _ _ nMfo (s10.hh _ _ nMfo ho9)
    have fo11 : F11 fo = none := s11.fno (s10.hh _ _ nMfo ho9) (s10.fno ho9 fo9)
    have hul := ru.len
    refine ⟨_, rfl, .inl ⟨rfl, _, SqL.of ho11⟩, ?_⟩
    refine go_draw (K := K) (S := deckS b g) (i := (us.length : Int) + 1) rfl draw_deck (ev_addI (ev_lenC (ev_obj rfl) ho11) ev_int) s11.fh i11 (by omega) (by omega) (by omega) fun d F12 H12 d0 d1 s12 i12 => ?_
    have rp12 := Rep.mono s12.ff r11
    have ho12 := s12.hh _ _ nMfo ho11
    have fo12 : F12 fo = none := s12.fno ho11 fo11
    refine ⟨_, rfl, fo, us, d, vp, rfl, rfl, ho12, sz_lt (show us.length < 100000 by omega), d0, by omega, ?_⟩
    have sF := ((sE.trans s10).trans s11).trans s12
    have e12 := (s9.ff.trans s10.ff).trans (s11.ff.trans s12.ff)
    have ru12 := ru.imp fun _ _ => Rep.mono (K := K) (α := Int × Int) e12
    refine ⟨F12, _, es.take d.toNat ++ [pr] ++ es.drop d.toNat, _, _, _, rfl, sF.mut (.inr hfo) fo12 (fun z => by rw [ho12] at z; cases z), e8.trans e12, fo12, upd_same,
      ((ru12.take d.toNat).app (.cons rp12 .nil)).app (ru12.drop d.toNat), vn_step hnd hT (by omega) hu hv d.toNat hpr2, ?_, ?_⟩
    · simp only [List.length_append, List.length_take, List.length_drop, List.length_cons, List.length_nil]
      omega
    · exact (deckS b g).le ((deckS b g).upd_ok i12 nMfo fo12 ho12) (by omega)
  · rintro F' σ' H' ⟨us, es, o7, o8, o9, rfl, sD, e8, fo', ho', ru, hT, hle, hI'⟩
    rw [rng2_len] at hT hle hI'
    have nMfo : ¬ (deckS b g).M fo := fun z => ((deckS b g).no i5' z).1 n7
    refine ⟨_, rfl, k _ _ _ many es (vn_tree hperm hmany.1 (by rw [show many.toNat - 1 = (many - 1).toNat by omega]; exact hT) (by omega)) hmany.2 (sD.frz hfo fo' ho') ((deckS b g).frz ((deckS b g).le hI' (by omega)) nMfo) ⟨fo, us, rfl, upd_same, ru.imp fun _ _ => Rep.mono (Ex.new fo')⟩⟩
theorem ok_law_doors (T : Txt K mg) : Cal P w K mg base CX0 1 "_law_doors" s_law_doors ["roads"] (sp_doors K) := by
  refine T.f_law_doors.ok sc_law_doors (fun vs H Q E h => ?_) (fun f cdv A outer s H vs Q E hr h => ?_)
  · obtain ⟨F, v, n, es, rfl, _⟩ := h
    rfl
  obtain ⟨F, v, n, es, rfl, hF, rw', Tn, hn6, k⟩ := h
  refine ⟨_, (pss_cons (ps_setLc (i := 1) (own := [("k", 4)]) rfl sc_law_doors.nd rfl rfl (sw_true rfl rfl rfl (by decide +kernel)) (pi_range1 (by rfl) T.b_range (pa_cons (pe_op op_addA (pe_callB (k_len (K := K) rfl) (by rfl) T.b_len (by decide +kernel) (pa_cons (pv 0) pa_nil)) pe_int) pa_nil)) (k_blk (N := ["roads", "found", "one", "other", "k"]) (sc := defScope s_law_doors) rfl rfl (by decide +kernel)) (fun _ _ _ _ _ => (pg_name (i := 4) sc_law_doors.nd rfl (by first | exact Or.inl rfl | exact Or.inr rfl))) (fun _ _ _ _ _ => pts_nil) (fun _ _ _ _ _ => (pe_lst pa_nil)))
    (pss_cons (ps_for PassesOwn.never rfl (k_pilist (K := K) rfl (pv 0)) (k_tup (K := K) (n := 2) rfl rfl (pgs_cons (pg_name (i := 2) sc_law_doors.nd rfl (by first | exact Or.inl rfl | exact Or.inr rfl)) (pgs_cons (pg_name (i := 3) sc_law_doors.nd rfl (by first | exact Or.inl rfl | exact Or.inr rfl)) pgs_nil)))
    (pss_cons (ps_expr (k_bm (K := K) rfl PySem.F.plainAttrs_list PySem.F.slot_list_append PySem.F.type_list_append mt_append (k_ixA (K := K) rfl hr (pv 1) (pv 2) (fun _ _ => rfl)) (pa_cons (pv 3) pa_nil)))
    (pss_one (ps_expr (k_bm (K := K) rfl PySem.F.plainAttrs_list PySem.F.slot_list_append PySem.F.type_list_append mt_append (k_ixA (K := K) rfl hr (pv 1) (pv 3) (fun _ _ => rfl)) (pa_cons (pv 2) pa_nil))))))
    (pss_one (ps_ret (pv 1))))), ?_⟩
  have hlen := Tn.len
  have hpos := Tn.pos
  refine u_asg (lc_empties (K := K) (it_rng1 ((ev_addI (K := K) (ev_len (ev_var rfl rw')) (ev_int (i := 1))).is hlen) (by omega)) tgt_n (by rw [rng_len]; omega) (fun F' x σ' ⟨u, _, e⟩ => by subst e; rfl) H hF (Ex.refl _) _ fun p as F2 H2 s2 hp0 na b => ?_)
  rw [rng_len, ← nb_nil] at b
  have ha0 : ∀ a ∈ as, H a = none := na
  refine x_for (K := K) (α := Int × Int) (B := BP K Int Int 2 3) (it_list (ev_var rfl (Rep.mono s2.ff rw'))) s2.fh tgt_p fun F3 H3 s3 => ?_
  refine ⟨fun i F' σ' H' => ∃ o3 o4, σ' = [some v, some (.ref p), o3, o4, none] ∧ Stp F H F' H' ∧ Ex F3 F' ∧ Bk F' H' p as ((rng n).map (nb (es.take i))),
    ⟨_, _, rfl, s2.trans s3, Ex.refl _, b.stp s3⟩, fun i F' σ' H' ⟨_, _, _, q1, q2, _⟩ => ⟨q2, q1.fh⟩, ?_, ?_⟩
  · rintro i ⟨x, y⟩ F' σ' H' hxi ⟨o3, o4, rfl, sD, e8, bk⟩ F9 H9 s9 σ2 ⟨u1, u2, q1, q2, rfl⟩
    cases q1; cases q2
    have hr' := Tn.tr.rng (x, y) (List.mem_of_getElem? hxi)
    have hxy : x ≠ y := Tr.adj_ne Tn (.inl (List.mem_of_getElem? hxi))
    have bk9 := bk.stp s9
    have hl1 : ∀ z, (nb (es.take i) z).length < 100000 := fun z => Nat.lt_of_le_of_lt (nb_len _ z) (by rw [List.length_take]; omega)
    have sD9 := sD.trans s9
    refine app_bkV (l := 1) (i := 2) (j := 3) rfl rfl rfl bk9 hr'.1.1 (map_at' hr'.1) (hl1 x) fun a ha hq => ?_
    have ham := List.mem_of_getElem? ha
    have bk10 := bk9.put (l' := nb (es.take i) x ++ [y]) ha
    have s10 := sD9.mut (o := .lst ((nb (es.take i) x ++ [y]).map V.int)) (ha0 a ham) (bk9.fa a ham)
    generalize upd H9 a (.lst ((nb (es.take i) x ++ [y]).map V.int)) = H10 at bk10 s10
    have hm2 : (((rng n).map (nb (es.take i))).set x.toNat (nb (es.take i) x ++ [y]))[y.toNat]? = some (nb (es.take i) y) := by
      rw [List.getElem?_set_ne (fun z => hxy (by have := hr'.1.1; have := hr'.2.1; omega))]
      exact map_at' hr'.2
    refine app_bkV (l := 1) (i := 3) (j := 2) rfl rfl rfl bk10 hr'.2.1 hm2 (hl1 y) fun a2 ha2 hq2 => ?_
    have ham2 := List.mem_of_getElem? ha2
    have bk11 := bk10.put (l' := nb (es.take i) y ++ [x]) ha2
    rw [nb_set hr'.1 hr'.2 hxy] at bk11
    refine ⟨F9, _, _, rfl, s10.mut (ha0 a2 ham2) (bk10.fa a2 ham2), e8.trans s9.ff, ?_⟩
    rw [List.take_add_one, hxi]
    exact bk11
  rintro F4 σ4 H4 ⟨o3, o4, rfl, sD, e8, bk⟩
  rw [List.take_length] at bk
  obtain ⟨F5, s5, e5, rb, _⟩ := bk.frz (K := K) sD hp0 ha0
  exact ⟨_, rfl, k _ _ _ s5 rb⟩
theorem ok_law_ways (T : Txt K mg) : Cal P w K mg base CX0 1 "_law_ways" s_law_ways ["doors"] (sp_dways K) := by
  refine T.f_law_ways.ok sc_law_ways (fun vs H Q E h => ?_) (fun f cdv A outer s H vs Q E hr h => ?_)
  · obtain ⟨F, v, n, es, rfl, _⟩ := h
    rfl
  obtain ⟨F, v, n, es, rfl, hF, rb, Tn, hn6, k⟩ := h
  refine ⟨_, (pss_cons (ps_set (i := 1) sc_law_ways.nd rfl (by first | exact Or.inl rfl | exact Or.inr rfl) (pe_lst pa_nil))
    (pss_cons (ps_for PassesOwn.never rfl (pi_range1 (by rfl) T.b_range (pa_cons (pe_callB (k_len (K := K) rfl) (by rfl) T.b_len (by decide +kernel) (pa_cons (pv 0) pa_nil)) pa_nil)) (pg_name (i := 2) sc_law_ways.nd rfl (by first | exact Or.inl rfl | exact Or.inr rfl))
    (pss_cons (ps_asg (pe_tup (pa_cons (pe_disp (pps_cons (pv 2) pe_int pps_nil) (by rfl) (by rfl) (fun z => by cases z) (by decide)) (pa_cons (pe_lst (pa_cons (pv 2) pa_nil)) pa_nil))) (k_tup (K := K) (n := 2) rfl rfl (pgs_cons (pg_name (i := 3) sc_law_ways.nd rfl (by first | exact Or.inl rfl | exact Or.inr rfl)) (pgs_cons (pg_name (i := 4) sc_law_ways.nd rfl (by first | exact Or.inl rfl | exact Or.inr rfl)) pgs_nil))))
    (pss_cons (ps_while PassesOwn.never (pt_cmpR (k_neA (K := K) rfl hr.units) (pv 4) (pe_lst pa_nil) (nomark _))
    (pss_cons (ps_set (i := 5) sc_law_ways.nd rfl (by first | exact Or.inl rfl | exact Or.inr rfl) (k_bm (K := K) rfl PySem.F.plainAttrs_list PySem.F.slot_list_pop PySem.F.type_list_pop mt_popAt (pv 4) (pa_cons pe_int pa_nil)))
    (pss_one (ps_for PassesOwn.never rfl (k_pilist (K := K) rfl (k_ixA (K := K) rfl hr (pv 0) (pv 5) (fun _ _ => rfl))) (pg_name (i := 6) sc_law_ways.nd rfl (by first | exact Or.inl rfl | exact Or.inr rfl))
    (pss_one (ps_if (pt_cmpR (k_notInA (K := K) rfl hr) (pv 6) (pv 3) (by rfl))
    (pss_cons (ps_dput (hu_of hr) (pv 3) (pv 6) (pe_op op_addA (k_ixA (K := K) rfl hr (pv 3) (pv 5) (fun _ _ => rfl)) pe_int) rfl)
    (pss_one (ps_expr (k_bm (K := K) rfl PySem.F.plainAttrs_list PySem.F.slot_list_append PySem.F.type_list_append mt_append (pv 4) (pa_cons (pv 6) pa_nil)))))
    pss_nil))))))
    (pss_one (ps_expr (k_bm (K := K) rfl PySem.F.plainAttrs_list PySem.F.slot_list_append PySem.F.type_list_append mt_append (pv 1) (pa_cons (pe_lc (own := [("spot", 7)]) rfl sc_law_ways.nd (pi_range1 (by rfl) T.b_range (pa_cons (pe_callB (k_len (K := K) rfl) (by rfl) T.b_len (by decide +kernel) (pa_cons (pv 0) pa_nil)) pa_nil)) (k_blk (N := ["doors", "found", "begin", "ways", "edge", "here", "there", "spot"]) (sc := defScope s_law_ways) rfl rfl (by decide +kernel)) (fun _ _ _ _ _ => (pg_name (i := 7) sc_law_ways.nd rfl (by first | exact Or.inl rfl | exact Or.inr rfl))) (fun _ _ _ _ _ => pts_nil) (fun _ _ _ _ _ => (k_ixA (K := K) rfl hr (pv 3) (pv 7) (fun _ _ => rfl)))) pa_nil)))))))
    (pss_one (ps_ret (pv 1))))), ?_⟩
  have hpos := Tn.pos
  refine x_asgN (K := K) (en_lst (K := K) (α := List Int) el_nil (Nat.zero_le _)) hF fun fo us0 F1 H1 s1 n1 f1 h1 r1 => ?_
  cases r1
  have hfo : H fo = none := n1
  refine x_for (K := K) (F := F1) (B := BN K Int 2) (it_rng1 (ev_lenDo (es := es) (by omega) (ev_var rfl (Rep.mono s1.ff rb))) (by omega)) s1.fh tgt_n fun F2 H2 s2 => ?_
  refine ⟨fun i F' σ' H' => ∃ (us : List V) (o2 o3 o4 o5 o6 : Option V), σ' = [some v, some (.ref fo), o2, o3, o4, o5, o6, none] ∧ Stp F H F' H' ∧ Ex F2 F' ∧ F' fo = none ∧ H' fo = some (.lst us) ∧ All2 (R K F') us (((rng n).take i).map fun b => (rng n).map (dist es b)),
    ⟨[], _, _, _, _, _, rfl, s1.trans s2, Ex.refl _, s2.fno h1 f1, s2.hh _ _ h1, by simp; exact .nil⟩, fun i F' σ' H' ⟨_, _, _, _, _, _, _, q1, q2, _⟩ => ⟨q2, q1.fh⟩, ?_, ?_⟩
  · rintro i b0 F' σ' H' hib ⟨us, o2, o3, o4, o5, o6, rfl, sA, e2, fo', ho', ru⟩ F3 H3 s3 σ2 ⟨u, ru0, rfl⟩
    cases ru0
    have hS : hs n b0 := mem_rng.mp (List.mem_of_getElem? hib)
    have hil : i < 60 := by
      have := (List.getElem?_eq_some_iff.mp hib).1
      rw [rng_len] at this
      omega
    have sB := sA.trans s3
    have ho3 := s3.hh _ _ ho'
    have fo3 : F3 fo = none := s3.fno ho' fo'
    refine u_asg (u_tupA (u_cons (fun d hd => ⟨_, rfl, ⟨upd_same, [(.inl b0, .int 0)], rfl, by simp, ?_⟩⟩)))
    have fd : F3 d = none := fresh_back s3.fh hd
    have hdH : H d = none := Ex.dom sB.hh hd
    have s4 : Stp F3 H3 F3 (upd (upd H3 d (.dK [])) d (.dK (mergeK [] [(.inl b0, .int 0)]))) := ((Stp.refl s3.fh).own hd).mut hd fd
    have h4 : upd (upd H3 d (.dK [])) d (.dK (mergeK [] [(.inl b0, .int 0)])) d = some (.dK (kvsOf [b0] fun _ => 0)) := upd_same
    have nfd : fo ≠ d := fun z => by subst z; rw [ho3] at hd; cases hd
    generalize upd (upd H3 d (.dK [])) d (.dK (mergeK [] [(.inl b0, .int 0)])) = H4 at s4 h4
    refine u_cons (EvN.go (K := K) (en_lst (xs := [b0]) (el_cons (ev_var (x := b0) rfl rfl) el_nil) (by simp)) s4.fh fun r us5 F5 H5 s5 n5 f5 h5 r5 => u_nil ⟨by show 2 ≤ sizeLine; decide, fun p hp => g2_ok upd_same ?_⟩)
    have := all2_ints.mp r5
    subst this
    have hr0 : H r = none := Ex.dom (sB.trans s4).hh n5
    have ndr : d ≠ r := fun z => by subst z; rw [h4] at n5; cases n5
    have nfr : fo ≠ r := fun z => by subst z; rw [s4.hh _ _ ho3] at n5; cases n5
    have s6 : Stp F5 H5 F5 (upd H5 p (.tup [V.ref d, .ref r])) := (Stp.refl s5.fh).own hp
    have s456 := (s4.trans s5).trans s6
    have sI := sB.trans s456
    have hd6 := s6.hh _ _ (s5.hh _ _ h4)
    have hr6 := s6.hh _ _ h5
    have ho6 := s456.hh _ _ ho3
    have fd6 : F5 d = none := s5.fno h4 fd
    have fr6 : F5 r = none := f5
    have fo6 : F5 fo = none := s456.fno ho3 fo3
    generalize upd H5 p (.tup [V.ref d, .ref r]) = H6 at s6 s456 sI hd6 hr6 ho6
    refine x_while (F := F5) (fun mm F' σ' H' => ∃ (t : Nat) (ks : List Int) (f : Int → Int) (o5 o6 : Option V), mm = n.toNat - t ∧ σ' = [some v, some (.ref fo), some (.int b0), some (.ref d), some (.ref r), o5, o6, none] ∧ Stp F H F' H' ∧ Ex F5 F' ∧ F' d = none ∧ F' r = none ∧ F' fo = none ∧ H' d = some (.dK (kvsOf ks f)) ∧ H' r = some (.lst ((ks.drop t).map V.int)) ∧ H' fo = some (.lst us) ∧ Bfs n es b0 t ks f)
      (n.toNat - 0) ⟨0, [b0], fun _ => 0, _, _, rfl, rfl, sI, Ex.refl _, fd6, fr6, fo6, hd6, hr6, ho6, bfs_start hS⟩ ?_
    rintro mm F' σ' H' ⟨t, ks, f, o5, o6, rfl, rfl, sJ, e5, fd', fr', fo7, hd', hr', ho7, B⟩
    have hkl := bfs_len B
    refine ⟨sJ.fh, _, et_test (ev_neE (K := K) (ev_obj rfl) hr'), fun hb H8 e8 => ?_, fun hb H8 e8 => ?_⟩
    · have htl : t < ks.length := by
        have : ¬ ks.drop t = [] := by simpa using hb
        rw [List.drop_eq_nil_iff] at this
        omega
      have hd8 := e8 _ _ hd'
      have hr8 := e8 _ _ hr'
      have ho8 := e8 _ _ ho7
      have sK := sJ.ext e8
      have hku : ks[t]? = some ks[t] := List.getElem?_eq_getElem htl
      have hdr : ks.drop t = ks[t] :: ks.drop (t + 1) := List.drop_eq_getElem_cons htl
      generalize ks[t] = hu at hku hdr
      have hhu := B.rng hu (List.mem_of_getElem? hku)
      rw [hdr] at hr8
      refine u_asg ⟨_, rfl, .inl ⟨rfl, _, SqL.of hr8⟩, r, _, 0, 0, .int hu, rfl, rfl, hr8, by decide, by decide, seq0 (by simp), rfl, ?_⟩
      have sL := sK.mut (o := .lst ((ks.drop (t + 1)).map V.int)) hr0 fr'
      have hr9 : upd H8 r (.lst ((ks.drop (t + 1)).map V.int)) r = some (.lst ((ks.drop (t + 1)).map V.int)) := upd_same
      have hd9 : upd H8 r (.lst ((ks.drop (t + 1)).map V.int)) d = some (.dK (kvsOf ks f)) := by rw [upd_ne ndr]; exact hd8
      have ho9 : upd H8 r (.lst ((ks.drop (t + 1)).map V.int)) fo = some (.lst us) := by rw [upd_ne nfr]; exact ho8
      show tFor _ _ _ _ _ (upd H8 r (.lst ((ks.drop (t + 1)).map V.int)))
      generalize upd H8 r (.lst ((ks.drop (t + 1)).map V.int)) = H9 at sL hr9 hd9 ho9
      have rb9 := Rep.mono sL.ff rb
      refine y_for (K := K) (F := F') (B := BN K Int 6) (it_list (ev_door (es := es) (ev_var rfl rb9) (ev_var (x := hu) rfl rfl) hhu)) sL.fh tgt_n fun F10 H10 s10 => ?_
      refine ⟨fun j F' σ' H' => ∃ (ks : List Int) (f : Int → Int) (o6 : Option V), σ' = [some v, some (.ref fo), some (.int b0), some (.ref d), some (.ref r), some (.int hu), o6, none] ∧ Stp F H F' H' ∧ Ex F10 F' ∧ F' d = none ∧ F' r = none ∧ F' fo = none ∧ H' d = some (.dK (kvsOf ks f)) ∧ H' r = some (.lst ((ks.drop (t + 1)).map V.int)) ∧ H' fo = some (.lst us) ∧ Bfs n es b0 t ks f ∧ t < ks.length ∧ ks[t]? = some hu ∧ ∀ z ∈ (nb es hu).take j, z ∈ ks,
        ⟨ks, f, _, rfl, sL.trans s10, Ex.refl _, s10.fno hd9 fd', s10.fno hr9 fr', s10.fno ho9 fo7, s10.hh _ _ hd9, s10.hh _ _ hr9, s10.hh _ _ ho9, B, htl, hku, by simp⟩, fun i F' σ' H' ⟨_, _, _, _, q1, q2, _⟩ => ⟨q2, q1.fh⟩, ?_, ?_⟩
      · rintro j y F' σ' H' hyj ⟨ks, f, o6, rfl, sM, e10, fdA, frA, foA, hdA, hrA, hoA, B, htl, hku, hall⟩ F11 H11 s11 σ2 ⟨u, rv, rfl⟩
        cases rv
        have hd11 := s11.hh _ _ hdA
        have hr11 := s11.hh _ _ hrA
        have ho11 := s11.hh _ _ hoA
        have fd11 : F11 d = none := s11.fno hdA fdA
        have fr11 : F11 r = none := s11.fno hrA frA
        have fo11 : F11 fo = none := s11.fno hoA foA
        have ad := mem_nb (List.mem_of_getElem? hyj)
        have hkm := List.mem_of_getElem? hku
        have sN := sM.trans s11
        have htake : ∀ z, z ∈ (nb es hu).take (j + 1) → z ∈ (nb es hu).take j ∨ z = y := fun z hz => by
          rw [List.take_add_one, hyj] at hz
          rcases List.mem_append.mp hz with h | h
          · exact .inl h
          · exact .inr (by simpa using h)
        refine y_if (et_test (ev_dnotin (K := K) (i := y) (ev_var rfl rfl) (ev_obj rfl) hd11)) s11.fh (fun hb H12 e12 => ?_) fun hb H12 e12 => ?_
        · have hy : y ∉ ks := fun z => by rw [kvs_some z] at hb; cases hb
          refine u_dput (EvX.go (K := K) (ev_addI (ev_dget (i := hu) (x := f hu) (ev_obj rfl) (ev_var rfl rfl) (e12 _ _ hd11) (kvs_some hkm) rfl) (ev_int (i := 1))) (s11.fh.trans e12) fun v13 F13 H13 s13 r13 => ?_)
          cases r13
          have hd13 := s13.hh _ _ (e12 _ _ hd11)
          have hr13 := s13.hh _ _ (e12 _ _ hr11)
          have ho13 := s13.hh _ _ (e12 _ _ ho11)
          have fd13 : F13 d = none := s13.fno (e12 _ _ hd11) fd11
          have fr13 : F13 r = none := s13.fno (e12 _ _ hr11) fr11
          have fo13 : F13 fo = none := s13.fno (e12 _ _ ho11) fo11
          have hlk := bfs_len B
          refine ⟨_, rfl, _, rfl, d, _, rfl, .inl ⟨kvsOf ks f, .inl y, hd13, rfl, by rw [kvs_len]; exact sz_lt (show ks.length < 100000 by omega), rfl⟩, ?_⟩
          rw [kvs_put hy]
          have sO := ((sN.ext e12).trans s13).mut (o := .dK (kvsOf (ks ++ [y]) fun v => if v = y then f hu + 1 else f v)) hdH fd13
          have hr14 : upd H13 d (.dK (kvsOf (ks ++ [y]) fun v => if v = y then f hu + 1 else f v)) r = some (.lst ((ks.drop (t + 1)).map V.int)) := by rw [upd_ne (Ne.symm ndr)]; exact hr13
          have ho14 : upd H13 d (.dK (kvsOf (ks ++ [y]) fun v => if v = y then f hu + 1 else f v)) fo = some (.lst us) := by rw [upd_ne nfd]; exact ho13
          refine ⟨_, rfl, .inl ⟨rfl, _, SqL.of hr14⟩, _, rfl, r, _, _, rfl, rfl, hr14, by rw [List.length_map, List.length_drop]; exact sz_lt (show ks.length - (t + 1) < 100000 by omega), ?_⟩
          have eA : (ks.drop (t + 1)).map V.int ++ [V.int y] = ((ks ++ [y]).drop (t + 1)).map V.int := by
            rw [List.drop_append_of_le_length (by omega)]; simp
          rw [eA]
          refine ⟨F13, ks ++ [y], _, _, rfl, sO.mut hr0 fr13, (e10.trans s11.ff).trans s13.ff, fd13, fr13, fo13, by rw [upd_ne ndr]; exact upd_same, upd_same, by rw [upd_ne nfr]; exact ho14, bfs_add Tn B hkm ad hy, by simp; omega, ?_, fun z hz => ?_⟩
          · rw [List.getElem?_append_left htl]; exact hku
          · rcases htake z hz with h | rfl
            · exact List.mem_append_left _ (hall z h)
            · simp
        · refine ⟨F11, ks, f, _, rfl, sN.ext e12, e10.trans s11.ff, fd11, fr11, fo11, e12 _ _ hd11, e12 _ _ hr11, e12 _ _ ho11, B, htl, hku, fun z hz => ?_⟩
          rcases htake z hz with h | rfl
          · exact hall z h
          · apply Classical.byContradiction
            intro q
            rw [kvs_none q] at hb
            cases hb
      · rintro F11 σ' H' ⟨ks, f, o6, rfl, sM, e10, fdA, frA, foA, hdA, hrA, hoA, B, htl, hku, hall⟩
        rw [List.take_length] at hall
        have B2 := bfs_turn B hku fun y a => hall y (nb_mem (Tr.adj_ne Tn a) a)
        have := bfs_len B2
        have := B2.le
        exact ⟨_, F11, (by omega : n.toNat - (t + 1) < n.toNat - t), t + 1, ks, f, _, _, rfl, rfl, sM, e5.trans (s10.ff.trans e10), fdA, frA, foA, hdA, hrA, hoA, B2⟩
    · have htl : ks.length ≤ t := by
        have : ks.drop t = [] := by simpa using hb
        rwa [List.drop_eq_nil_iff] at this
      have hd8 := e8 _ _ hd'
      have ho8 := e8 _ _ ho7
      have sK := sJ.ext e8
      have rb8 := Rep.mono sJ.ff rb
      refine ⟨_, rfl, .inl ⟨rfl, _, SqL.of ho8⟩, ?_⟩
      refine EvX.go (K := K) (F := F') (x := (rng n).map (dist es b0)) (ev_lcy (fun z => dist es b0 z) (it_rng1 (ev_lenDo (es := es) (by omega) (ev_var rfl rb8)) (by omega)) tgt_n (by rw [rng_len]; omega) (fun F' x σ' ⟨u, _, e⟩ => by subst e; rfl) fun F9 x σ' hm e ⟨u, ru, es'⟩ => by
        subst es'
        have hx := mem_rng.mp hm
        refine ev_dget (ev_obj rfl) (ev_var rfl ru) hd8 (kvs_some (bfs_closed Tn B htl x hx)) ?_
        rw [bfs_isc Tn B htl x hx]
        rfl) sK.fh fun vr F9 H9 s9 r9 => ?_
      have ho9 := s9.hh _ _ ho8
      have fo9 : F9 fo = none := s9.fno ho8 fo7
      have hul := ru.len
      rw [List.length_map, List.length_take] at hul
      refine ⟨fo, us, vr, rfl, rfl, ho9, sz_lt (show us.length < 100000 by omega), F9, us ++ [vr], _, _, _, _, _, rfl, (sK.trans s9).mut hfo fo9, e2.trans (s3.ff.trans (s456.ff.trans (e5.trans s9.ff))), fo9, upd_same, ?_⟩
      rw [List.take_add_one, hib, List.map_append]
      exact (ru.imp fun _ _ => Rep.mono (s3.ff.trans (s456.ff.trans (e5.trans s9.ff)))).app (.cons r9 .nil)
  · rintro F' σ' H' ⟨us, o2, o3, o4, o5, o6, rfl, sA, e2, fo', ho', ru⟩
    rw [List.take_length] at ru
    exact ⟨_, rfl, k _ _ _ (sA.frz hfo fo' ho') ⟨fo, us, rfl, upd_same, ru.imp fun _ _ => Rep.mono (Ex.new fo')⟩⟩
theorem ok_law_tale (T : Txt K mg) : Cal P w K mg base CX0 2 "_law_tale" s_law_tale ["deck", "doors"] (sp_dtale K) := by
  refine T.f_law_tale.ok sc_law_tale (fun vs H Q E h => ?_) (fun f cdv A outer s H vs Q E hr h => ?_)
  · obtain ⟨b, g, F, m, n, es, w, rfl, _⟩ := h
    rfl
  obtain ⟨b, g, F, m, n, es, w, rfl, hF, hI, hm, rb, Tn, hn6, k⟩ := h
  refine ⟨_, (pss_cons (ps_par (i := 2) (j := 3) rfl sc_law_tale.nd rfl rfl (by decide) rfl rfl (pa_cons (pe_cal (ok_law_take T) hr (by decide) (by rfl) pass0 (pa_cons (pv 0) (pa_cons pe_int pa_nil))) (pa_cons (pe_cal (ok_law_take T) hr (by decide) (by rfl) pass0 (pa_cons (pv 0) (pa_cons (pe_callB (k_len (K := K) rfl) (by rfl) T.b_len (by decide +kernel) (pa_cons (pv 1) pa_nil)) pa_nil))) pa_nil)) (by rfl))
    (pss_cons (ps_asg (pe_tup (pa_cons (pe_disp (pps_cons (pv 3) (pe_cal (ok_law_take T) hr (by decide) (by rfl) pass0 (pa_cons (pv 0) (pa_cons (pe_callB (k_len (K := K) rfl) (by rfl) T.b_len (by decide +kernel) (pa_cons (pv 1) pa_nil)) pa_nil))) pps_nil) (by rfl) (by rfl) (fun z => by cases z) (by decide)) (pa_cons (pe_lst (pa_cons (pv 3) pa_nil)) pa_nil))) (k_tup (K := K) (n := 2) rfl rfl (pgs_cons (pg_name (i := 4) sc_law_tale.nd rfl (by first | exact Or.inl rfl | exact Or.inr rfl)) (pgs_cons (pg_name (i := 5) sc_law_tale.nd rfl (by first | exact Or.inl rfl | exact Or.inr rfl)) pgs_nil))))
    (pss_cons (ps_while PassesOwn.never (pt_cmpR (k_neA (K := K) rfl hr.units) (pv 5) (pe_lst pa_nil) (nomark _))
    (pss_cons (ps_set (i := 6) sc_law_tale.nd rfl (by first | exact Or.inl rfl | exact Or.inr rfl) (k_bm (K := K) rfl PySem.F.plainAttrs_list PySem.F.slot_list_pop PySem.F.type_list_pop mt_popAt (pv 5) (pa_cons pe_int pa_nil)))
    (pss_cons (ps_set (i := 7) sc_law_tale.nd rfl (by first | exact Or.inl rfl | exact Or.inr rfl) (pe_lc (own := [("there", 8)]) rfl sc_law_tale.nd (k_pilist (K := K) rfl (k_ixA (K := K) rfl hr (pv 1) (pv 6) (fun _ _ => rfl))) (k_blk (N := ["deck", "doors", "way", "begin", "found", "edge", "here", "taken", "there", "some", "free", "spot"]) (sc := defScope s_law_tale) rfl rfl (by decide +kernel)) (fun _ _ _ _ _ => (pg_name (i := 8) sc_law_tale.nd rfl (by first | exact Or.inl rfl | exact Or.inr rfl))) (fun _ _ _ _ _ => (pts_one (pt_cmpR (k_inA (K := K) rfl hr) (pv 8) (pv 4) (by rfl)))) (fun _ _ _ _ _ => (k_ixA (K := K) rfl hr (pv 4) (pv 8) (fun _ _ => rfl)))))
    (pss_one (ps_for PassesOwn.never rfl (k_pilist (K := K) rfl (k_ixA (K := K) rfl hr (pv 1) (pv 6) (fun _ _ => rfl))) (pg_name (i := 8) sc_law_tale.nd rfl (by first | exact Or.inl rfl | exact Or.inr rfl))
    (pss_one (ps_if (pt_cmpR (k_notInA (K := K) rfl hr) (pv 8) (pv 4) (by rfl))
    (pss_cons (ps_set (i := 9) sc_law_tale.nd rfl (by first | exact Or.inl rfl | exact Or.inr rfl) (pe_op op_addA (pe_lst (pa_cons (k_ixA (K := K) rfl hr (pv 4) (pv 6) (fun _ _ => rfl)) pa_nil)) (k_ixA (K := K) rfl hr (pv 1) (k_ixA (K := K) rfl hr (pv 4) (pv 6) (fun _ _ => rfl)) (fun _ _ => rfl))))
    (pss_cons (ps_setLc (i := 10) (own := [("spot", 11)]) rfl sc_law_tale.nd rfl rfl (sw_true rfl rfl rfl (by decide +kernel)) (k_pilist (K := K) rfl (k_ixA (K := K) rfl hr (pv 1) (k_ixA (K := K) rfl hr (pv 4) (pv 6) (fun _ _ => rfl)) (fun _ _ => rfl))) (k_blk (N := ["deck", "doors", "way", "begin", "found", "edge", "here", "taken", "there", "some", "free", "spot"]) (sc := defScope s_law_tale) rfl rfl (by decide +kernel)) (fun _ _ _ _ _ => (pg_name (i := 11) sc_law_tale.nd rfl (by first | exact Or.inl rfl | exact Or.inr rfl))) (fun _ _ _ _ _ => (pts_one (pt_cmpR (k_notInA (K := K) rfl hr) (pv 11) (pv 7) (by rfl)))) (fun _ _ _ _ _ => (pv 11)))
    (pss_cons (ps_if (PW.pt (pw_and (pt_cmpR (k_eqA (K := K) rfl hr.units) (pv 2) pe_int (nomark _)) (pw_and1 (pt_cmpR (k_neA (K := K) rfl hr.units) (pv 10) (pe_lst pa_nil) (nomark _)))))
    (pss_one (ps_set (i := 9) sc_law_tale.nd rfl (by first | exact Or.inl rfl | exact Or.inr rfl) (pv 10)))
    pss_nil)
    (pss_cons (ps_if (pt_cmpR (k_eqA (K := K) rfl hr.units) (pv 2) pe_int (nomark _))
    (pss_one (ps_set (i := 9) sc_law_tale.nd rfl (by first | exact Or.inl rfl | exact Or.inr rfl) (k_slice (K := K) rfl (pv 9) po_none (po_some (pe_op op_addA pe_int (pe_cal (ok_law_take T) hr (by decide) (by rfl) pass0 (pa_cons (pv 0) (pa_cons pe_int pa_nil))))))))
    pss_nil)
    (pss_cons (ps_dput (hu_of hr) (pv 4) (pv 8) (k_ixA (K := K) rfl hr (pv 9) (pe_cal (ok_law_take T) hr (by decide) (by rfl) pass0 (pa_cons (pv 0) (pa_cons (pe_callB (k_len (K := K) rfl) (by rfl) T.b_len (by decide +kernel) (pa_cons (pv 9) pa_nil)) pa_nil))) (fun _ _ => rfl)) rfl)
    (pss_cons (ps_expr (k_bm (K := K) rfl PySem.F.plainAttrs_list PySem.F.slot_list_append PySem.F.type_list_append mt_append (pv 7) (pa_cons (k_ixA (K := K) rfl hr (pv 4) (pv 8) (fun _ _ => rfl)) pa_nil)))
    (pss_one (ps_expr (k_bm (K := K) rfl PySem.F.plainAttrs_list PySem.F.slot_list_append PySem.F.type_list_append mt_append (pv 5) (pa_cons (pv 8) pa_nil))))))))))
    pss_nil)))))))
    (pss_one (ps_ret (pe_lc (own := [("spot", 11)]) rfl sc_law_tale.nd (pi_range1 (by rfl) T.b_range (pa_cons (pe_callB (k_len (K := K) rfl) (by rfl) T.b_len (by decide +kernel) (pa_cons (pv 1) pa_nil)) pa_nil)) (k_blk (N := ["deck", "doors", "way", "begin", "found", "edge", "here", "taken", "there", "some", "free", "spot"]) (sc := defScope s_law_tale) rfl rfl (by decide +kernel)) (fun _ _ _ _ _ => (pg_name (i := 11) sc_law_tale.nd rfl (by first | exact Or.inl rfl | exact Or.inr rfl))) (fun _ _ _ _ _ => pts_nil) (fun _ _ _ _ _ => (k_ixA (K := K) rfl hr (pv 4) (pv 11) (fun _ _ => rfl))))))))), ?_⟩
  have hpos := Tn.pos
  have h60 : (1000 : Int) ≤ 10 ^ 60 := by decide
  have drawN : ∀ {m : Int} {F' : Hp} {σ' : L2.St} {E1 : XK}, σ'[0]? = some (some (.ref b)) → σ'[1]? = some (some w) → R K F' w (doorsL n es) → m ≤ 10 ^ 9 → EvM K (deckS b g) m (m + 1) F' σ' (tCall sp_take [] E1 (tCons (tVar 0) (tCons (tCB (rLenA K) (tCons (tVar 1) tNil)) tNil))) (fun x : Int => hs n x) := fun h0 h1 r hm =>
    EvM.imp (em_draw h0 draw_deck (em_pure (ev_lenDo (es := es) (by omega) (ev_var h1 r))) hm (fun i h => by subst h; omega)) fun x ⟨y, e, a, c⟩ => by subst e; exact ⟨a, c⟩
  refine u_par (u_cons (EvM.go (K := K) (S := deckS b g) (em_draw rfl draw_deck em_int (by omega) (fun i h => by subst h; decide)) hF hI fun v1 way F1 H1 s1 i1 p1 r1 =>
    u_cons (EvM.go (K := K) (S := deckS b g) (drawN rfl rfl (Rep.mono s1.ff rb) (by omega)) s1.fh i1 fun v2 b0 F2 H2 s2 i2 hS r2 => u_nil ⟨_, _, rfl, ?_⟩)))
  cases r1
  cases r2
  have sA0 := s1.trans s2
  have rb2 := Rep.mono sA0.ff rb
  refine u_asg (u_tupA (u_cons fun d hd => ⟨_, rfl, ?_⟩))
  have fd0 : F2 d = none := fresh_back s2.fh hd
  have hdH : H d = none := sA0.dm _ hd
  have nMd : ¬ (deckS b g).M d := fun z => ((deckS b g).no i2 z).1 hd
  have s3 : Stp F2 H2 F2 (upd H2 d (.dK [])) := (Stp.refl s2.fh).own hd
  have hd3 : upd H2 d (.dK []) d = some (.dK []) := upd_same
  have i3 := (deckS b g).stp i2 s3
  generalize upd H2 d (.dK []) = H3 at s3 hd3 i3
  refine EvM.go (K := K) (S := deckS b g) (drawN rfl rfl rb2 (by omega)) s3.fh i3 fun v4 g0 F4 H4 s4 i4 hG r4 => ?_
  cases r4
  have hd4 := s4.hh _ _ nMd hd3
  have fd4 : F4 d = none := s4.fno hd3 fd0
  refine ⟨hd4, [(.inl b0, .int g0)], rfl, by simp, ?_⟩
  rw [kvs1]
  have sA := ((sA0.trans s3.m).trans s4).mut (o := .dK (kvsOf [b0] fun _ => g0)) (.inr hdH) fd4 (fun z => by rw [hd4] at z; cases z)
  have hd5 : upd H4 d (.dK (kvsOf [b0] fun _ => g0)) d = some (.dK (kvsOf [b0] fun _ => g0)) := upd_same
  have i5 := (deckS b g).upd_ok (o := .dK (kvsOf [b0] fun _ => g0)) i4 nMd fd4 hd4
  generalize upd H4 d (.dK (kvsOf [b0] fun _ => g0)) = H5 at sA hd5 i5
  refine u_cons (EvN.go (K := K) (en_lst (xs := [b0]) (el_cons (ev_var (x := b0) rfl rfl) el_nil) (by simp)) sA.fh fun r us F6 H6 s6 n6 f6 h6 r6 => u_nil ⟨by show 2 ≤ sizeLine; decide, fun p hp => g2_ok upd_same ?_⟩)
  have := all2_ints.mp r6
  subst this
  have hr0 : H r = none := sA.dm _ n6
  have ndr : d ≠ r := fun z => by subst z; rw [hd5] at n6; cases n6
  have nMr : ¬ (deckS b g).M r := fun z => ((deckS b g).no i5 z).1 n6
  have s7 : Stp F6 H6 F6 (upd H6 p (.tup [V.ref d, .ref r])) := (Stp.refl s6.fh).own hp
  have s67 := s6.trans s7
  have sI := sA.trans s67.m
  have i7 := (deckS b g).stp i5 s67
  have hd7 := s67.hh _ _ hd5
  have hr7 := s7.hh _ _ h6
  have fd7 : F6 d = none := s6.fno hd5 fd4
  have fr7 : F6 r = none := f6
  generalize upd H6 p (.tup [V.ref d, .ref r]) = H7 at s7 s67 sI i7 hd7 hr7
  refine x_while (F := F6) (fun mm F' σ' H' => ∃ (t : Nat) (ks : List Int) (f gg : Int → Int) (o6 o7 o8 o9 o10 : Option V), mm = n.toNat - t ∧ σ' = [some (.ref b), some w, some (.int way), some (.int b0), some (.ref d), some (.ref r), o6, o7, o8, o9, o10, none] ∧ StpM (deckS b g).M F H F' H' ∧ F' d = none ∧ F' r = none ∧ H' d = some (.dK (kvsOf ks gg)) ∧ H' r = some (.lst ((ks.drop t).map V.int)) ∧
      Bfs n es b0 t ks f ∧ Put n es ks gg ∧ Deck F' H' b g (m + 10 + 2 * (ks.length : Int)))
    (n.toNat - 0) ⟨0, [b0], fun _ => 0, fun _ => g0, _, _, _, _, _, rfl, rfl, sI, fd7, fr7, hd7, hr7, bfs_start hS, ⟨fun x hx => hG, fun x hx u hu a => by
      rw [Tr.dist_self Tn hG]; omega⟩, (deckS b g).le i7 (by simp; omega)⟩ ?_
  rintro mm F' σ' H' ⟨t, ks, f, gg, o6, o7, o8, o9, o10, rfl, rfl, sJ, fd', fr', hd', hr', B, P, hI'⟩
  have hkl := bfs_len B
  refine ⟨sJ.fh, _, et_test (ev_neE (K := K) (ev_obj rfl) hr'), fun hb H8 e8 => ?_, fun hb H8 e8 => ?_⟩
  · have htl : t < ks.length := by
      have : ¬ ks.drop t = [] := by simpa using hb
      rw [List.drop_eq_nil_iff] at this
      omega
    have hd8 := e8 _ _ hd'
    have hr8 := e8 _ _ hr'
    have sK := sJ.ext e8
    have i8 := (deckS b g).stp hI' (Stp.of_ex sJ.fh e8)
    have hku : ks[t]? = some ks[t] := List.getElem?_eq_getElem htl
    have hdr : ks.drop t = ks[t] :: ks.drop (t + 1) := List.drop_eq_getElem_cons htl
    generalize ks[t] = hu at hku hdr
    have hhu := B.rng hu (List.mem_of_getElem? hku)
    rw [hdr] at hr8
    refine u_asg ⟨_, rfl, .inl ⟨rfl, _, SqL.of hr8⟩, r, _, 0, 0, .int hu, rfl, rfl, hr8, by decide, by decide, seq0 (by simp), rfl, ?_⟩
    have sL := sK.mut (o := .lst ((ks.drop (t + 1)).map V.int)) (.inr hr0) fr' (fun z => by rw [hr8] at z; cases z)
    have i9 := (deckS b g).upd_ok (o := .lst ((ks.drop (t + 1)).map V.int)) i8 nMr fr' hr8
    have hr9 : upd H8 r (.lst ((ks.drop (t + 1)).map V.int)) r = some (.lst ((ks.drop (t + 1)).map V.int)) := upd_same
    have hd9 : upd H8 r (.lst ((ks.drop (t + 1)).map V.int)) d = some (.dK (kvsOf ks gg)) := by rw [upd_ne ndr]; exact hd8
    show tSeq _ _ _ _ (upd H8 r (.lst ((ks.drop (t + 1)).map V.int)))
    generalize upd H8 r (.lst ((ks.drop (t + 1)).map V.int)) = H9 at sL i9 hr9 hd9
    have rb9 := Rep.mono sL.ff rb
    have hkm := List.mem_of_getElem? hku
    have hnl := nb_len es hu
    have hel := Tn.len
    -- taken
    refine x_asgN (K := K) (F := F') (xs := ((nb es hu).filter fun y => (valV (kvsOf ks gg) (.inl y)).isSome).map gg) (en_lc (fun y => (valV (kvsOf ks gg) (.inl y)).isSome) gg (it_list (ev_door (es := es) (ev_var rfl rb9) (ev_var (x := hu) rfl rfl) hhu)) tgt_n (by omega) (fun F' x σ' ⟨u, _, e⟩ => by subst e; rfl)
      (fun F' x σ' hm e ⟨u, ru, es'⟩ => by subst es'; exact et_test (ev_din (i := x) (ev_var rfl ru) (ev_obj rfl) hd9))
      (fun F' x σ' hm hf e ⟨u, ru, es'⟩ => by
        subst es'
        have hx : x ∈ ks := by
          apply Classical.byContradiction
          intro q
          rw [kvs_none q] at hf
          cases hf
        exact ev_dget (ev_obj rfl) (ev_var rfl ru) hd9 (kvs_some hx) rfl)) sL.fh fun tk us10 F10 H10 s10 n10 f10 h10 r10 => ?_
    have htl2 : ((((nb es hu).filter fun y => (valV (kvsOf ks gg) (.inl y)).isSome).map gg)).length ≤ 60 := by
      rw [List.length_map]
      exact Nat.le_trans (List.length_filter_le _ _) (by omega)
    generalize (((nb es hu).filter fun y => (valV (kvsOf ks gg) (.inl y)).isSome).map gg) = tks at r10 htl2
    have := all2_ints.mp r10
    subst this
    have hd10 := s10.hh _ _ hd9
    have hr10 := s10.hh _ _ hr9
    have fd10 : F10 d = none := s10.fno hd9 fd'
    have fr10 : F10 r = none := s10.fno hr9 fr'
    have sM := sL.trans s10.m
    have i10 := (deckS b g).stp i9 s10
    have nMt : ¬ (deckS b g).M tk := fun z => ((deckS b g).no i9 z).1 n10
    have ht0 : H tk = none := sL.dm _ n10
    have ndt : d ≠ tk := fun z => by subst z; rw [hd9] at n10; cases n10
    have nrt : r ≠ tk := fun z => by subst z; rw [hr9] at n10; cases n10
    have rb10 := Rep.mono s10.ff rb9
    refine y_for (K := K) (F := F10) (B := BN K Int 8) (it_list (ev_door (es := es) (ev_var rfl rb10) (ev_var (x := hu) rfl rfl) hhu)) s10.fh tgt_n fun F11 H11 s11 => ?_
    refine ⟨fun j F' σ' H' => ∃ (ks tks : List Int) (f gg : Int → Int) (o8 o9 o10 : Option V), σ' = [some (.ref b), some w, some (.int way), some (.int b0), some (.ref d), some (.ref r), some (.int hu), some (.ref tk), o8, o9, o10, none] ∧ StpM (deckS b g).M F H F' H' ∧ Ex F11 F' ∧ F' d = none ∧ F' r = none ∧ F' tk = none ∧ H' d = some (.dK (kvsOf ks gg)) ∧ H' r = some (.lst ((ks.drop (t + 1)).map V.int)) ∧ H' tk = some (.lst (tks.map V.int)) ∧ tks.length ≤ 60 + j ∧ Bfs n es b0 t ks f ∧ t < ks.length ∧ ks[t]? = some hu ∧ (∀ z ∈ (nb es hu).take j, z ∈ ks) ∧ Put n es ks gg ∧ Deck F' H' b g (m + 10 + 2 * (ks.length : Int)),
      ⟨ks, tks, f, gg, _, _, _, rfl, sM.trans s11.m, Ex.refl _, s11.fno hd10 fd10, s11.fno hr10 fr10, s11.fno h10 f10, s11.hh _ _ hd10, s11.hh _ _ hr10, s11.hh _ _ h10, by omega, B, htl, hku, by simp, P, (deckS b g).stp i10 s11⟩, fun i F' σ' H' ⟨_, _, _, _, _, _, _, _, q1, q2, _⟩ => ⟨q2, q1.fh⟩, ?_, ?_⟩
    · rintro j y F' σ' H' hyj ⟨ks, tks, f, gg, o8, o9, o10, rfl, sN, e11, fdA, frA, ftA, hdA, hrA, htA, htkl, B, htl, hku, hall, P, hIA⟩ F12 H12 s12 σ2 ⟨u, rv, rfl⟩
      cases rv
      have hjl : j < 60 := by
        have := (List.getElem?_eq_some_iff.mp hyj).1
        omega
      have hd12 := s12.hh _ _ hdA
      have hr12 := s12.hh _ _ hrA
      have ht12 := s12.hh _ _ htA
      have fd12 : F12 d = none := s12.fno hdA fdA
      have fr12 : F12 r = none := s12.fno hrA frA
      have ft12 : F12 tk = none := s12.fno htA ftA
      have ad := mem_nb (List.mem_of_getElem? hyj)
      have hkm := List.mem_of_getElem? hku
      have sO := sN.trans s12.m
      have i12 := (deckS b g).stp hIA s12
      have htake : ∀ z, z ∈ (nb es hu).take (j + 1) → z ∈ (nb es hu).take j ∨ z = y := fun z hz => by
        rw [List.take_add_one, hyj] at hz
        rcases List.mem_append.mp hz with h | h
        · exact .inl h
        · exact .inr (by simpa using h)
      refine y_if (et_test (ev_dnotin (K := K) (i := y) (ev_var rfl rfl) (ev_obj rfl) hd12)) s12.fh (fun hb H13 e13 => ?_) fun hb H13 e13 => ?_
      · have hy : y ∉ ks := fun z => by rw [kvs_some z] at hb; cases hb
        have hgu := P.rng hu hkm
        have hlk := bfs_len B
        have rb12 := Rep.mono (s11.ff.trans (e11.trans s12.ff)) rb10
        have hnl := nb_len es (gg hu)
        have s13 := Stp.of_ex s12.fh e13
        have hd13 := e13 _ _ hd12
        have hr13 := e13 _ _ hr12
        have ht13 := e13 _ _ ht12
        have i13 := (deckS b g).stp i12 s13
        -- some
        refine x_asg (K := K) (x := gg hu :: nb es (gg hu)) (ev_cat (xs := [gg hu]) (ev_lst (el_cons (ev_dget (i := hu) (x := gg hu) (ev_obj rfl) (ev_var rfl rfl) hd13 (kvs_some hkm) rfl) el_nil) (by simp)) (ev_door (ev_var rfl rb12) (ev_dget (i := hu) (x := gg hu) (ev_obj rfl) (ev_var rfl rfl) hd13 (kvs_some hkm) rfl) hgu) (by show 1 + (nb es (gg hu)).length ≤ 100000; omega)) s13.fh fun v14 F14 H14 s14 r14 => ?_
        have hd14 := s14.hh _ _ hd13
        have ht14 := s14.hh _ _ ht13
        have rb14 := Rep.mono s14.ff rb12
        -- free
        refine x_asg (K := K) (x := (nb es (gg hu)).filter fun z => !decide (z ∈ tks)) (EvX.is (ev_lc (fun z => !decide (z ∈ tks)) id (it_list (ev_door (es := es) (ev_var rfl rb14) (ev_dget (i := hu) (x := gg hu) (ev_obj rfl) (ev_var rfl rfl) hd14 (kvs_some hkm) rfl) hgu)) tgt_n (by omega) (fun F' x σ' ⟨u, _, e⟩ => by subst e; rfl)
          (fun F' x σ' hm e ⟨u, ru, es'⟩ => by subst es'; exact et_test (ev_notInC (ev_var rfl ru) (ev_obj rfl) ht14))
          (fun F' x σ' hm hf e ⟨u, ru, es'⟩ => by subst es'; exact ev_var rfl ru)) (by rw [List.map_id])) s14.fh fun v15 F15 H15 s15 r15 => ?_
        have s1315 := (s13.trans s14).trans s15
        have i15 := (deckS b g).stp i12 s1315
        -- some, perhaps the free ones
        refine x_cut (fun σ' H' => ∃ (F' : Hp) (v9 : V) (xs : List Int), σ' = [some (.ref b), some w, some (.int way), some (.int b0), some (.ref d), some (.ref r), some (.int hu), some (.ref tk), some (.int y), some v9, some v15, none] ∧ Stp F12 H12 F' H' ∧ R K F' v9 xs ∧ xs ≠ [] ∧ xs.length ≤ 100 ∧ ∀ z ∈ xs, z = gg hu ∨ z ∈ nb es (gg hu)) (fun N hN => ?_) ?_
        · refine y_if (F := F15) (et_and (et_test (ev_eqAI (K := K) (ev_var (x := way) rfl rfl) ev_int)) fun _ => et_test (ev_ne (ev_var rfl r15) ev_nillst)) s15.fh (fun hb2 H16 e16 => ?_) fun hb2 H16 e16 => ?_
          · refine u_asg1 (EvX.go (K := K) (F := F15) (ev_var rfl r15) (s15.fh.trans e16) fun v17 F17 H17 s17 r17 => hN _ _ ⟨F17, v17, _, rfl, (s1315.ext e16).trans s17, r17, ?_, ?_, fun z hz => .inr (List.mem_filter.mp hz).1⟩)
            · have := (Bool.and_eq_true_iff.mp hb2).2
              simpa using this
            · exact Nat.le_trans (List.length_filter_le _ _) (by omega)
          · exact hN _ _ ⟨F15, v14, _, rfl, s1315.ext e16, Rep.mono s15.ff r14, by simp, by simp; omega, fun z hz => List.mem_cons.mp hz⟩
        rintro _ H16 ⟨F16, v9, xs, rfl, s16, r16, hxne, hxl, hxs⟩
        have i16 := (deckS b g).stp i12 s16
        -- some, perhaps a part
        refine x_cut (fun σ' H' => ∃ (F' : Hp) (v9 : V) (xs : List Int), σ' = [some (.ref b), some w, some (.int way), some (.int b0), some (.ref d), some (.ref r), some (.int hu), some (.ref tk), some (.int y), some v9, some v15, none] ∧ StpM (deckS b g).M F12 H12 F' H' ∧ R K F' v9 xs ∧ xs ≠ [] ∧ xs.length ≤ 100 ∧ (∀ z ∈ xs, z = gg hu ∨ z ∈ nb es (gg hu)) ∧ Deck F' H' b g (m + 10 + 2 * (ks.length : Int) + 1)) (fun N hN => ?_) ?_
        · refine y_if (F := F16) (et_test (ev_eqAI (K := K) (ev_var (x := way) rfl rfl) ev_int)) s16.fh (fun hb2 H17 e17 => ?_) fun hb2 H17 e17 => ?_
          · have i17 := (deckS b g).stp i16 (Stp.of_ex s16.fh e17)
            refine u_asg1 (EvM.go (K := K) (S := deckS b g) (em_sliceHi (P := fun h => 1 ≤ h) (ev_var rfl r16) (EvM.imp (em_add em_int fun _ _ => em_draw rfl draw_deck em_int (by omega) (fun i h => by subst h; omega)) fun z ⟨a, c, ha, ⟨y, hy, c0, c1⟩, hz⟩ => by subst ha hy hz; omega)) (s16.fh.trans e17) i17 fun v18 l18 F18 H18 s18 i18 ⟨h, h1, hl⟩ r18 => hN _ _ ⟨F18, v18, l18, rfl, ((s16.ext e17).m).trans s18, r18, ?_, ?_, ?_, i18⟩)
            · subst hl; exact cut_head h1 hxne
            · subst hl; exact Nat.le_trans (cutX_len _ _ _) hxl
            · subst hl; exact fun z hz => hxs z (cutX_mem hz)
          · exact hN _ _ ⟨F16, v9, xs, rfl, (s16.ext e17).m, r16, hxne, hxl, hxs, (deckS b g).le ((deckS b g).stp i16 (Stp.of_ex s16.fh e17)) (by omega)⟩
        rintro _ H17 ⟨F17, v9, xs, rfl, s17, r17, hxne, hxl, hxs, i17⟩
        refine u_dput (EvM.go (K := K) (S := deckS b g) (em_drawIx (α := Int) rfl draw_deck rfl r17 (List.length_pos_iff.mpr hxne) (by omega) (by omega)) s17.fh i17 fun v18 wv F18 H18 s18 i18 p18 r18 => ?_)
        cases r18
        have s1718 := s17.trans s18
        have hd18 := s1718.hh _ _ nMd hd12
        have hr18 := s1718.hh _ _ nMr hr12
        have ht18 := s1718.hh _ _ nMt ht12
        have fd18 : F18 d = none := s1718.fno hd12 fd12
        have fr18 : F18 r = none := s1718.fno hr12 fr12
        have ft18 : F18 tk = none := s1718.fno ht12 ft12
        refine ⟨_, rfl, _, rfl, d, _, rfl, .inl ⟨kvsOf ks gg, .inl y, hd18, rfl, by rw [kvs_len]; exact sz_lt (show ks.length < 100000 by omega), rfl⟩, ?_⟩
        rw [kvs_put hy]
        have sQ := (sO.trans s1718).mut (o := .dK (kvsOf (ks ++ [y]) fun v => if v = y then wv else gg v)) (.inr hdH) fd18 (fun z => by rw [hd18] at z; cases z)
        have i19 := (deckS b g).upd_ok (o := .dK (kvsOf (ks ++ [y]) fun v => if v = y then wv else gg v)) i18 nMd fd18 hd18
        have hd19 : upd H18 d (.dK (kvsOf (ks ++ [y]) fun v => if v = y then wv else gg v)) d = some (.dK (kvsOf (ks ++ [y]) fun v => if v = y then wv else gg v)) := upd_same
        have hr19 : upd H18 d (.dK (kvsOf (ks ++ [y]) fun v => if v = y then wv else gg v)) r = some (.lst ((ks.drop (t + 1)).map V.int)) := by rw [upd_ne (Ne.symm ndr)]; exact hr18
        have ht19 : upd H18 d (.dK (kvsOf (ks ++ [y]) fun v => if v = y then wv else gg v)) tk = some (.lst (tks.map V.int)) := by rw [upd_ne (Ne.symm ndt)]; exact ht18
        generalize upd H18 d (.dK (kvsOf (ks ++ [y]) fun v => if v = y then wv else gg v)) = H19 at sQ i19 hd19 hr19 ht19
        -- taken.append
        refine ⟨_, rfl, .inl ⟨rfl, _, SqL.of ht19⟩, ?_⟩
        refine u_cons (EvX.go (K := K) (F := F18) (ev_dget (i := y) (x := wv) (ev_obj rfl) (ev_var (x := y) rfl rfl) hd19 (kvs_some (by simp)) (by simp; rfl)) sQ.fh fun v20 F20 H20 s20 r20 => u_nil ?_)
        cases r20
        have hd20 := s20.hh _ _ hd19
        have hr20 := s20.hh _ _ hr19
        have ht20 := s20.hh _ _ ht19
        have fd20 : F20 d = none := s20.fno hd19 fd18
        have fr20 : F20 r = none := s20.fno hr19 fr18
        have ft20 : F20 tk = none := s20.fno ht19 ft18
        refine ⟨tk, _, _, rfl, rfl, ht20, by rw [List.length_map]; exact sz_lt (show tks.length < 100000 by omega), ?_⟩
        have eT : tks.map V.int ++ [V.int wv] = (tks ++ [wv]).map V.int := by simp
        rw [eT]
        have sR := (sQ.trans s20.m).mut (o := .lst ((tks ++ [wv]).map V.int)) (.inr ht0) ft20 (fun z => by rw [ht20] at z; cases z)
        have i21 := (deckS b g).upd_ok (o := .lst ((tks ++ [wv]).map V.int)) ((deckS b g).stp i19 s20) nMt ft20 ht20
        have hd21 : upd H20 tk (.lst ((tks ++ [wv]).map V.int)) d = some (.dK (kvsOf (ks ++ [y]) fun v => if v = y then wv else gg v)) := by rw [upd_ne ndt]; exact hd20
        have hr21 : upd H20 tk (.lst ((tks ++ [wv]).map V.int)) r = some (.lst ((ks.drop (t + 1)).map V.int)) := by rw [upd_ne nrt]; exact hr20
        have ht21 : upd H20 tk (.lst ((tks ++ [wv]).map V.int)) tk = some (.lst ((tks ++ [wv]).map V.int)) := upd_same
        generalize upd H20 tk (.lst ((tks ++ [wv]).map V.int)) = H21 at sR i21 hd21 hr21 ht21
        -- edge.append
        refine ⟨_, rfl, .inl ⟨rfl, _, SqL.of hr21⟩, _, rfl, r, _, _, rfl, rfl, hr21, by rw [List.length_map, List.length_drop]; exact sz_lt (show ks.length - (t + 1) < 100000 by omega), ?_⟩
        have eA : (ks.drop (t + 1)).map V.int ++ [V.int y] = ((ks ++ [y]).drop (t + 1)).map V.int := by
          rw [List.drop_append_of_le_length (by omega)]; simp
        rw [eA]
        refine ⟨F20, ks ++ [y], tks ++ [wv], _, _, _, _, _, rfl, sR.mut (.inr hr0) fr20 (fun z => by rw [hr21] at z; cases z), e11.trans (s12.ff.trans (s1718.ff.trans s20.ff)), fd20, fr20, ft20, by rw [upd_ne ndr]; exact hd21, upd_same, by rw [upd_ne (Ne.symm nrt)]; exact ht21, by simp; omega, bfs_add Tn B hkm ad hy, by simp; omega, ?_, fun z hz => ?_, bfs_put Tn B P hkm ad hy (hxs _ p18), (deckS b g).le ((deckS b g).upd_ok i21 nMr fr20 hr21) (by simp; omega)⟩
        · rw [List.getElem?_append_left htl]; exact hku
        · rcases htake z hz with h | rfl
          · exact List.mem_append_left _ (hall z h)
          · simp
      · refine ⟨F12, ks, tks, f, gg, _, _, _, rfl, sO.ext e13, e11.trans s12.ff, fd12, fr12, ft12, e13 _ _ hd12, e13 _ _ hr12, e13 _ _ ht12, by omega, B, htl, hku, fun z hz => ?_, P, (deckS b g).stp i12 (Stp.of_ex s12.fh e13)⟩
        rcases htake z hz with h | rfl
        · exact hall z h
        · apply Classical.byContradiction
          intro q
          rw [kvs_none q] at hb
          cases hb
    · rintro F12 σ' H' ⟨ks, tks, f, gg, o8, o9, o10, rfl, sN, e11, fdA, frA, ftA, hdA, hrA, htA, htkl, B, htl, hku, hall, P, hIA⟩
      rw [List.take_length] at hall
      have B2 := bfs_turn B hku fun y a => hall y (nb_mem (Tr.adj_ne Tn a) a)
      have := bfs_len B2
      have := B2.le
      exact ⟨_, F12, (by omega : n.toNat - (t + 1) < n.toNat - t), t + 1, ks, f, gg, _, _, _, _, _, rfl, rfl, sN, fdA, frA, hdA, hrA, B2, P, hIA⟩
  · have htl : ks.length ≤ t := by
      have : ks.drop t = [] := by simpa using hb
      rwa [List.drop_eq_nil_iff] at this
    have hd8 := e8 _ _ hd'
    have sK := sJ.ext e8
    have i8 := (deckS b g).stp hI' (Stp.of_ex sJ.fh e8)
    have rb8 := Rep.mono sJ.ff rb
    refine x_ret (K := K) (x := (rng n).map gg) (ev_lcy (fun z => gg z) (it_rng1 (ev_lenDo (es := es) (by omega) (ev_var rfl rb8)) (by omega)) tgt_n (by rw [rng_len]; omega) (fun F' x σ' ⟨u, _, e⟩ => by subst e; rfl) fun F' x σ' hm e ⟨u, ru, es'⟩ => by
      subst es'
      exact ev_dget (ev_obj rfl) (ev_var rfl ru) hd8 (kvs_some (bfs_closed Tn B htl x (mem_rng.mp hm))) rfl) sK.fh fun u F9 H9 s9 r9 => ?_
    exact k u F9 H9 _ (put_tale Tn P fun x hx => bfs_closed Tn B htl x hx) (sK.trans s9.m) ((deckS b g).le ((deckS b g).stp i8 s9) (by omega)) r9
theorem ok_law_lives (T : Txt K mg) : Cal P w K mg base CX0 1 "_law_lives" s_law_lives ["ways", "some", "spot"] (sp_live K) := by
  refine T.f_law_lives.ok sc_law_lives (fun vs H Q E h => ?_) (fun f cdv A outer s H vs Q E hr h => ?_)
  · obtain ⟨F, n, x, es, l, w, u, rfl, _⟩ := h
    rfl
  obtain ⟨F, n, x, es, l, w, u, rfl, hF, rf, rl, Tn, hn6, hx, hll, hlr, k⟩ := h
  refine ⟨_, (pss_cons (ps_set (i := 3) sc_law_lives.nd rfl (by first | exact Or.inl rfl | exact Or.inr rfl) (pe_lst pa_nil))
    (pss_cons (ps_for PassesOwn.never rfl (pi_range1 (by rfl) T.b_range (pa_cons (pe_callB (k_len (K := K) rfl) (by rfl) T.b_len (by decide +kernel) (pa_cons (pv 0) pa_nil)) pa_nil)) (pg_name (i := 4) sc_law_lives.nd rfl (by first | exact Or.inl rfl | exact Or.inr rfl))
    (pss_one (ps_if (pt_cmpR (k_eqA (K := K) rfl hr.units) (pe_lc (own := [("here", 5), ("goal", 6)]) rfl sc_law_lives.nd (k_pilist (K := K) rfl (pv 1)) (k_blk (N := ["ways", "some", "spot", "found", "there", "here", "goal"]) (sc := defScope s_law_lives) rfl rfl (by decide +kernel)) (fun _ _ _ _ _ => (k_tup (K := K) (n := 2) rfl rfl (pgs_cons (pg_name (i := 5) sc_law_lives.nd rfl (by first | exact Or.inl rfl | exact Or.inr rfl)) (pgs_cons (pg_name (i := 6) sc_law_lives.nd rfl (by first | exact Or.inl rfl | exact Or.inr rfl)) pgs_nil)))) (fun _ _ _ _ _ => (pts_one (pt_cmpR op_gt (k_ixA (K := K) rfl hr (k_ixA (K := K) rfl hr (pv 0) (pv 4) (fun _ _ => rfl)) (pv 6) (fun _ _ => rfl)) (k_ixA (K := K) rfl hr (k_ixA (K := K) rfl hr (pv 0) (pv 2) (fun _ _ => rfl)) (pv 5) (fun _ _ => rfl)) (nomark _)))) (fun _ _ _ _ _ => pe_int)) (pe_lst pa_nil) (nomark _))
    (pss_one (ps_expr (k_bm (K := K) rfl PySem.F.plainAttrs_list PySem.F.slot_list_append PySem.F.type_list_append mt_append (pv 3) (pa_cons (pv 4) pa_nil))))
    pss_nil)))
    (pss_one (ps_ret (pv 3))))), ?_⟩
  have hpos := Tn.pos
  refine x_asgN (K := K) (en_lst (α := Int) el_nil (Nat.zero_le _)) hF fun fo us F1 H1 s1 n1 f1 h1 r1 => ?_
  cases r1
  have hfo : H fo = none := n1
  refine x_for (K := K) (F := F1) (B := BN K Int 4) (it_rng1 (ev_lenT hpos (ev_var rfl (Rep.mono s1.ff rf))) (by omega)) s1.fh tgt_n fun F2 H2 s2 => ?_
  refine ⟨fun i F' σ' H' => ∃ (o4 : Option V), σ' = [some w, some u, some (.int x), some (.ref fo), o4, none, none] ∧ Stp F H F' H' ∧ Ex F2 F' ∧ F' fo = none ∧ H' fo = some (.lst ((((rng n).take i).filter fun p => l.all fun e => decide (dist es p e.2 ≤ dist es x e.1)).map V.int)),
    ⟨_, rfl, s1.trans s2, Ex.refl _, s2.fno h1 f1, by simp; exact s2.hh _ _ h1⟩, fun i F' σ' H' ⟨_, _, q1, q2, _⟩ => ⟨q2, q1.fh⟩, ?_, ?_⟩
  · rintro i p F' σ' H' hip ⟨o4, rfl, sA, e2, fo', ho'⟩ F3 H3 s3 σ2 ⟨v, rv, rfl⟩
    cases rv
    have hp : hs n p := mem_rng.mp (List.mem_of_getElem? hip)
    have sB := sA.trans s3
    have ho3 := s3.hh _ _ ho'
    have fo3 : F3 fo = none := s3.fno ho' fo'
    have rf3 := Rep.mono sB.ff rf
    have rl3 := Rep.mono sB.ff rl
    have ht : (rng n).take (i + 1) = (rng n).take i ++ [p] := by rw [List.take_add_one, hip]; rfl
    refine y_if (b := l.all fun e => decide (dist es p e.2 ≤ dist es x e.1)) ((et_test (ev_eq (K := K) (ev_lc (fun e : Int × Int => decide (dist es x e.1 < dist es p e.2)) (fun _ => (1 : Int)) (it_list (ev_var rfl rl3)) tgt_p (by omega) (fun F' x σ' ⟨_, _, _, _, e⟩ => by subst e; rfl)
      (fun F' e0 σ' hm e ⟨u1, u2, q1, q2, es'⟩ => by
        subst es'
        have hr' := hlr e0 hm
        exact et_test (ev_gt (ev_tab (ev_var rfl (Rep.mono e rf3)) (ev_var (x := p) rfl rfl) (ev_var rfl q2) hp hr'.2) (ev_tab (ev_var rfl (Rep.mono e rf3)) (ev_var (x := x) rfl rfl) (ev_var rfl q1) hx hr'.1)))
      (fun F' e0 σ' hm hf e ⟨u1, u2, q1, q2, es'⟩ => ev_int)) ev_nillst)).is ?_) s3.fh (fun hb H4 e4 => ?_) fun hb H4 e4 => ?_
    · rw [Bool.eq_iff_iff, decide_eq_true_eq, List.map_eq_nil_iff, List.filter_eq_nil_iff, List.all_eq_true]
      constructor
      · intro h e he
        have := h e he
        simp only [decide_eq_true_eq] at this ⊢
        omega
      · intro h e he
        have := h e he
        simp only [decide_eq_true_eq] at this ⊢
        omega
    · have ho4 := e4 _ _ ho3
      refine ⟨_, rfl, .inl ⟨rfl, _, SqL.of ho4⟩, _, rfl, fo, _, _, rfl, rfl, ho4, ?_, ?_⟩
      · rw [List.length_map]
        have := List.length_filter_le (fun p => l.all fun e => decide (dist es p e.2 ≤ dist es x e.1)) ((rng n).take i)
        rw [List.length_take, rng_len] at this
        exact sz_lt (show _ < 100000 by omega)
      · refine ⟨F3, _, rfl, (sB.ext e4).mut hfo fo3, e2.trans s3.ff, fo3, ?_⟩
        rw [upd_same, ht, List.filter_append, List.filter_cons_of_pos (by exact hb), List.map_append]
        rfl
    · refine ⟨F3, _, rfl, sB.ext e4, e2.trans s3.ff, fo3, ?_⟩
      rw [ht, List.filter_append, List.filter_cons_of_neg (by rw [hb]; decide), List.filter_nil, List.append_nil]
      exact e4 _ _ ho3
  · rintro F' σ' H' ⟨o4, rfl, sA, e2, fo', ho'⟩
    rw [List.take_length] at ho'
    exact ⟨_, rfl, k _ _ _ (sA.frz hfo fo' ho') ⟨fo, _, rfl, upd_same, all2_ints.mpr rfl⟩⟩
theorem ok_law_right (T : Txt K mg) : Cal P w K mg base CX0 6 "_law_right" s_law_right ["deck", "made", "ways", "stands"] (sp_r44 K T.nReports T.nVillage) := by
  refine T.f_law_right.ok sc_law_right (fun vs H Q E h => ?_) (fun f cdv A outer s H vs Q E hr h => ?_)
  · obtain ⟨F, t, g, m, n, es, r, v, w, s, rfl, _⟩ := h
    rfl
  obtain ⟨F, t, g, m, n, es, r, v, w, s, rfl, hF, hI, hm, rr, hC, hV, rf, rl, Tn, hn6, hll, k⟩ := h
  refine ⟨_, (pss_cons (ps_if (pt_cmpR (k_neA (K := K) rfl hr.units) (pe_mcal0 (ok_Reports_reports T) hr (by decide) pass0 (pv 1)) (pv 3) (nomark _))
    (pss_one (ps_ret pe_bl))
    pss_nil)
    (pss_cons (ps_for PassesOwn.never rfl (pi_range1 (by rfl) T.b_range (pa_cons pe_int pa_nil)) (pg_name (i := 4) sc_law_right.nd rfl (by first | exact Or.inl rfl | exact Or.inr rfl))
    (pss_cons (ps_set (i := 5) sc_law_right.nd rfl (by first | exact Or.inl rfl | exact Or.inr rfl) (pe_cal (ok_law_take T) hr (by decide) (by rfl) pass0 (pa_cons (pv 0) (pa_cons (pe_callB (k_len (K := K) rfl) (by rfl) T.b_len (by decide +kernel) (pa_cons (pv 2) pa_nil)) pa_nil))))
    (pss_one (ps_if (pt_cmpR (k_neA (K := K) rfl hr.units) (pe_mcal (ok_Reports_may_live T) hr (by decide) pass0 (pv 1) (pa_cons (pv 5) pa_nil)) (pe_cal (ok_law_lives T) hr (by decide) (by rfl) pass0 (pa_cons (pv 2) (pa_cons (pv 3) (pa_cons (pv 5) pa_nil)))) (nomark _))
    (pss_one (ps_ret pe_bl))
    pss_nil))))
    (pss_one (ps_ret pe_bl)))), ?_⟩
  have hpos := Tn.pos
  have ok : ROk r ∧ VOk r.v := rok_of rr
  have hVC : r.v.C = T.nVillage := by rw [hV]
  have hlr : ∀ e ∈ r.rs, hs n e.1 ∧ hs n e.2 := fun e he => by
    obtain ⟨st, A, q⟩ := rok_fit ok.1 hV (l := r.rs) fun e => Iff.rfl
    exact ⟨(q e he).1, (q e he).2 ▸ A.hs (q e he).1⟩
  have hmay : ∀ x, mayE r.v.n r.v.es r.rs x = mayE n es r.rs x := fun x => by rw [hV]; show mayE n (held es) r.rs x = _; rw [mayE_held]
  refine x_if (F := F) (b := !decide (r.rs = r.rs)) (et_test (ev_ne (K := K) (en_reports (r := r) (ev_var rfl rr) hC).ev (ev_var rfl rl))) hF (fun hb _ _ => by simp at hb) fun _ H0 e0 => ?_
  have s0 : Stp F H F H0 := Stp.of_ex hF e0
  refine x_for (K := K) (F := F) (B := BN K Int 4) (it_rng1 (ev_int (i := 3)) (by decide)) s0.fh tgt_n fun F1 H1 s1 => ?_
  have i1 := (deckS t g).stp ((deckS t g).stp hI s0) s1
  refine ⟨fun i F' σ' H' => ∃ o4 o5, σ' = [some (.ref t), some v, some w, some s, o4, o5] ∧ StpM (deckS t g).M F H F' H' ∧ Ex F1 F' ∧ Deck F' H' t g (m + (i : Int)), ⟨_, _, rfl, (s0.trans s1).m, Ex.refl _, (deckS t g).le i1 (by omega)⟩, fun i F' σ' H' ⟨_, _, _, q1, q2, _⟩ => ⟨q2, q1.fh⟩, ?_, ?_⟩
  · rintro i y F' σ' H' hiy ⟨o4, o5, rfl, sA, e1, hI'⟩ F2 H2 s2 σ2 ⟨u2, ru2, rfl⟩
    have hi : i < 3 := by
      have := (List.getElem?_eq_some_iff.mp hiy).1
      rw [rng_len] at this
      simpa using this
    have i2 := (deckS t g).stp hI' s2
    have e02 : Ex F F2 := s1.ff.trans (e1.trans s2.ff)
    refine u_asg (EvM.go (K := K) (S := deckS t g) (em_takeN rfl (ev_lenT hpos (ev_var rfl (Rep.mono e02 rf))) (by omega) (by omega) (by omega)) s2.fh i2 fun v3 spot F3 H3 s3 i3 hx r3 => ?_)
    cases r3
    have e03 : Ex F F3 := e02.trans s3.ff
    refine y_if (F := F3) (b := !decide (mayE n es r.rs spot = mayE n es r.rs spot)) (et_test (ev_ne (K := K) (EvX.is (en_mayR (r := r) (ev_var rfl (Rep.mono e03 rr)) (ev_var (x := spot) rfl rfl) hC hVC (by rw [hV]; exact hx)).ev (hmay spot)) (ev_live (ev_var rfl (Rep.mono e03 rf)) (ev_var rfl (Rep.mono e03 rl)) (ev_var (x := spot) rfl rfl) Tn hn6 hx hll hlr))) s3.fh (fun hb _ _ => by simp at hb) fun _ H5 e5 => ?_
    exact ⟨F3, _, _, rfl, ((sA.trans s2.m).trans s3).ext e5, e1.trans (s2.ff.trans s3.ff), (deckS t g).le ((deckS t g).stp i3 (Stp.of_ex s3.fh e5)) (by omega)⟩
  · rintro F' σ' H' ⟨o4, o5, rfl, sA, e1, hI'⟩
    rw [rng_len] at hI'
    refine x_ret (ev_bl (K := K) (F := F')) sA.fh fun u2 F2 H2 s2 r2 => ?_
    cases r2
    exact k F2 H2 (sA.trans s2.m) ((deckS t g).le ((deckS t g).stp hI' s2) (by show m + (((3 : Int).toNat : Nat) : Int) ≤ _; omega))
def sp_law (K : PySem.W.Frag) : Sp := fun vs H Q _ => ∃ (a : Addr) (ns : List Int), vs = [.ref a] ∧ SqL K H a (ns.map V.int) ∧ ns.length ≤ 63 ∧ ∀ H', Q (.bl true) H'
theorem ok_law {f : Addr} {fd : FuncData} (Fl : Fun K "law" "law" s_law f fd) (T : Txt K mg) : FnOk P w K mg base CX0 7 f fd ["script"] (sp_law K) := by
  refine Fl.ok sc_law (fun vs H Q E h => ?_) (fun cdv A outer s H vs Q E hr h => ?_)
  · obtain ⟨a, ns, rfl, _⟩ := h
    rfl
  obtain ⟨a, ns, rfl, hS, hn, k⟩ := h
  refine ⟨_, (pss_cons (ps_set (i := 1) sc_law.nd rfl (by first | exact Or.inl rfl | exact Or.inr rfl) (pe_cal (ok_law_deck T) hr (by decide) (by rfl) pass0 (pa_cons (pv 0) pa_nil)))
    (pss_cons (ps_for PassesOwn.never rfl (pi_range1 (by rfl) T.b_range (pa_cons (pe_op op_addA pe_int (pe_callB (call_min2' rfl) (by rfl) T.b_min (by decide +kernel) (pa_cons pe_int (pa_cons (pe_callB (k_len (K := K) rfl) (by rfl) T.b_len (by decide +kernel) (pa_cons (pv 0) pa_nil)) pa_nil)))) pa_nil)) (pg_name (i := 2) sc_law.nd rfl (by first | exact Or.inl rfl | exact Or.inr rfl))
    (pss_cons (ps_set (i := 3) sc_law.nd rfl (by first | exact Or.inl rfl | exact Or.inr rfl) (pe_cal (ok_law_roads T) hr (by decide) (by rfl) pass0 (pa_cons (pv 1) (pa_cons (k_ixA (K := K) rfl hr (pe_lst (pa_cons pe_int (pa_cons pe_int (pa_cons pe_int pa_nil)))) (pe_cal (ok_law_take T) hr (by decide) (by rfl) pass0 (pa_cons (pv 1) (pa_cons pe_int pa_nil))) (fun _ _ => rfl)) pa_nil))))
    (pss_cons (ps_set (i := 4) sc_law.nd rfl (by first | exact Or.inl rfl | exact Or.inr rfl) (pe_cal (ok_law_doors T) hr (by decide) (by rfl) pass0 (pa_cons (pv 3) pa_nil)))
    (pss_cons (ps_par (i := 5) (j := 6) rfl sc_law.nd rfl rfl (by decide) rfl rfl (pa_cons (pe_cal (ok_law_ways T) hr (by decide) (by rfl) pass0 (pa_cons (pv 4) pa_nil)) (pa_cons (pe_callB (k_len (K := K) rfl) (by rfl) T.b_len (by decide +kernel) (pa_cons (pv 4) pa_nil)) pa_nil)) (by rfl))
    (pss_cons (ps_set (i := 7) sc_law.nd rfl (by first | exact Or.inl rfl | exact Or.inr rfl) (pe_ncal (ok_Village T) hr (by decide) (by rfl) pass0 (pa_cons (pv 3) pa_nil)))
    (pss_cons (ps_set (i := 8) sc_law.nd rfl (by first | exact Or.inl rfl | exact Or.inr rfl) (pe_lst (pa_cons (pe_cal (ok_law_tale T) hr (by decide) (by rfl) pass0 (pa_cons (pv 1) (pa_cons (pv 4) pa_nil))) (pa_cons (pe_cal (ok_law_tale T) hr (by decide) (by rfl) pass0 (pa_cons (pv 1) (pa_cons (pv 4) pa_nil))) pa_nil))))
    (pss_cons (ps_par (i := 9) (j := 10) rfl sc_law.nd rfl rfl (by decide) rfl rfl (pa_cons (pe_lst (pa_cons (pe_ncal (ok_Reports T) hr (by decide) (by rfl) pass0 (pa_cons (pv 7) pa_nil)) (pa_cons (pe_ncal (ok_Reports T) hr (by decide) (by rfl) pass0 (pa_cons (pv 7) pa_nil)) pa_nil))) (pa_cons (pe_lst (pa_cons (pe_lst pa_nil) (pa_cons (pe_lst pa_nil) pa_nil))) pa_nil)) (by rfl))
    (pss_cons (ps_for PassesOwn.never rfl (pi_range1 (by rfl) T.b_range (pa_cons pe_int pa_nil)) (pg_name (i := 11) sc_law.nd rfl (by first | exact Or.inl rfl | exact Or.inr rfl))
    (pss_cons (ps_par (i := 12) (j := 13) rfl sc_law.nd rfl rfl (by decide) rfl rfl (pa_cons (pe_cal (ok_law_take T) hr (by decide) (by rfl) pass0 (pa_cons (pv 1) (pa_cons pe_int pa_nil))) (pa_cons (pe_cal (ok_law_take T) hr (by decide) (by rfl) pass0 (pa_cons (pv 1) (pa_cons (pv 6) pa_nil))) pa_nil)) (by rfl))
    (pss_cons (ps_set (i := 14) sc_law.nd rfl (by first | exact Or.inl rfl | exact Or.inr rfl) (pe_tup (pa_cons (pv 13) (pa_cons (k_ixA (K := K) rfl hr (k_ixA (K := K) rfl hr (pv 8) (pv 12) (fun _ _ => rfl)) (pv 13) (fun _ _ => rfl)) pa_nil))))
    (pss_cons (ps_if (PW.pt (pw_and (pt_cmpR (k_inA (K := K) rfl hr) (pv 14) (k_ixA (K := K) rfl hr (pv 10) (pv 12) (fun _ _ => rfl)) (by rfl)) (pw_and1 (pt_cmpR (k_eqA (K := K) rfl hr.units) (pe_cal (ok_law_take T) hr (by decide) (by rfl) pass0 (pa_cons (pv 1) (pa_cons pe_int pa_nil))) pe_int (nomark _)))))
    (pss_cons (ps_expr (pe_mcal (ok_Reports_take_back T) hr (by decide) pass0 (k_ixA (K := K) rfl hr (pv 9) (pv 12) (fun _ _ => rfl)) (pa_cons (k_ixA (K := K) rfl hr (pv 14) pe_int (fun _ _ => rfl)) (pa_cons (k_ixA (K := K) rfl hr (pv 14) pe_int (fun _ _ => rfl)) pa_nil))))
    (pss_one (ps_asg (pe_lc (own := [("one", 17)]) rfl sc_law.nd (k_pilist (K := K) rfl (k_ixA (K := K) rfl hr (pv 10) (pv 12) (fun _ _ => rfl))) (k_blk (N := ["script", "deck", "lap", "roads", "doors", "ways", "many", "land", "tales", "both", "stands", "turn", "at", "spot", "pair", "bare", "far_off", "one"]) (sc := defScope s_law) rfl rfl (by decide +kernel)) (fun _ _ _ _ _ => (pg_name (i := 17) sc_law.nd rfl (by first | exact Or.inl rfl | exact Or.inr rfl))) (fun _ _ _ _ _ => (pts_one (pt_cmpR (k_neA (K := K) rfl hr.units) (pv 17) (pv 14) (nomark _)))) (fun _ _ _ _ _ => (pv 17))) (pg_sub (pv 10) (pv 12) set_list))))
    (pss_cons (ps_expr (pe_mcal (ok_Reports_tell T) hr (by decide) pass0 (k_ixA (K := K) rfl hr (pv 9) (pv 12) (fun _ _ => rfl)) (pa_cons (k_ixA (K := K) rfl hr (pv 14) pe_int (fun _ _ => rfl)) (pa_cons (k_ixA (K := K) rfl hr (pv 14) pe_int (fun _ _ => rfl)) pa_nil))))
    (pss_one (ps_asg (pe_callB (k_sortedT (K := K) (P := P) (w := w) rfl rfl rfl rfl) (by rfl) T.b_sorted (by decide +kernel) (pa_cons (pe_callTy (k_setOfT (K := K) (P := P) (w := w) rfl rfl rfl rfl hr.units) (by rfl) T.b_set (by decide +kernel) (pa_cons (pe_op op_addA (k_ixA (K := K) rfl hr (pv 10) (pv 12) (fun _ _ => rfl)) (pe_lst (pa_cons (pv 14) pa_nil))) pa_nil)) pa_nil)) (pg_sub (pv 10) (pv 12) set_list)))))
    (pss_one (ps_if (PW.pt (pw_or (pt_not (pt_val (pe_cal (ok_law_right T) hr (by decide) (by rfl) pass0 (pa_cons (pv 1) (pa_cons (k_ixA (K := K) rfl hr (pv 9) pe_int (fun _ _ => rfl)) (pa_cons (pv 5) (pa_cons (k_ixA (K := K) rfl hr (pv 10) pe_int (fun _ _ => rfl)) pa_nil))))))) (pw_or1 (pt_not (pt_val (pe_cal (ok_law_right T) hr (by decide) (by rfl) pass0 (pa_cons (pv 1) (pa_cons (k_ixA (K := K) rfl hr (pv 9) pe_int (fun _ _ => rfl)) (pa_cons (pv 5) (pa_cons (k_ixA (K := K) rfl hr (pv 10) pe_int (fun _ _ => rfl)) pa_nil))))))))))
    (pss_one (ps_ret pe_bl))
    pss_nil))))))
    (pss_cons (ps_for PassesOwn.never rfl (k_pilist (K := K) rfl (pe_lst (pa_cons (pe_ncal (ok_Reports T) hr (by decide) (by rfl) pass0 (pa_cons (pv 7) pa_nil)) (pa_cons (pe_ncal (ok_Reports T) hr (by decide) (by rfl) pass0 (pa_cons (pe_mcal0 (ok_Reports_village T) hr (by decide) pass0 (k_ixA (K := K) rfl hr (pv 9) pe_int (fun _ _ => rfl))) pa_nil)) pa_nil)))) (pg_name (i := 15) sc_law.nd rfl (by first | exact Or.inl rfl | exact Or.inr rfl))
    (pss_one (ps_if (pt_not (pt_val (pe_cal (ok_law_right T) hr (by decide) (by rfl) pass0 (pa_cons (pv 1) (pa_cons (pv 15) (pa_cons (pv 5) (pa_cons (pe_lst pa_nil) pa_nil)))))))
    (pss_one (ps_ret pe_bl))
    pss_nil)))
    (pss_cons (ps_if (PW.pt (pw_or (pt_cmpR (k_ownNe (K := K) rfl (ok_Village___eq__ T) T.i_Village hr (by decide) pass0) (pv 7) (pe_ncal (ok_Village T) hr (by decide) (by rfl) pass0 (pa_cons (pv 3) pa_nil)) (nomark _)) (pw_or1 (pt_cmpR (k_neA (K := K) rfl hr.units) (pe_mcal0 (ok_Village_roads T) hr (by decide) pass0 (pv 7)) (pe_callB (k_sorted (K := K) rfl) (by rfl) T.b_sorted (by decide +kernel) (pa_cons (pe_lc (own := [("pair", 14)]) rfl sc_law.nd (k_pilist (K := K) rfl (pv 3)) (k_blk (N := ["script", "deck", "lap", "roads", "doors", "ways", "many", "land", "tales", "both", "stands", "turn", "at", "spot", "pair", "bare", "far_off", "one"]) (sc := defScope s_law) rfl rfl (by decide +kernel)) (fun _ _ _ _ _ => (pg_name (i := 14) sc_law.nd rfl (by first | exact Or.inl rfl | exact Or.inr rfl))) (fun _ _ _ _ _ => pts_nil) (fun _ _ _ _ _ => (pe_tup (pa_cons (pe_callB (k_minA (K := K) rfl rfl hr) (by rfl) T.b_min (by decide +kernel) (pa_cons (pv 14) pa_nil)) (pa_cons (pe_callB (k_maxA (K := K) rfl rfl hr) (by rfl) T.b_max (by decide +kernel) (pa_cons (pv 14) pa_nil)) pa_nil))))) pa_nil)) (nomark _)))))
    (pss_one (ps_ret pe_bl))
    pss_nil)
    (pss_cons (ps_setLc (i := 16) (own := [("spot", 13)]) rfl sc_law.nd rfl rfl (sw_true rfl rfl rfl (by decide +kernel)) (pi_range1 (by rfl) T.b_range (pa_cons (pv 6) pa_nil)) (k_blk (N := ["script", "deck", "lap", "roads", "doors", "ways", "many", "land", "tales", "both", "stands", "turn", "at", "spot", "pair", "bare", "far_off", "one"]) (sc := defScope s_law) rfl rfl (by decide +kernel)) (fun _ _ _ _ _ => (pg_name (i := 13) sc_law.nd rfl (by first | exact Or.inl rfl | exact Or.inr rfl))) (fun _ _ _ _ _ => pts_nil) (fun _ _ _ _ _ => (pe_mcal (ok_Village_apart T) hr (by decide) pass0 (pv 7) (pa_cons pe_int (pa_cons (pv 13) pa_nil)))))
    (pss_one (ps_if (pt_cmpR (k_neA (K := K) rfl hr.units) (pv 16) (k_ixA (K := K) rfl hr (pv 5) pe_int (fun _ _ => rfl)) (nomark _))
    (pss_one (ps_ret pe_bl))
    pss_nil)))))))))))))
    (pss_one (ps_ret pe_bl)))), ?_⟩
  have rs : R K H (.ref a) (⟨ns⟩ : Scr) := ⟨a, rfl, hS⟩
  refine ⟨_, rfl, H, .ref a, ⟨ns⟩, rfl, Ex.refl _, rs, by show ns.length ≤ 1000; omega, fun t g H1 s1 n1 n2 hI => ?_⟩
  refine x_for (K := K) (F := H) (B := BN K Int 2) (it_rng1 (ev_addI ev_int (ev_min2 ev_int (ev_lenScr (ev_var (x := (⟨ns⟩ : Scr)) rfl rs)))) (by show _ ≤ 2 + min 4 (ns.length : Int) ∧ 2 + min 4 (ns.length : Int) ≤ _; omega)) s1.fh tgt_n fun F2 H2 s2 => ?_
  refine ⟨fun i F' σ' H' => ∃ o2 o3 o4 o5 o6 o7 o8 o9 o10 o11 o12 o13 o14 o15 o16, σ' = [some (.ref a), some (.ref t), o2, o3, o4, o5, o6, o7, o8, o9, o10, o11, o12, o13, o14, o15, o16, none] ∧ Ex F2 F' ∧ Ex F' H' ∧ Deck F' H' t g (10000 * (i : Int)),
    ⟨_, _, _, _, _, _, _, _, _, _, _, _, _, _, _, rfl, Ex.refl _, s2.fh, (deckS t g).le ((deckS t g).stp hI s2) (by omega)⟩, fun i F' σ' H' ⟨_, _, _, _, _, _, _, _, _, _, _, _, _, _, _, _, q1, q2, _⟩ => ⟨q1, q2⟩, ?_, ?_⟩
  · rintro i x F' σ' H' hxi ⟨o2, o3, o4, o5, o6, o7, o8, o9, o10, o11, o12, o13, o14, o15, o16, rfl, e1, e2, hI'⟩ F3 H3 s3 σ2 ⟨u, ru, rfl⟩
    cases ru
    have hi : i < 6 := by
      have := (List.getElem?_eq_some_iff.mp hxi).1
      rw [rng_len] at this
      omega
    have i3 := (deckS t g).stp hI' s3
    refine u_asg (EvM.go (K := K) (S := deckS t g) (em_vilS rfl vil_deck (em_three rfl (by omega)) (by omega) (fun z h => by rcases h with h | h | h <;> omega)) s3.fh i3 fun vl es F4 H4 s4 i4 ⟨n, Tn, hn40⟩ rl => ?_)
    have hn6 : n ≤ 60 := by omega
    have hpos := Tn.pos
    refine x_asg (K := K) (ev_doors (ev_var rfl rl) Tn hn6) s4.fh fun vd F5 H5 s5 rd => ?_
    have i5 := (deckS t g).stp i4 s5
    refine u_par (u_cons (EvX.go (K := K) (ev_dways (ev_var rfl rd) Tn hn6) s5.fh fun vf F6 H6 s6 rf => u_cons (EvX.go (K := K) (F := F6) (x := n) (ev_lenDo (es := es) (by omega) (ev_var rfl (Rep.mono s6.ff rd))) s6.fh fun vm F7 H7 s7 rm => u_nil ⟨_, _, rfl, ?_⟩)))
    cases (show vm = V.int n from rm)
    have i7 := (deckS t g).stp ((deckS t g).stp i5 s6) s7
    have e47 : Ex F4 F7 := s5.ff.trans (s6.ff.trans s7.ff)
    have rl7 := Rep.mono e47 rl
    have rd7 := Rep.mono (s6.ff.trans s7.ff) rd
    have rf7 := Rep.mono s7.ff rf
    -- land, tales
    refine x_asg (K := K) (F := F7) (x := (⟨T.nVillage, n, held es⟩ : Vil)) (ev_vil (C := T.nVillage) (ev_var rfl rl7) Tn hn6) s7.fh fun vv F8 H8 s8 rv => ?_
    have i8 := (deckS t g).stp i7 s8
    refine u_asg (EvM.go (K := K) (S := deckS t g) (P := fun xs : List (List Int) => xs.length = 2 ∧ ∀ x ∈ xs, Tale n es x) (by exact em_lst (eml_all (P := fun st => Tale n es st) (em_taleS rfl tale_deck (ev_var rfl (Rep.mono s8.ff rd7)) Tn hn6 (by omega)) (eml_all (em_taleS rfl tale_deck (ev_var rfl (Rep.mono s8.ff rd7)) Tn hn6 (by omega)) eml_nilA)) fun xs h => by omega) s8.fh i8 fun vt tales F9 H9 s9 i9 ⟨htl, hta⟩ rt => ?_)
    obtain ⟨st0, st1, rfl⟩ : ∃ p q, tales = [p, q] := by
      rcases tales with _ | ⟨p, _ | ⟨q, _ | ⟨z, l⟩⟩⟩
      · simp at htl
      · simp at htl
      · exact ⟨p, q, rfl⟩
      · simp at htl
    have A0 : Tale n es st0 := hta _ (by simp)
    have A1 : Tale n es st1 := hta _ (by simp)
    have rv9 := Rep.mono s9.ff rv
    have fit0 : VOk (⟨T.nVillage, n, held es⟩ : Vil) → Fits (⟨T.nVillage, n, held es⟩ : Vil) [] := fun v => tale_fits A0 (l := []) fun e he => by cases he
    refine u_par (u_cons (u_lstA (u_cons (go_rpt (K := K) (C := T.nReports) (ev_var rfl rv9) s9.fh fit0 fun b0 FA HA sA nA fkA => u_cons (go_rpt (K := K) (C := T.nReports) (ev_var rfl (Rep.mono sA.ff rv9)) sA.fh fit0 fun b1 FB HB sB nB fkB => u_nil ⟨by show 2 ≤ sizeLine; decide, fun bo hbo => ?_⟩)))))
    have sC := (Stp.refl sB.fh).new (o := .lst [.ref b0, .ref b1]) hbo
    have rbo : R K (upd FB bo (.lst [.ref b0, .ref b1])) (.ref bo) ([V.ref b0, V.ref b1] : List V) := ⟨bo, _, rfl, upd_same, .cons rfl (.cons rfl .nil)⟩
    generalize upd FB bo (.lst [.ref b0, .ref b1]) = FC at sC rbo
    generalize upd HB bo (.lst [.ref b0, .ref b1]) = HC at sC
    have hA0 : HA b0 ≠ none := fun z => by
      obtain ⟨_, _, _, _, q, _⟩ := fkA
      rw [q] at z
      cases z
    have nb01 : b0 ≠ b1 := fun z => hA0 (z ▸ nB)
    refine EvN.go (K := K) (F := FC) (en_lst (α := Ch) (el_cons ev_nillst (el_cons ev_nillst el_nil)) (by simp)) sC.fh fun so us FD HD sD nD fD hD rD => u_nil ⟨_, _, rfl, ?_⟩
    obtain ⟨v0, v1, rfl, rv0, rv1⟩ : ∃ v0 v1, us = [v0, v1] ∧ R K FD v0 ([] : Ch) ∧ R K FD v1 ([] : Ch) := by
      cases rD with
      | cons h t => cases t with
        | cons h2 t2 => cases t2 with
          | nil => exact ⟨_, _, rfl, h, h2⟩
    have sAD := ((sA.trans sB).trans sC).trans sD
    have i9' : Deck F9 H9 t g (10000 * (i : Int) + 5000) := (deckS t g).le i9 (by omega)
    have iD := (deckS t g).stp i9' sAD
    have nM0 : ¬ TM t g b0 := fun z => ((deckS t g).no i9 z).1 nA
    have nM1 : ¬ TM t g b1 := fun z => ((deckS t g).no ((deckS t g).stp i9' sA) z).1 nB
    have nMs : ¬ TM t g so := fun z => ((deckS t g).no ((deckS t g).stp i9' ((sA.trans sB).trans sC)) z).1 nD
    have fk0 := ((fkA.stp sB).stp sC).stp sD
    have fk1 := (fkB.stp sC).stp sD
    have hs0 : so ≠ b0 := fun z => by
      have := sC.hh.trans sD.hh
      obtain ⟨_, _, _, _, q, _⟩ := (fkA.stp sB).stp sC
      subst z
      rw [q] at nD
      cases nD
    have hs1 : so ≠ b1 := fun z => by
      obtain ⟨_, _, _, _, q, _⟩ := fkB.stp sC
      subst z
      rw [q] at nD
      cases nD
    have eC : Ex F9 FC := sA.ff.trans (sB.ff.trans sC.ff)
    have e9D : Ex F9 FD := sAD.ff
    have e3D : Ex F3 FD := s4.ff.trans (e47.trans (s8.ff.trans (s9.ff.trans e9D)))
    have rboD := Rep.mono sD.ff rbo
    have rfD := Rep.mono (s8.ff.trans (s9.ff.trans e9D)) rf7
    have rlD := Rep.mono (s8.ff.trans (s9.ff.trans e9D)) rl7
    have rvD := Rep.mono e9D rv9
    have rtD := Rep.mono e9D rt
    obtain ⟨bs, hbs⟩ : ∃ bs : Int → Addr, bs = fun q => if q = 0 then b0 else b1 := ⟨_, rfl⟩
    obtain ⟨sts, hsts⟩ : ∃ sts : Int → List Int, sts = fun q => if q = 0 then st0 else st1 := ⟨_, rfl⟩
    have q0 : bs 0 = b0 := by rw [hbs]; rfl
    have q1 : bs 1 = b1 := by rw [hbs]; rfl
    have p0 : sts 0 = st0 := by rw [hsts]; rfl
    have p1 : sts 1 = st1 := by rw [hsts]; rfl
    have two : ∀ {P : Int → Prop}, P 0 → P 1 → ∀ q, hs 2 q → P q := fun h0 h1 q hq => by
      obtain ⟨a0, a1⟩ := hq
      rcases (by omega : q = 0 ∨ q = 1) with rfl | rfl
      · exact h0
      · exact h1
    have nMb : ∀ q, hs 2 q → ¬ TM t g (bs q) := two (by rw [q0]; exact nM0) (by rw [q1]; exact nM1)
    have hsb : ∀ q, hs 2 q → so ≠ bs q := two (by rw [q0]; exact hs0) (by rw [q1]; exact hs1)
    have hbb : ∀ q, hs 2 q → ∀ z, hs 2 z → bs q = bs z → q = z := two (two (fun _ => rfl) (fun h => absurd (q0 ▸ q1 ▸ h) nb01)) (two (fun h => absurd (q0 ▸ q1 ▸ h).symm nb01) (fun _ => rfl))
    have As : ∀ q, hs 2 q → Tale n es (sts q) := two (by rw [p0]; exact A0) (by rw [p1]; exact A1)
    rw [← q0, ← q1] at rboD
    rw [← p0, ← p1] at rtD
    refine x_for (K := K) (F := FD) (B := BN K Int 11) (it_rng1 (ev_int (i := 14)) (by decide)) sD.fh tgt_n fun FE HE sE => ?_
    refine ⟨fun j F' σ' H' => ∃ (rs' : Int → Ch) (vss : Int → V) (o11 o12 o13 o14 : Option V), σ' = [some (.ref a), some (.ref t), some (.int x), some vl, some vd, some vf, some (.int n), some vv, some vt, some (.ref bo), some (.ref so), o11, o12, o13, o14, o15, o16, none] ∧ Ex FE F' ∧ Ex F' H' ∧ Deck F' H' t g (10000 * (i : Int) + 5000 + 20 * (j : Int)) ∧ (∀ q, hs 2 q → Folk K F' H' (bs q) ⟨T.nReports, ⟨T.nVillage, n, held es⟩, rs' q⟩) ∧ F' so = none ∧ H' so = some (.lst [vss 0, vss 1]) ∧ (∀ q, hs 2 q → R K F' (vss q) (rs' q)) ∧ ∀ q, hs 2 q → Lot n (sts q) j (rs' q),
      ⟨fun _ => [], fun q => if q = 0 then v0 else v1, _, _, _, _, rfl, Ex.refl _, sE.fh, (deckS t g).le ((deckS t g).stp iD sE) (by omega), two (by rw [q0]; exact fk0.stp sE) (by rw [q1]; exact fk1.stp sE), sE.fno hD fD, sE.hh _ _ hD, two (Rep.mono sE.ff rv0) (Rep.mono sE.ff rv1), fun q hq => Lot.nil⟩, fun i F' σ' H' ⟨_, _, _, _, _, _, _, q1, q2, _⟩ => ⟨q1, q2⟩, ?_, ?_⟩
    · rintro j y F' σ' H' hyj ⟨rs', vss, o11, o12, o13, o14, rfl, e10, eH, hI10, fk, fs', hs', rvs, lots⟩ F11 H11 s11 σ2 ⟨u, ru, rfl⟩
      cases ru
      have hj : j < 14 := by
        have := (List.getElem?_eq_some_iff.mp hyj).1
        rw [rng_len] at this
        simpa using this
      have i11 := (deckS t g).stp hI10 s11
      refine u_par (u_cons (EvM.go (K := K) (S := deckS t g) (em_takeN rfl (ev_int (i := 2)) (by decide) (by decide) (by omega)) s11.fh i11 fun w1 at_ F12 H12 s12 i12 hat r12 => u_cons (EvM.go (K := K) (S := deckS t g) (em_takeN rfl (ev_var (x := n) rfl rfl) (by omega) (by omega) (by omega)) s12.fh i12 fun w2 spot F13 H13 s13 i13 hsp r13 => u_nil ⟨_, _, rfl, ?_⟩)))
      cases r12
      cases r13
      have eD13 : Ex FD F13 := sE.ff.trans (e10.trans (s11.ff.trans (s12.ff.trans s13.ff)))
      have Aq := As at_ hat
      refine x_asg (K := K) (F := F13) (x := (spot, stAt (sts at_) spot)) (ev_pair (ev_var (x := spot) rfl rfl) (ev_ix (ev_ix (ev_var rfl (Rep.mono eD13 rtD)) (ev_var (x := at_) rfl rfl) (at2f sts hat)) (ev_var (x := spot) rfl rfl) (Aq.at hsp))) s13.fh fun w3 F14 H14 s14 r14 => ?_
      have i14 := (deckS t g).stp i13 s14
      have sM : StpM (TM t g) F' H' F14 H14 := ((s11.m.trans s12).trans s13).trans s14.m
      have fk14 : ∀ q, hs 2 q → Folk K F14 H14 (bs q) ⟨T.nReports, ⟨T.nVillage, n, held es⟩, rs' q⟩ := fun q hq => (fk q hq).stpM sM (nMb q hq)
      have hs14 := sM.hh _ _ nMs hs'
      have fs14 : F14 so = none := sM.fno hs' fs'
      have rvs14 : ∀ q, hs 2 q → R K F14 (vss q) (rs' q) := fun q hq => Rep.mono sM.ff (rvs q hq)
      have eD14 := eD13.trans s14.ff
      have lot := lots at_ hat
      have mem64 : ∀ e ∈ rs' at_ ++ [(spot, stAt (sts at_) spot)], hs 64 e.1 ∧ hs 64 e.2 := fun e he => by
        have : hs n e.1 ∧ hs n e.2 := by
          rcases List.mem_append.mp he with q | q
          · exact ⟨(lot.ok e q).1, (lot.ok e q).2 ▸ Aq.hs (lot.ok e q).1⟩
          · rw [List.mem_singleton.mp q]
            exact ⟨hsp, Aq.hs hsp⟩
        exact ⟨⟨this.1.1, by have := this.1.2; omega⟩, ⟨this.2.1, by have := this.2.2; omega⟩⟩
      have fin : ∀ {N : L2.St → Hp → Prop}, (∀ σ' H', (∃ (F' : Hp) (rs'' : Int → Ch) (vss' : Int → V), σ' = [some (.ref a), some (.ref t), some (.int x), some vl, some vd, some vf, some (.int n), some vv, some vt, some (.ref bo), some (.ref so), some (.int y), some (.int at_), some (.int spot), some w3, o15, o16, none] ∧ Ex F14 F' ∧ Ex F' H' ∧ Deck F' H' t g (10000 * (i : Int) + 5000 + 20 * (j : Int) + 5) ∧ (∀ q, hs 2 q → Folk K F' H' (bs q) ⟨T.nReports, ⟨T.nVillage, n, held es⟩, rs'' q⟩) ∧ F' so = none ∧ H' so = some (.lst [vss' 0, vss' 1]) ∧ (∀ q, hs 2 q → R K F' (vss' q) (rs'' q)) ∧ ∀ q, hs 2 q → Lot n (sts q) (j + 1) (rs'' q)) → N σ' H') →
          ∀ {Fq Hq : Hp} {l' : Ch} {v : V}, Ex F14 Fq → Ex Fq Hq → Deck Fq Hq t g (10000 * (i : Int) + 5000 + 20 * (j : Int) + 5) → (∀ q, hs 2 q → q ≠ at_ → Folk K Fq Hq (bs q) ⟨T.nReports, ⟨T.nVillage, n, held es⟩, rs' q⟩) → Folk K Fq Hq (bs at_) ⟨T.nReports, ⟨T.nVillage, n, held es⟩, l'⟩ → Fq so = none → Hq so = some (.lst [vss 0, vss 1]) → R K Fq v l' → Lot n (sts at_) (j + 1) l' →
          N [some (.ref a), some (.ref t), some (.int x), some vl, some vd, some vf, some (.int n), some vv, some vt, some (.ref bo), some (.ref so), some (.int y), some (.int at_), some (.int spot), some w3, o15, o16, none] (upd Hq so (.lst ([vss 0, vss 1].set at_.toNat v))) := fun {N} hN {Fq Hq l' v} eF eQ iQ fkQ fkA' fsQ hsQ rvQ lotQ => by
        have sS : StpM (fun z => z = so) Fq Hq Fq (upd Hq so (.lst ([vss 0, vss 1].set at_.toNat v))) := (StpM.refl eQ).mut (.inl rfl) fsQ (by rw [hsQ]; simp)
        refine hN _ _ ⟨Fq, fun q => if q = at_ then l' else rs' q, fun q => if q = at_ then v else vss q, rfl, eF, sS.fh, (deckS t g).upd_ok iQ nMs fsQ hsQ, fun q hq => ?_, fsQ, by rw [upd_same, set2 vss v hat], fun q hq => ?_, fun q hq => ?_⟩
        · by_cases h : q = at_
          · subst h
            simp only [if_pos]
            exact fkA'.stpM sS (fun z => hsb q hq z.symm)
          · simp only [if_neg h]
            exact (fkQ q hq h).stpM sS (fun z => hsb q hq z.symm)
        · by_cases h : q = at_
          · simp only [if_pos h]
            exact rvQ
          · simp only [if_neg h]
            exact Rep.mono eF (rvs14 q hq)
        · by_cases h : q = at_
          · subst h
            simp only [if_pos]
            exact lotQ
          · simp only [if_neg h]
            exact (lots q hq).up
      refine x_cut (fun σ' H' => ∃ (F' : Hp) (rs'' : Int → Ch) (vss' : Int → V), σ' = [some (.ref a), some (.ref t), some (.int x), some vl, some vd, some vf, some (.int n), some vv, some vt, some (.ref bo), some (.ref so), some (.int y), some (.int at_), some (.int spot), some w3, o15, o16, none] ∧ Ex F14 F' ∧ Ex F' H' ∧ Deck F' H' t g (10000 * (i : Int) + 5000 + 20 * (j : Int) + 5) ∧ (∀ q, hs 2 q → Folk K F' H' (bs q) ⟨T.nReports, ⟨T.nVillage, n, held es⟩, rs'' q⟩) ∧ F' so = none ∧ H' so = some (.lst [vss' 0, vss' 1]) ∧ (∀ q, hs 2 q → R K F' (vss' q) (rs'' q)) ∧ ∀ q, hs 2 q → Lot n (sts q) (j + 1) (rs'' q)) (fun N hN => ?_) ?_
      · refine y_andMM (K := K) (S := deckS t g) (n := 10000 * (i : Int) + 5000 + 20 * (j : Int) + 3) (m := 10000 * (i : Int) + 5000 + 20 * (j : Int) + 3 + 1) (et_test (ev_in (x := (spot, stAt (sts at_) spot)) (xs := rs' at_) (ev_var rfl r14) (ev_ixC (ev_obj rfl) (ev_var (x := at_) rfl rfl) hs14 (at2f vss hat) (rvs14 at_ hat)))) s14.fh ((deckS t g).le i14 (by omega)) (by omega) (fun _ => em_eqI (em_takeN rfl (ev_int (i := 2)) (by decide) (by decide) (by omega)) fun _ _ => em_int) (fun hb F15 H15 s15 i15 => ?_) fun F15 H15 s15 i15 => ?_
        · have fk15 : ∀ q, hs 2 q → Folk K F15 H15 (bs q) ⟨T.nReports, ⟨T.nVillage, n, held es⟩, rs' q⟩ := fun q hq => (fk14 q hq).stpM s15 (nMb q hq)
          have hs15 := s15.hh _ _ nMs hs14
          have fs15 : F15 so = none := s15.fno hs14 fs14
          have hmem : (spot, stAt (sts at_) spot) ∈ rs' at_ := by have h := hb; simp only [decide_eq_true_eq] at h; exact h
          have r15 := Rep.mono s15.ff r14
          refine u_seq (u_drop (go_backX (K := K) (a := bs at_) (x := spot) (y := stAt (sts at_) spot) (ev_ix (ev_var rfl (Rep.mono (eD14.trans s15.ff) rboD)) (ev_var (x := at_) rfl rfl) (at2f (fun q => V.ref (bs q)) hat)) (fk15 at_ hat) s15.fh rfl rfl (ev_fst (ev_var (x := (spot, stAt (sts at_) spot)) rfl r15) ev_int) (ev_snd (ev_var (x := (spot, stAt (sts at_) spot)) rfl r15) ev_int) hmem fun F16 H16 s16 fk16 => ?_))
          dsimp only
          have hs16 := s16.hh _ _ (hsb at_ hat) hs15
          have fs16 : F16 so = none := s16.fno hs15 fs15
          have i16 : Deck F16 H16 t g (10000 * (i : Int) + 5000 + 20 * (j : Int) + 3 + 1) := Deck.stpM i15 s16 (fun z => nMb at_ hat (.inl z.symm)) (fun z => nMb at_ hat (.inr z.symm))
          have rv16 := Rep.mono (s15.ff.trans s16.ff) (rvs14 at_ hat)
          have r16 := Rep.mono s16.ff r15
          have hl := lot.len
          refine u_asg1 (EvX.go (K := K) (F := F16) (x := (rs' at_).filter fun e => !decide (e = (spot, stAt (sts at_) spot))) (EvX.is (ev_lc (fun e : Int × Int => !decide (e = (spot, stAt (sts at_) spot))) id (it_list (ev_ixC (ev_obj rfl) (ev_var (x := at_) rfl rfl) hs16 (at2f vss hat) rv16)) tgt_n (by omega) (fun F' x σ' ⟨u, _, e⟩ => by subst e; rfl)
            (fun F' e0 σ' hm e ⟨u, ru, es'⟩ => by subst es'; exact et_test (ev_ne (ev_var rfl ru) (ev_var rfl (Rep.mono e r16))))
            (fun F' e0 σ' hm hf e ⟨u, ru, es'⟩ => by subst es'; exact ev_var rfl ru)) (List.map_id _)) s16.fh fun v17 F17 H17 s17 r17 => ?_)
          have hix : ixN [vss 0, vss 1].length at_ = some at_.toNat := ixN_nat' hat
          refine ⟨_, rfl, _, rfl, so, [vss 0, vss 1], at_, at_.toNat, rfl, rfl, s17.hh _ _ hs16, hix, ?_⟩
          exact fin hN (s15.ff.trans (s16.ff.trans s17.ff)) s17.fh ((deckS t g).le ((deckS t g).stp i16 s17) (by omega)) (fun q hq hne => ((fk15 q hq).stpM s16 (fun z => hne (hbb q hq at_ hat z))).stp s17) (fk16.stp s17) (s17.fno hs16 fs16) (s17.hh _ _ hs16) r17 (lot.back _)
        · have fk15 : ∀ q, hs 2 q → Folk K F15 H15 (bs q) ⟨T.nReports, ⟨T.nVillage, n, held es⟩, rs' q⟩ := fun q hq => (fk14 q hq).stpM s15 (nMb q hq)
          have hs15 := s15.hh _ _ nMs hs14
          have fs15 : F15 so = none := s15.fno hs14 fs14
          have r15 := Rep.mono s15.ff r14
          refine u_seq (u_drop (go_tellX (K := K) (a := bs at_) (x := spot) (y := stAt (sts at_) spot) (ev_ix (ev_var rfl (Rep.mono (eD14.trans s15.ff) rboD)) (ev_var (x := at_) rfl rfl) (at2f (fun q => V.ref (bs q)) hat)) (fk15 at_ hat) s15.fh rfl rfl (ev_fst (ev_var (x := (spot, stAt (sts at_) spot)) rfl r15) ev_int) (ev_snd (ev_var (x := (spot, stAt (sts at_) spot)) rfl r15) ev_int) (tale_fits Aq fun e he => ?_) fun F16 H16 s16 fk16 => ?_))
          · rcases List.mem_cons.mp he with rfl | he
            · exact ⟨hsp, rfl⟩
            · exact lot.ok e he
          dsimp only
          have hs16 := s16.hh _ _ (hsb at_ hat) hs15
          have fs16 : F16 so = none := s16.fno hs15 fs15
          have i16 : Deck F16 H16 t g (10000 * (i : Int) + 5000 + 20 * (j : Int) + 3 + 1) := Deck.stpM i15 s16 (fun z => nMb at_ hat (.inl z.symm)) (fun z => nMb at_ hat (.inr z.symm))
          have rv16 := Rep.mono (s15.ff.trans s16.ff) (rvs14 at_ hat)
          have r16 := Rep.mono s16.ff r15
          have hl := lot.len
          have hsl : (rs' at_ ++ [(spot, stAt (sts at_) spot)]).length < 64 := by
            rw [List.length_append]
            simp
            omega
          obtain ⟨hts, htn⟩ := tell_sort lot.le lot.nd (spot, stAt (sts at_) spot)
          refine u_asg1 (EvX.go (K := K) (F := F16) (x := tellL (rs' at_) (spot, stAt (sts at_) spot)) (en_sortSetP (ns := rs' at_ ++ [(spot, stAt (sts at_) spot)]) (ev_cat (ev_ixC (ev_obj rfl) (ev_var (x := at_) rfl rfl) hs16 (at2f vss hat) rv16) (ev_lst (xs := [(spot, stAt (sts at_) spot)]) (el_cons (ev_var rfl r16) el_nil) (by simp)) (by simp; omega)) hsl mem64 hts htn (fun k' => by rw [mem_tell, List.mem_append, List.mem_singleton])).ev s16.fh fun v17 F17 H17 s17 r17 => ?_)
          have hix : ixN [vss 0, vss 1].length at_ = some at_.toNat := ixN_nat' hat
          refine ⟨_, rfl, _, rfl, so, [vss 0, vss 1], at_, at_.toNat, rfl, rfl, s17.hh _ _ hs16, hix, ?_⟩
          exact fin hN (s15.ff.trans (s16.ff.trans s17.ff)) s17.fh ((deckS t g).le ((deckS t g).stp i16 s17) (by omega)) (fun q hq hne => ((fk15 q hq).stpM s16 (fun z => hne (hbb q hq at_ hat z))).stp s17) (fk16.stp s17) (s17.fno hs16 fs16) (s17.hh _ _ hs16) r17 (lot.tell hsp)
      · rintro σq Hq ⟨Fq, rs'', vss', rfl, eF, eQ, iQ, fkQ, fsQ, hsQ, rvQ, lotQ⟩
        have h20 : hs 2 0 := ⟨by decide, by decide⟩
        have h21 : hs 2 1 := ⟨by decide, by decide⟩
        have rfQ := Rep.mono (eD14.trans eF) rfD
        refine u_or2 ?_
        refine go_r44 (K := K) (b := bs 0) (r := ⟨T.nReports, ⟨T.nVillage, n, held es⟩, rs'' 0⟩) rfl (ev_ix (ev_var rfl (Rep.mono (eD14.trans eF) rboD)) ev_int (at2f (fun q => V.ref (bs q)) h20)) rfl (fkQ 0 h20) eQ iQ (nMb 0 h20) (by omega) rfl rfl rfQ (ev_ixC (ev_obj rfl) ev_int hsQ (at2f vss' h20) (rvQ 0 h20)) Tn hn6 (by have := (lotQ 0 h20).len; show (rs'' 0).length ≤ 1000; omega) fun H20 s20 i20 fk20 => ⟨true, rfl, ?_⟩
        have hsR := s20.hh _ _ nMs hsQ
        have fkR : ∀ q, hs 2 q → Folk K Fq H20 (bs q) ⟨T.nReports, ⟨T.nVillage, n, held es⟩, rs'' q⟩ := fun q hq => (fkQ q hq).stpM s20 (nMb q hq)
        refine go_r44 (K := K) (b := bs 1) (r := ⟨T.nReports, ⟨T.nVillage, n, held es⟩, rs'' 1⟩) rfl (ev_ix (ev_var rfl (Rep.mono (eD14.trans eF) rboD)) ev_int (at2f (fun q => V.ref (bs q)) h21)) rfl (fkR 1 h21) s20.fh i20 (nMb 1 h21) (by omega) rfl rfl rfQ (ev_ixC (ev_obj rfl) ev_int hsR (at2f vss' h21) (rvQ 1 h21)) Tn hn6 (by have := (lotQ 1 h21).len; show (rs'' 1).length ≤ 1000; omega) fun H21 s21 i21 fk21 => ⟨true, rfl, ?_⟩
        exact ⟨Fq, rs'', vss', _, _, _, _, rfl, e10.trans (s11.ff.trans (s12.ff.trans (s13.ff.trans (s14.ff.trans eF)))), s21.fh, (deckS t g).le i21 (by omega), fun q hq => (fkR q hq).stpM s21 (nMb q hq), fsQ, s21.hh _ _ nMs hsR, rvQ, lotQ⟩
    · rintro F' σ' H' ⟨rs', vss, o11, o12, o13, o14, rfl, e10, eH, hI10, fk, fs', hs', rvs, lots⟩
      rw [rng_len] at hI10
      have h20 : hs 2 0 := ⟨by decide, by decide⟩
      have eD' : Ex FD F' := sE.ff.trans e10
      obtain ⟨ob, y1, yI, yf, y2, y3, rr⟩ := (fk 0 h20).lendI eH
      have iZ := (deckS t g).frz (o := ob) hI10 (nMb 0 h20)
      have eZ : Ex F' (upd F' (bs 0) ob) := y2
      generalize upd F' (bs 0) ob = FZ at y3 rr iZ eZ
      have eDZ := eD'.trans eZ
      have rvZ := Rep.mono eDZ rvD
      have rboZ := Rep.mono eDZ rboD
      have rfZ := Rep.mono eDZ rfD
      have rlZ := Rep.mono eDZ rlD
      refine x_for (K := K) (F := FZ) (B := BN K Rpt 15) (it_list (ev_lst (xs := [(⟨T.nReports, ⟨T.nVillage, n, held es⟩, []⟩ : Rpt), ⟨T.nReports, ⟨T.nVillage, n, held es⟩, []⟩]) (el_cons (ev_rpt0 (ev_var rfl rvZ) fit0) (el_cons (ev_rpt0 (EvX.is (ev_rm0 (f := fun r : Rpt => r.v) (pre := fun r => r.C = T.nReports) (r := ⟨T.nReports, ⟨T.nVillage, n, held es⟩, rs' 0⟩) (ev_ixV (ev_var rfl rboZ) ev_int (at2f (fun q => V.ref (bs q)) h20) rr) rfl (by decide +kernel) rfl) rfl) fit0) el_nil)) (by simp))) y3 tgt_n fun FY HY sY => ?_
      have iY := (deckS t g).stp iZ sY
      refine ⟨fun q F' σ' H' => ∃ (o15 : Option V), σ' = [some (.ref a), some (.ref t), some (.int x), some vl, some vd, some vf, some (.int n), some vv, some vt, some (.ref bo), some (.ref so), o11, o12, o13, o14, o15, o16, none] ∧ Ex FY F' ∧ Ex F' H' ∧ Deck F' H' t g (10000 * (i : Int) + 6000 + 3 * (q : Int)),
        ⟨_, rfl, Ex.refl _, sY.fh, (deckS t g).le iY (by simp; omega)⟩, fun i F' σ' H' ⟨_, _, q1, q2, _⟩ => ⟨q1, q2⟩, ?_, ?_⟩
      · rintro q bare F' σ' H' hqb ⟨o15, rfl, eY, eH2, iQ⟩ F20 H20 s20 σ2 ⟨u, ru, rfl⟩
        have hbare : bare = ⟨T.nReports, ⟨T.nVillage, n, held es⟩, []⟩ := by
          have := List.mem_of_getElem? hqb
          simpa using this
        subst hbare
        have hq : q < 2 := (List.getElem?_eq_some_iff.mp hqb).1
        have eZ20 : Ex FZ F20 := sY.ff.trans (eY.trans s20.ff)
        refine y_ifNM (K := K) (S := deckS t g) (em_r44 (r := ⟨T.nReports, ⟨T.nVillage, n, held es⟩, []⟩) rfl (ev_var rfl ru) (ev_var rfl (Rep.mono eZ20 rfZ)) ev_nillst (m := 10000 * (i : Int) + 6000 + 3 * (q : Int)) (by omega) rfl rfl Tn hn6 (by simp)) s20.fh ((deckS t g).stp iQ s20) fun F21 H21 s21 i21 => ?_
        exact ⟨F21, _, rfl, eY.trans (s20.ff.trans s21.ff), s21.fh, (deckS t g).le i21 (by omega)⟩
      · rintro F' σ' H' ⟨o15, rfl, eY, eH2, iQ⟩
        have eZ' : Ex FZ F' := sY.ff.trans eY
        have rv' := Rep.mono eZ' rvZ
        have rl' := Rep.mono eZ' rlZ
        have rf' := Rep.mono eZ' rfZ
        have hel := Tn.len
        refine x_if (F := F') (b := !decide (held es = held es) || !decide (held es = held es)) (et_or (et_test (ev_neVV T.i_Village (v := ⟨T.nVillage, n, held es⟩) (y := ⟨T.nVillage, n, held es⟩) (ev_var rfl rv') (ev_vil (C := T.nVillage) (ev_var rfl rl') Tn hn6) rfl rfl)) fun _ => et_test (ev_ne (K := K) (en_vm0 (v := ⟨T.nVillage, n, held es⟩) (f := fun v => v.es) (pre := fun v => v.C = T.nVillage) (ev_var rfl rv') rfl (by decide +kernel) rfl).ev (EvX.is (en_sortP (ev_lcy (fun e : Int × Int => (min e.1 e.2, max e.1 e.2)) (it_list (ev_var rfl rl')) tgt_n (by omega) (fun F' x σ' ⟨u, _, e⟩ => by subst e; rfl) fun F' e0 σ' hm e ⟨u, ru, es'⟩ => by
          subst es'
          exact ev_pair (ev_minP (ev_var rfl ru)) (ev_maxP (ev_var rfl ru)))).ev held_sort))) eH2 (fun hb _ _ => by simp at hb) fun _ H30 e30 => ?_
        have h0 : hs n 0 := ⟨by decide, hpos⟩
        refine x_asg (K := K) (F := F') (x := (rng n).map fun z => dist es 0 z) (ev_lcy (fun z => dist es 0 z) (it_rng1 (ev_var (x := n) rfl rfl) (by omega)) tgt_n (by rw [rng_len]; omega) (fun F' x σ' ⟨u, _, e⟩ => by subst e; rfl) fun F' z σ' hm e ⟨u, ru, es'⟩ => by
          subst es'
          exact EvX.is (ev_vm2 (v := ⟨T.nVillage, n, held es⟩) (f := fun (v : Vil) (x y : Int) => dist v.es x y) (ev_var rfl (Rep.mono e rv')) (ev_int (i := 0)) (ev_var (x := z) rfl ru) rfl (by decide +kernel) ⟨rfl, h0, mem_rng.mp hm⟩) (dist_held es 0 z)) (eH2.trans e30) fun v31 F31 H31 s31 r31 => ?_
        refine y_if (F := F31) (b := !decide (((rng n).map fun z => dist es 0 z) = (rng n).map fun z => dist es 0 z)) (et_test (ev_ne (K := K) (ev_var rfl r31) (ev_ix (ev_var rfl (Rep.mono s31.ff rf')) (ev_int (i := 0)) (map_at (rng_at h0))))) s31.fh (fun hb _ _ => by simp at hb) fun _ H32 e32 => ?_
        exact ⟨F31, _, _, _, _, _, _, _, _, _, _, _, _, _, _, _, rfl, e1.trans (s3.ff.trans (e3D.trans (eDZ.trans (eZ'.trans s31.ff)))), s31.fh.trans e32, (deckS t g).le ((deckS t g).stp ((deckS t g).stp ((deckS t g).stp iQ (Stp.of_ex eH2 e30)) s31) (Stp.of_ex s31.fh e32)) (by simp; omega)⟩
  · rintro F' σ' H' ⟨o2, o3, o4, o5, o6, o7, o8, o9, o10, o11, o12, o13, o14, o15, o16, rfl, e1, e2, hI'⟩
    exact k H'
end
/-! what the top has written, the head -/
theorem all_mk {l : PySem.W.OpenLaw} {w : World} {K : PySem.W.Frag} {h : Heap} {mg : Str → Option Value} {fa CVillage CReports f1 f2 f3 f4 f5 f6 f7 f8 f9 f10 f11 f12 f13 f14 f15 f16 f17 f18 f19 f20 f21 f22 f23 f24 f25 : Addr} (X : K.In h) (G : h.Ns mainGlobals mg) (hfa : mg "law" = some (.ref fa))
    {od1 an1 : Option Addr} {sl1 : Array (Option Value)} {oc1 kV1 dc1 pm1 cd1 ct1 : Value}
    {od2 an2 : Option Addr} {sl2 : Array (Option Value)} {oc2 kV2 dc2 pm2 cd2 ct2 : Value}
    {od3 an3 : Option Addr} {sl3 : Array (Option Value)} {oc3 kV3 dc3 pm3 cd3 ct3 : Value}
    {od4 an4 : Option Addr} {sl4 : Array (Option Value)} {oc4 kV4 dc4 pm4 cd4 ct4 : Value}
    {od5 an5 : Option Addr} {sl5 : Array (Option Value)} {oc5 kV5 dc5 pm5 cd5 ct5 : Value}
    {od6 an6 : Option Addr} {sl6 : Array (Option Value)} {oc6 kV6 dc6 pm6 cd6 ct6 : Value}
    {od7 an7 : Option Addr} {sl7 : Array (Option Value)} {oc7 kV7 dc7 pm7 cd7 ct7 : Value}
    {od8 an8 : Option Addr} {sl8 : Array (Option Value)} {oc8 kV8 dc8 pm8 cd8 ct8 : Value}
    {od9 an9 : Option Addr} {sl9 : Array (Option Value)} {oc9 kV9 dc9 pm9 cd9 ct9 : Value}
    {od10 an10 : Option Addr} {sl10 : Array (Option Value)} {oc10 kV10 dc10 pm10 cd10 ct10 : Value}
    {od11 an11 : Option Addr} {sl11 : Array (Option Value)} {oc11 kV11 dc11 pm11 cd11 ct11 : Value}
    {od12 an12 : Option Addr} {sl12 : Array (Option Value)} {oc12 kV12 dc12 pm12 cd12 ct12 : Value}
    {od13 an13 : Option Addr} {sl13 : Array (Option Value)} {oc13 kV13 dc13 pm13 cd13 ct13 : Value}
    {od14 an14 : Option Addr} {sl14 : Array (Option Value)} {oc14 kV14 dc14 pm14 cd14 ct14 : Value}
    {od15 an15 : Option Addr} {sl15 : Array (Option Value)} {oc15 kV15 dc15 pm15 cd15 ct15 : Value}
    {od16 an16 : Option Addr} {sl16 : Array (Option Value)} {oc16 kV16 dc16 pm16 cd16 ct16 : Value}
    {od17 an17 : Option Addr} {sl17 : Array (Option Value)} {oc17 kV17 dc17 pm17 cd17 ct17 : Value}
    {od18 an18 : Option Addr} {sl18 : Array (Option Value)} {oc18 kV18 dc18 pm18 cd18 ct18 : Value}
    {od19 an19 : Option Addr} {sl19 : Array (Option Value)} {oc19 kV19 dc19 pm19 cd19 ct19 : Value}
    {od20 an20 : Option Addr} {sl20 : Array (Option Value)} {oc20 kV20 dc20 pm20 cd20 ct20 : Value}
    {od21 an21 : Option Addr} {sl21 : Array (Option Value)} {oc21 kV21 dc21 pm21 cd21 ct21 : Value}
    {od22 an22 : Option Addr} {sl22 : Array (Option Value)} {oc22 kV22 dc22 pm22 cd22 ct22 : Value}
    {od23 an23 : Option Addr} {sl23 : Array (Option Value)} {oc23 kV23 dc23 pm23 cd23 ct23 : Value}
    {od24 an24 : Option Addr} {sl24 : Array (Option Value)} {oc24 kV24 dc24 pm24 cd24 ct24 : Value}
    {od25 an25 : Option Addr} {sl25 : Array (Option Value)} {oc25 kV25 dc25 pm25 cd25 ct25 : Value}
    (aCVillage : PySem.W.nsIn K mainGlobals "Village" = some (some (.ref CVillage)))
    (pgVillage : PySem.W.plainGet K CVillage Str.empty = true)
    (hdVillage : PySem.W.hasDictIn K CVillage = true)
    (poVillage : PySem.W.plainOver K CVillage = true)
    (saVillage : PySem.W.findIn K (.ref CVillage) "__setattr__" = some (some (.builtin "object.__setattr__")))
    (aCReports : PySem.W.nsIn K mainGlobals "Reports" = some (some (.ref CReports)))
    (pgReports : PySem.W.plainGet K CReports Str.empty = true)
    (hdReports : PySem.W.hasDictIn K CReports = true)
    (poReports : PySem.W.plainOver K CReports = true)
    (saReports : PySem.W.findIn K (.ref CReports) "__setattr__" = some (some (.builtin "object.__setattr__")))
    (a1 : PySem.W.findIn K (.ref CVillage) "houses" = some (some (.ref f1)))
    (i1 : PySem.W.isFn K (.ref f1) = true)
    (l1 : K.lookup f1 = some ⟨oc1, od1, .func (PySem.W.fnOf "houses" "Village.houses" (defArgs s_Village_houses) (defBody s_Village_houses) (defScope s_Village_houses) .none kV1 dc1 pm1 an1 cd1 ct1), sl1⟩)
    (c1 : PySem.W.codeIn K cd1 "Village.houses" = true)
    (k1 : PySem.W.keepIn K (.ref f1) = true)
    (a2 : PySem.W.findIn K (.ref CVillage) "roads" = some (some (.ref f2)))
    (i2 : PySem.W.isFn K (.ref f2) = true)
    (l2 : K.lookup f2 = some ⟨oc2, od2, .func (PySem.W.fnOf "roads" "Village.roads" (defArgs s_Village_roads) (defBody s_Village_roads) (defScope s_Village_roads) .none kV2 dc2 pm2 an2 cd2 ct2), sl2⟩)
    (c2 : PySem.W.codeIn K cd2 "Village.roads" = true)
    (k2 : PySem.W.keepIn K (.ref f2) = true)
    (a3 : PySem.W.findIn K (.ref CVillage) "far" = some (some (.ref f3)))
    (i3 : PySem.W.isFn K (.ref f3) = true)
    (l3 : K.lookup f3 = some ⟨oc3, od3, .func (PySem.W.fnOf "far" "Village.far" (defArgs s_Village_far) (defBody s_Village_far) (defScope s_Village_far) .none kV3 dc3 pm3 an3 cd3 ct3), sl3⟩)
    (c3 : PySem.W.codeIn K cd3 "Village.far" = true)
    (k3 : PySem.W.keepIn K (.ref f3) = true)
    (a4 : PySem.W.nsIn K mainGlobals "need_houses" = some (some (.ref f4)))
    (l4 : K.lookup f4 = some ⟨oc4, od4, .func (PySem.W.fnOf "need_houses" "need_houses" (defArgs s_need_houses) (defBody s_need_houses) (defScope s_need_houses) .none kV4 dc4 pm4 an4 cd4 ct4), sl4⟩)
    (c4 : PySem.W.codeIn K cd4 "need_houses" = true)
    (k4 : PySem.W.keepIn K (.ref f4) = true)
    (a5 : PySem.W.nsIn K mainGlobals "put_together" = some (some (.ref f5)))
    (l5 : K.lookup f5 = some ⟨oc5, od5, .func (PySem.W.fnOf "put_together" "put_together" (defArgs s_put_together) (defBody s_put_together) (defScope s_put_together) .none kV5 dc5 pm5 an5 cd5 ct5), sl5⟩)
    (c5 : PySem.W.codeIn K cd5 "put_together" = true)
    (k5 : PySem.W.keepIn K (.ref f5) = true)
    (a6 : PySem.W.nsIn K mainGlobals "steps_from" = some (some (.ref f6)))
    (l6 : K.lookup f6 = some ⟨oc6, od6, .func (PySem.W.fnOf "steps_from" "steps_from" (defArgs s_steps_from) (defBody s_steps_from) (defScope s_steps_from) .none kV6 dc6 pm6 an6 cd6 ct6), sl6⟩)
    (c6 : PySem.W.codeIn K cd6 "steps_from" = true)
    (k6 : PySem.W.keepIn K (.ref f6) = true)
    (a7 : PySem.W.findIn K (.ref CVillage) "__init__" = some (some (.ref f7)))
    (i7 : PySem.W.isFn K (.ref f7) = true)
    (l7 : K.lookup f7 = some ⟨oc7, od7, .func (PySem.W.fnOf "__init__" "Village.__init__" (defArgs s_Village___init__) (defBody s_Village___init__) (defScope s_Village___init__) .none kV7 dc7 pm7 an7 cd7 ct7), sl7⟩)
    (c7 : PySem.W.codeIn K cd7 "Village.__init__" = true)
    (k7 : PySem.W.keepIn K (.ref f7) = true)
    (mkVillage : PySem.W.makesIn K CVillage = true)
    (kcVillage : PySem.W.keepIn K (.ref CVillage) = true)
    (a8 : PySem.W.findIn K (.ref CVillage) "__eq__" = some (some (.ref f8)))
    (i8 : PySem.W.isFn K (.ref f8) = true)
    (l8 : K.lookup f8 = some ⟨oc8, od8, .func (PySem.W.fnOf "__eq__" "Village.__eq__" (defArgs s_Village___eq__) (defBody s_Village___eq__) (defScope s_Village___eq__) .none kV8 dc8 pm8 an8 cd8 ct8), sl8⟩)
    (c8 : PySem.W.codeIn K cd8 "Village.__eq__" = true)
    (k8 : PySem.W.keepIn K (.ref f8) = true)
    (a9 : PySem.W.findIn K (.ref CVillage) "apart" = some (some (.ref f9)))
    (i9 : PySem.W.isFn K (.ref f9) = true)
    (l9 : K.lookup f9 = some ⟨oc9, od9, .func (PySem.W.fnOf "apart" "Village.apart" (defArgs s_Village_apart) (defBody s_Village_apart) (defScope s_Village_apart) .none kV9 dc9 pm9 an9 cd9 ct9), sl9⟩)
    (c9 : PySem.W.codeIn K cd9 "Village.apart" = true)
    (k9 : PySem.W.keepIn K (.ref f9) = true)
    (a10 : PySem.W.findIn K (.ref CReports) "__init__" = some (some (.ref f10)))
    (i10 : PySem.W.isFn K (.ref f10) = true)
    (l10 : K.lookup f10 = some ⟨oc10, od10, .func (PySem.W.fnOf "__init__" "Reports.__init__" (defArgs s_Reports___init__) (defBody s_Reports___init__) (defScope s_Reports___init__) .none kV10 dc10 pm10 an10 cd10 ct10), sl10⟩)
    (c10 : PySem.W.codeIn K cd10 "Reports.__init__" = true)
    (k10 : PySem.W.keepIn K (.ref f10) = true)
    (mkReports : PySem.W.makesIn K CReports = true)
    (kcReports : PySem.W.keepIn K (.ref CReports) = true)
    (a11 : PySem.W.findIn K (.ref CReports) "village" = some (some (.ref f11)))
    (i11 : PySem.W.isFn K (.ref f11) = true)
    (l11 : K.lookup f11 = some ⟨oc11, od11, .func (PySem.W.fnOf "village" "Reports.village" (defArgs s_Reports_village) (defBody s_Reports_village) (defScope s_Reports_village) .none kV11 dc11 pm11 an11 cd11 ct11), sl11⟩)
    (c11 : PySem.W.codeIn K cd11 "Reports.village" = true)
    (k11 : PySem.W.keepIn K (.ref f11) = true)
    (a12 : PySem.W.findIn K (.ref CReports) "reports" = some (some (.ref f12)))
    (i12 : PySem.W.isFn K (.ref f12) = true)
    (l12 : K.lookup f12 = some ⟨oc12, od12, .func (PySem.W.fnOf "reports" "Reports.reports" (defArgs s_Reports_reports) (defBody s_Reports_reports) (defScope s_Reports_reports) .none kV12 dc12 pm12 an12 cd12 ct12), sl12⟩)
    (c12 : PySem.W.codeIn K cd12 "Reports.reports" = true)
    (k12 : PySem.W.keepIn K (.ref f12) = true)
    (a13 : PySem.W.findIn K (.ref CReports) "tell" = some (some (.ref f13)))
    (i13 : PySem.W.isFn K (.ref f13) = true)
    (l13 : K.lookup f13 = some ⟨oc13, od13, .func (PySem.W.fnOf "tell" "Reports.tell" (defArgs s_Reports_tell) (defBody s_Reports_tell) (defScope s_Reports_tell) .none kV13 dc13 pm13 an13 cd13 ct13), sl13⟩)
    (c13 : PySem.W.codeIn K cd13 "Reports.tell" = true)
    (k13 : PySem.W.keepIn K (.ref f13) = true)
    (a14 : PySem.W.findIn K (.ref CReports) "take_back" = some (some (.ref f14)))
    (i14 : PySem.W.isFn K (.ref f14) = true)
    (l14 : K.lookup f14 = some ⟨oc14, od14, .func (PySem.W.fnOf "take_back" "Reports.take_back" (defArgs s_Reports_take_back) (defBody s_Reports_take_back) (defScope s_Reports_take_back) .none kV14 dc14 pm14 an14 cd14 ct14), sl14⟩)
    (c14 : PySem.W.codeIn K cd14 "Reports.take_back" = true)
    (k14 : PySem.W.keepIn K (.ref f14) = true)
    (a15 : PySem.W.findIn K (.ref CReports) "lets_live" = some (some (.ref f15)))
    (i15 : PySem.W.isFn K (.ref f15) = true)
    (l15 : K.lookup f15 = some ⟨oc15, od15, .func (PySem.W.fnOf "lets_live" "Reports.lets_live" (defArgs s_Reports_lets_live) (defBody s_Reports_lets_live) (defScope s_Reports_lets_live) .none kV15 dc15 pm15 an15 cd15 ct15), sl15⟩)
    (c15 : PySem.W.codeIn K cd15 "Reports.lets_live" = true)
    (k15 : PySem.W.keepIn K (.ref f15) = true)
    (a16 : PySem.W.findIn K (.ref CReports) "may_live" = some (some (.ref f16)))
    (i16 : PySem.W.isFn K (.ref f16) = true)
    (l16 : K.lookup f16 = some ⟨oc16, od16, .func (PySem.W.fnOf "may_live" "Reports.may_live" (defArgs s_Reports_may_live) (defBody s_Reports_may_live) (defScope s_Reports_may_live) .none kV16 dc16 pm16 an16 cd16 ct16), sl16⟩)
    (c16 : PySem.W.codeIn K cd16 "Reports.may_live" = true)
    (k16 : PySem.W.keepIn K (.ref f16) = true)
    (a17 : PySem.W.nsIn K mainGlobals "_law_take" = some (some (.ref f17)))
    (l17 : K.lookup f17 = some ⟨oc17, od17, .func (PySem.W.fnOf "_law_take" "_law_take" (defArgs s_law_take) (defBody s_law_take) (defScope s_law_take) .none kV17 dc17 pm17 an17 cd17 ct17), sl17⟩)
    (c17 : PySem.W.codeIn K cd17 "_law_take" = true)
    (k17 : PySem.W.keepIn K (.ref f17) = true)
    (a18 : PySem.W.nsIn K mainGlobals "_law_deck" = some (some (.ref f18)))
    (l18 : K.lookup f18 = some ⟨oc18, od18, .func (PySem.W.fnOf "_law_deck" "_law_deck" (defArgs s_law_deck) (defBody s_law_deck) (defScope s_law_deck) .none kV18 dc18 pm18 an18 cd18 ct18), sl18⟩)
    (c18 : PySem.W.codeIn K cd18 "_law_deck" = true)
    (k18 : PySem.W.keepIn K (.ref f18) = true)
    (a19 : PySem.W.nsIn K mainGlobals "_law_roads" = some (some (.ref f19)))
    (l19 : K.lookup f19 = some ⟨oc19, od19, .func (PySem.W.fnOf "_law_roads" "_law_roads" (defArgs s_law_roads) (defBody s_law_roads) (defScope s_law_roads) .none kV19 dc19 pm19 an19 cd19 ct19), sl19⟩)
    (c19 : PySem.W.codeIn K cd19 "_law_roads" = true)
    (k19 : PySem.W.keepIn K (.ref f19) = true)
    (a20 : PySem.W.nsIn K mainGlobals "_law_doors" = some (some (.ref f20)))
    (l20 : K.lookup f20 = some ⟨oc20, od20, .func (PySem.W.fnOf "_law_doors" "_law_doors" (defArgs s_law_doors) (defBody s_law_doors) (defScope s_law_doors) .none kV20 dc20 pm20 an20 cd20 ct20), sl20⟩)
    (c20 : PySem.W.codeIn K cd20 "_law_doors" = true)
    (k20 : PySem.W.keepIn K (.ref f20) = true)
    (a21 : PySem.W.nsIn K mainGlobals "_law_ways" = some (some (.ref f21)))
    (l21 : K.lookup f21 = some ⟨oc21, od21, .func (PySem.W.fnOf "_law_ways" "_law_ways" (defArgs s_law_ways) (defBody s_law_ways) (defScope s_law_ways) .none kV21 dc21 pm21 an21 cd21 ct21), sl21⟩)
    (c21 : PySem.W.codeIn K cd21 "_law_ways" = true)
    (k21 : PySem.W.keepIn K (.ref f21) = true)
    (a22 : PySem.W.nsIn K mainGlobals "_law_tale" = some (some (.ref f22)))
    (l22 : K.lookup f22 = some ⟨oc22, od22, .func (PySem.W.fnOf "_law_tale" "_law_tale" (defArgs s_law_tale) (defBody s_law_tale) (defScope s_law_tale) .none kV22 dc22 pm22 an22 cd22 ct22), sl22⟩)
    (c22 : PySem.W.codeIn K cd22 "_law_tale" = true)
    (k22 : PySem.W.keepIn K (.ref f22) = true)
    (a23 : PySem.W.nsIn K mainGlobals "_law_lives" = some (some (.ref f23)))
    (l23 : K.lookup f23 = some ⟨oc23, od23, .func (PySem.W.fnOf "_law_lives" "_law_lives" (defArgs s_law_lives) (defBody s_law_lives) (defScope s_law_lives) .none kV23 dc23 pm23 an23 cd23 ct23), sl23⟩)
    (c23 : PySem.W.codeIn K cd23 "_law_lives" = true)
    (k23 : PySem.W.keepIn K (.ref f23) = true)
    (a24 : PySem.W.nsIn K mainGlobals "_law_right" = some (some (.ref f24)))
    (l24 : K.lookup f24 = some ⟨oc24, od24, .func (PySem.W.fnOf "_law_right" "_law_right" (defArgs s_law_right) (defBody s_law_right) (defScope s_law_right) .none kV24 dc24 pm24 an24 cd24 ct24), sl24⟩)
    (c24 : PySem.W.codeIn K cd24 "_law_right" = true)
    (k24 : PySem.W.keepIn K (.ref f24) = true)
    (a25 : PySem.W.nsIn K mainGlobals "law" = some (some (.ref f25)))
    (l25 : K.lookup f25 = some ⟨oc25, od25, .func (PySem.W.fnOf "law" "law" (defArgs s_law) (defBody s_law) (defScope s_law) .none kV25 dc25 pm25 an25 cd25 ct25), sl25⟩)
    (c25 : PySem.W.codeIn K cd25 "law" = true)
    (k25 : PySem.W.keepIn K (.ref f25) = true)
    (b_abs : PySem.W.nsIn K mainGlobals "abs" = some none)
    (b_all : PySem.W.nsIn K mainGlobals "all" = some none)
    (b_enumerate : PySem.W.nsIn K mainGlobals "enumerate" = some none)
    (b_isinstance : PySem.W.nsIn K mainGlobals "isinstance" = some none)
    (b_len : PySem.W.nsIn K mainGlobals "len" = some none)
    (b_list : PySem.W.nsIn K mainGlobals "list" = some none)
    (b_max : PySem.W.nsIn K mainGlobals "max" = some none)
    (b_min : PySem.W.nsIn K mainGlobals "min" = some none)
    (b_range : PySem.W.nsIn K mainGlobals "range" = some none)
    (b_set : PySem.W.nsIn K mainGlobals "set" = some none)
    (b_sorted : PySem.W.nsIn K mainGlobals "sorted" = some none)
    (na_Village_roads_held : PySem.W.findIn K (.ref CVillage) "roads_held" = some none)
    (na_Village_beside_held : PySem.W.findIn K (.ref CVillage) "beside_held" = some none)
    (na_Village_steps_held : PySem.W.findIn K (.ref CVillage) "steps_held" = some none)
    (na_Reports_village_held : PySem.W.findIn K (.ref CReports) "village_held" = some none)
    (na_Reports_heard_held : PySem.W.findIn K (.ref CReports) "heard_held" = some none)
    (oget : PySem.W.specialIn K (.builtin "object.__class__") "__get__" = some (some (.builtin "getset_descriptor.__get__")))
    (otk : PySem.W.takesIn K (.builtin "object.__class__") = some true)
    (iyVillage : PySem.W.typeIn K (.ref CVillage) = some (.type "type"))
    (ikVillage : PySem.W.findIn K (.ref CVillage) "__class__" = some (some (.builtin "object.__class__")))
    (ioVillage : PySem.W.mroIn K CVillage (.type "object") = some true)
    (inVillage : PySem.W.findIn K (.ref CVillage) "__ne__" = some (some (.builtin "object.__ne__")))
    : ∃ fd : FuncData, (∀ (s : Shared) (v : Value), BindsTo s fd ⟨[v], []⟩ [("script", v)]) ∧ ∀ base : Heap, K.In base → base.Ns mainGlobals mg → FnOk l.prog w K mg base CX0 7 fa fd ["script"] (sp_law K) := by
  have e := hfa.symm.trans (PySem.W.mg_of X G a25)
  cases e
  have F1 := fun_mk (st := s_Village_houses) l1 c1 k1
  have B1 := F1.binds (ps := ["self"]) fun _ _ _ _ _ _ us hl => match us, hl with | [_], _ => rfl
  have F2 := fun_mk (st := s_Village_roads) l2 c2 k2
  have B2 := F2.binds (ps := ["self"]) fun _ _ _ _ _ _ us hl => match us, hl with | [_], _ => rfl
  have F3 := fun_mk (st := s_Village_far) l3 c3 k3
  have B3 := F3.binds (ps := ["self", "x", "y"]) fun _ _ _ _ _ _ us hl => match us, hl with | [_, _, _], _ => rfl
  have F4 := fun_mk (st := s_need_houses) l4 c4 k4
  have B4 := F4.binds (ps := ["village", "some"]) fun _ _ _ _ _ _ us hl => match us, hl with | [_, _], _ => rfl
  have F5 := fun_mk (st := s_put_together) l5 c5 k5
  have B5 := F5.binds (ps := ["parts", "number", "road"]) fun _ _ _ _ _ _ us hl => match us, hl with | [_, _, _], _ => rfl
  have F6 := fun_mk (st := s_steps_from) l6 c6 k6
  have B6 := F6.binds (ps := ["beside", "begun"]) fun _ _ _ _ _ _ us hl => match us, hl with | [_, _], _ => rfl
  have F7 := fun_mk (st := s_Village___init__) l7 c7 k7
  have B7 := F7.binds (ps := ["self", "roads"]) fun _ _ _ _ _ _ us hl => match us, hl with | [_, _], _ => rfl
  have F8 := fun_mk (st := s_Village___eq__) l8 c8 k8
  have B8 := F8.binds (ps := ["self", "other"]) fun _ _ _ _ _ _ us hl => match us, hl with | [_, _], _ => rfl
  have F9 := fun_mk (st := s_Village_apart) l9 c9 k9
  have B9 := F9.binds (ps := ["self", "x", "y"]) fun _ _ _ _ _ _ us hl => match us, hl with | [_, _, _], _ => rfl
  have F10 := fun_mk (st := s_Reports___init__) l10 c10 k10
  have B10 := F10.binds (ps := ["self", "village"]) fun _ _ _ _ _ _ us hl => match us, hl with | [_, _], _ => rfl
  have F11 := fun_mk (st := s_Reports_village) l11 c11 k11
  have B11 := F11.binds (ps := ["self"]) fun _ _ _ _ _ _ us hl => match us, hl with | [_], _ => rfl
  have F12 := fun_mk (st := s_Reports_reports) l12 c12 k12
  have B12 := F12.binds (ps := ["self"]) fun _ _ _ _ _ _ us hl => match us, hl with | [_], _ => rfl
  have F13 := fun_mk (st := s_Reports_tell) l13 c13 k13
  have B13 := F13.binds (ps := ["self", "x", "y"]) fun _ _ _ _ _ _ us hl => match us, hl with | [_, _, _], _ => rfl
  have F14 := fun_mk (st := s_Reports_take_back) l14 c14 k14
  have B14 := F14.binds (ps := ["self", "x", "y"]) fun _ _ _ _ _ _ us hl => match us, hl with | [_, _, _], _ => rfl
  have F15 := fun_mk (st := s_Reports_lets_live) l15 c15 k15
  have B15 := F15.binds (ps := ["self", "x", "p"]) fun _ _ _ _ _ _ us hl => match us, hl with | [_, _, _], _ => rfl
  have F16 := fun_mk (st := s_Reports_may_live) l16 c16 k16
  have B16 := F16.binds (ps := ["self", "x"]) fun _ _ _ _ _ _ us hl => match us, hl with | [_, _], _ => rfl
  have F17 := fun_mk (st := s_law_take) l17 c17 k17
  have B17 := F17.binds (ps := ["deck", "many"]) fun _ _ _ _ _ _ us hl => match us, hl with | [_, _], _ => rfl
  have F18 := fun_mk (st := s_law_deck) l18 c18 k18
  have B18 := F18.binds (ps := ["script"]) fun _ _ _ _ _ _ us hl => match us, hl with | [_], _ => rfl
  have F19 := fun_mk (st := s_law_roads) l19 c19 k19
  have B19 := F19.binds (ps := ["deck", "most"]) fun _ _ _ _ _ _ us hl => match us, hl with | [_, _], _ => rfl
  have F20 := fun_mk (st := s_law_doors) l20 c20 k20
  have B20 := F20.binds (ps := ["roads"]) fun _ _ _ _ _ _ us hl => match us, hl with | [_], _ => rfl
  have F21 := fun_mk (st := s_law_ways) l21 c21 k21
  have B21 := F21.binds (ps := ["doors"]) fun _ _ _ _ _ _ us hl => match us, hl with | [_], _ => rfl
  have F22 := fun_mk (st := s_law_tale) l22 c22 k22
  have B22 := F22.binds (ps := ["deck", "doors"]) fun _ _ _ _ _ _ us hl => match us, hl with | [_, _], _ => rfl
  have F23 := fun_mk (st := s_law_lives) l23 c23 k23
  have B23 := F23.binds (ps := ["ways", "some", "spot"]) fun _ _ _ _ _ _ us hl => match us, hl with | [_, _, _], _ => rfl
  have F24 := fun_mk (st := s_law_right) l24 c24 k24
  have B24 := F24.binds (ps := ["deck", "made", "ways", "stands"]) fun _ _ _ _ _ _ us hl => match us, hl with | [_, _, _, _], _ => rfl
  have F25 := fun_mk (st := s_law) l25 c25 k25
  have B25 := F25.binds (ps := ["script"]) fun _ _ _ _ _ _ us hl => match us, hl with | [_], _ => rfl
  have T : Txt K mg := ⟨0, 0, 0, 0, 0, CVillage, CReports, ⟨⟨pgVillage, hdVillage, poVillage, saVillage⟩, f1, _, ⟨a1, i1, k1⟩, F1, B1⟩, ⟨⟨pgVillage, hdVillage, poVillage, saVillage⟩, f2, _, ⟨a2, i2, k2⟩, F2, B2⟩, ⟨⟨pgVillage, hdVillage, poVillage, saVillage⟩, f3, _, ⟨a3, i3, k3⟩, F3, B3⟩, ⟨_, _, PySem.W.mg_of X G a4, F4, B4⟩, ⟨_, _, PySem.W.mg_of X G a5, F5, B5⟩, ⟨_, _, PySem.W.mg_of X G a6, F6, B6⟩, ⟨⟨pgVillage, hdVillage, poVillage, saVillage⟩, PySem.W.mg_of X G aCVillage, f7, _, ⟨mkVillage, a7, i7, kcVillage⟩, F7, B7⟩, ⟨⟨pgVillage, hdVillage, poVillage, saVillage⟩, f8, _, ⟨a8, i8, k8⟩, F8, B8⟩, ⟨⟨pgVillage, hdVillage, poVillage, saVillage⟩, f9, _, ⟨a9, i9, k9⟩, F9, B9⟩, ⟨⟨pgReports, hdReports, poReports, saReports⟩, PySem.W.mg_of X G aCReports, f10, _, ⟨mkReports, a10, i10, kcReports⟩, F10, B10⟩, ⟨⟨pgReports, hdReports, poReports, saReports⟩, f11, _, ⟨a11, i11, k11⟩, F11, B11⟩, ⟨⟨pgReports, hdReports, poReports, saReports⟩, f12, _, ⟨a12, i12, k12⟩, F12, B12⟩, ⟨⟨pgReports, hdReports, poReports, saReports⟩, f13, _, ⟨a13, i13, k13⟩, F13, B13⟩, ⟨⟨pgReports, hdReports, poReports, saReports⟩, f14, _, ⟨a14, i14, k14⟩, F14, B14⟩, ⟨⟨pgReports, hdReports, poReports, saReports⟩, f15, _, ⟨a15, i15, k15⟩, F15, B15⟩, ⟨⟨pgReports, hdReports, poReports, saReports⟩, f16, _, ⟨a16, i16, k16⟩, F16, B16⟩, ⟨_, _, PySem.W.mg_of X G a17, F17, B17⟩, ⟨_, _, PySem.W.mg_of X G a18, F18, B18⟩, ⟨_, _, PySem.W.mg_of X G a19, F19, B19⟩, ⟨_, _, PySem.W.mg_of X G a20, F20, B20⟩, ⟨_, _, PySem.W.mg_of X G a21, F21, B21⟩, ⟨_, _, PySem.W.mg_of X G a22, F22, B22⟩, ⟨_, _, PySem.W.mg_of X G a23, F23, B23⟩, ⟨_, _, PySem.W.mg_of X G a24, F24, B24⟩, ⟨_, _, PySem.W.mg_of X G a25, F25, B25⟩, PySem.W.mg_none_of X G b_abs, PySem.W.mg_none_of X G b_all, PySem.W.mg_none_of X G b_enumerate, PySem.W.mg_none_of X G b_isinstance, PySem.W.mg_none_of X G b_len, PySem.W.mg_none_of X G b_list, PySem.W.mg_none_of X G b_max, PySem.W.mg_none_of X G b_min, PySem.W.mg_none_of X G b_range, PySem.W.mg_none_of X G b_set, PySem.W.mg_none_of X G b_sorted, na_Village_roads_held, na_Village_beside_held, na_Village_steps_held, na_Reports_village_held, na_Reports_heard_held, ⟨pgVillage, hdVillage, poVillage, saVillage⟩, ⟨pgReports, hdReports, poReports, saReports⟩, insc_of (PySem.W.mg_of X G aCVillage) ⟨pgVillage, hdVillage, poVillage, saVillage⟩ iyVillage ikVillage oget otk ioVillage inVillage⟩
  exact ⟨_, fun s v => .of_eq rfl, fun base _ _ => ok_law F25 T⟩
theorem walk {l : PySem.W.OpenLaw} {q : Program} {loose : List Str} {XP : (Str → Option Value) → Heap → Prop} {YP : World → Heap → Prop} {d : DefRec} {K : Params → PySem.W.Frag} (hn : l.most = some 63) (hdf : d.params.defaults = [])
    (hY : ∀ (w : World) (h : Heap), YP w h → (K w.params).In h)
    (F : ∀ (w : World) (mg : Str → Option Value) (fa : Addr) (h : Heap), (K w.params).In h → h.Ns mainGlobals mg → mg d.name = some (.ref fa) →
      ∃ fd : FuncData, (∀ (s : Shared) (u : Value), BindsTo s fd ⟨[u], []⟩ [("script", u)]) ∧ ∀ base : Heap, (K w.params).In base → base.Ns mainGlobals mg → FnOk l.prog w (K w.params) mg base CX0 7 fa fd ["script"] (sp_law (K w.params))) :
    PySem.W.WalkO q loose XP YP l.row.toRowW d [] (fun f vs => PySem.call f vs) :=
  L2.walk_of (n := 63) (k := 7) (x := "script") (CX := fun _ => CX0) (sp := fun w => sp_law (K w.params)) hn (by decide) hdf ⟨rfl, by decide, by decide⟩ hY F (fun _ _ a ns hl _ hS => ⟨a, ns, rfl, hS, hl, fun _ => rfl⟩) fun _ _ _ _ _ z => z
end Lw

open PySem PySem.W PyProof.Rows in
set_option maxRecDepth 100000 in
set_option maxHeartbeats 0 in
theorem PySem.Challenge.cw_movedays_k44_whole_two_reports_of_one_vi_holds : PySem.Challenge.rw_movedays_k44_whole_two_reports_of_one_vi.Holds := by
  w_on; o_law; k_head; (case hw => w_witness2)
  k_fill
  refine Lw.walk (l := PySem.Challenge.rw_movedays_k44_whole_two_reports_of_one_vi) rfl rfl (fun w h Y => PySem.W.kIn_of Y) ?F
  case F =>
    intro w mg fa h KX G hmg
    refine' Lw.all_mk KX G hmg ?aCVillage ?pgVillage ?hdVillage ?poVillage ?saVillage ?aCReports ?pgReports ?hdReports ?poReports ?saReports ?a1 ?i1 ?l1 ?c1 ?k1 ?a2 ?i2 ?l2 ?c2 ?k2 ?a3 ?i3 ?l3 ?c3 ?k3 ?a4 ?l4 ?c4 ?k4 ?a5 ?l5 ?c5 ?k5 ?a6 ?l6 ?c6 ?k6 ?a7 ?i7 ?l7 ?c7 ?k7 ?mkVillage ?kcVillage ?a8 ?i8 ?l8 ?c8 ?k8 ?a9 ?i9 ?l9 ?c9 ?k9 ?a10 ?i10 ?l10 ?c10 ?k10 ?mkReports ?kcReports ?a11 ?i11 ?l11 ?c11 ?k11 ?a12 ?i12 ?l12 ?c12 ?k12 ?a13 ?i13 ?l13 ?c13 ?k13 ?a14 ?i14 ?l14 ?c14 ?k14 ?a15 ?i15 ?l15 ?c15 ?k15 ?a16 ?i16 ?l16 ?c16 ?k16 ?a17 ?l17 ?c17 ?k17 ?a18 ?l18 ?c18 ?k18 ?a19 ?l19 ?c19 ?k19 ?a20 ?l20 ?c20 ?k20 ?a21 ?l21 ?c21 ?k21 ?a22 ?l22 ?c22 ?k22 ?a23 ?l23 ?c23 ?k23 ?a24 ?l24 ?c24 ?k24 ?a25 ?l25 ?c25 ?k25 ?b_abs ?b_all ?b_enumerate ?b_isinstance ?b_len ?b_list ?b_max ?b_min ?b_range ?b_set ?b_sorted ?na_Village_roads_held ?na_Village_beside_held ?na_Village_steps_held ?na_Reports_village_held ?na_Reports_heard_held ?oget ?otk ?iyVillage ?ikVillage ?ioVillage ?inVillage
    (case aCVillage => k_is)
    (case pgVillage => k_is)
    (case hdVillage => k_is)
    (case poVillage => k_is)
    (case saVillage => k_is)
    (case aCReports => k_is)
    (case pgReports => k_is)
    (case hdReports => k_is)
    (case poReports => k_is)
    (case saReports => k_is)
    (case a1 => k_is)
    (case i1 => k_is)
    (case l1 => k_is)
    (case c1 => k_is)
    (case k1 => k_is)
    (case a2 => k_is)
    (case i2 => k_is)
    (case l2 => k_is)
    (case c2 => k_is)
    (case k2 => k_is)
    (case a3 => k_is)
    (case i3 => k_is)
    (case l3 => k_is)
    (case c3 => k_is)
    (case k3 => k_is)
    (case a4 => k_is)
    (case l4 => k_is)
    (case c4 => k_is)
    (case k4 => k_is)
    (case a5 => k_is)
    (case l5 => k_is)
    (case c5 => k_is)
    (case k5 => k_is)
    (case a6 => k_is)
    (case l6 => k_is)
    (case c6 => k_is)
    (case k6 => k_is)
    (case a7 => k_is)
    (case i7 => k_is)
    (case l7 => k_is)
    (case c7 => k_is)
    (case k7 => k_is)
    (case mkVillage => k_is)
    (case kcVillage => k_is)
    (case a8 => k_is)
    (case i8 => k_is)
    (case l8 => k_is)
    (case c8 => k_is)
    (case k8 => k_is)
    (case a9 => k_is)
    (case i9 => k_is)
    (case l9 => k_is)
    (case c9 => k_is)
    (case k9 => k_is)
    (case a10 => k_is)
    (case i10 => k_is)
    (case l10 => k_is)
    (case c10 => k_is)
    (case k10 => k_is)
    (case mkReports => k_is)
    (case kcReports => k_is)
    (case a11 => k_is)
    (case i11 => k_is)
    (case l11 => k_is)
    (case c11 => k_is)
    (case k11 => k_is)
    (case a12 => k_is)
    (case i12 => k_is)
    (case l12 => k_is)
    (case c12 => k_is)
    (case k12 => k_is)
    (case a13 => k_is)
    (case i13 => k_is)
    (case l13 => k_is)
    (case c13 => k_is)
    (case k13 => k_is)
    (case a14 => k_is)
    (case i14 => k_is)
    (case l14 => k_is)
    (case c14 => k_is)
    (case k14 => k_is)
    (case a15 => k_is)
    (case i15 => k_is)
    (case l15 => k_is)
    (case c15 => k_is)
    (case k15 => k_is)
    (case a16 => k_is)
    (case i16 => k_is)
    (case l16 => k_is)
    (case c16 => k_is)
    (case k16 => k_is)
    (case a17 => k_is)
    (case l17 => k_is)
    (case c17 => k_is)
    (case k17 => k_is)
    (case a18 => k_is)
    (case l18 => k_is)
    (case c18 => k_is)
    (case k18 => k_is)
    (case a19 => k_is)
    (case l19 => k_is)
    (case c19 => k_is)
    (case k19 => k_is)
    (case a20 => k_is)
    (case l20 => k_is)
    (case c20 => k_is)
    (case k20 => k_is)
    (case a21 => k_is)
    (case l21 => k_is)
    (case c21 => k_is)
    (case k21 => k_is)
    (case a22 => k_is)
    (case l22 => k_is)
    (case c22 => k_is)
    (case k22 => k_is)
    (case a23 => k_is)
    (case l23 => k_is)
    (case c23 => k_is)
    (case k23 => k_is)
    (case a24 => k_is)
    (case l24 => k_is)
    (case c24 => k_is)
    (case k24 => k_is)
    (case a25 => k_is)
    (case l25 => k_is)
    (case c25 => k_is)
    (case k25 => k_is)
    (case b_abs => k_is)
    (case b_all => k_is)
    (case b_enumerate => k_is)
    (case b_isinstance => k_is)
    (case b_len => k_is)
    (case b_list => k_is)
    (case b_max => k_is)
    (case b_min => k_is)
    (case b_range => k_is)
    (case b_set => k_is)
    (case b_sorted => k_is)
    (case na_Village_roads_held => k_is)
    (case na_Village_beside_held => k_is)
    (case na_Village_steps_held => k_is)
    (case na_Reports_village_held => k_is)
    (case na_Reports_heard_held => k_is)
    (case oget => k_is)
    (case otk => k_is)
    (case iyVillage => k_is)
    (case ikVillage => k_is)
    (case ioVillage => k_is)
    (case inVillage => k_is)

