import PyProof.Rows.All
import Wide.All
import OpenK.AllK
import Wide.FinOn
import HandS.ForMost
import HandS.Exc
import HandS.TryOnly
import HandS.ExcOwn
import HandS.ExcBuiltin
import HandS.ExcIs
import HandS.WordsExc
import HandS.IsInst
import HandS.Wide
import HandS.Codes
import HandS.Defaults
import HandS.Small
import HandS.HeadHook2
import HandS.HeadEnd
import HandS.Head2
import HandS.Walk
import HandS.More
import HandS.Nested
import KE.KSuper
import HandS.HeadWalk
import PySem.Challenge.RW_closefigures_k04_fractions_field
set_option Elab.async false
set_option linter.all false
set_option maxRecDepth 100000
set_option autoImplicit false
universe u v
/-! TL: a logic of typed slots and owned cells over the readings of HandS. -/
namespace TL
open PySem L2

/-! ### heaps -/
def bar (H : Hp) (S : List Addr) : Hp := fun a => if a ∈ S then none else H a
theorem bar_some {H : Hp} {S : List Addr} {a : Addr} {o : HO} : bar H S a = some o ↔ a ∉ S ∧ H a = some o := by
  unfold bar
  by_cases h : a ∈ S <;> simp [h]
theorem bar_sub {H : Hp} {S : List Addr} : Same (bar H S) H := fun _ _ h => (bar_some.mp h).2
theorem bar_same {H H' : Hp} {S : List Addr} (s : Same H H') : Same (bar H S) (bar H' S) := fun _ _ h => bar_some.mpr ⟨(bar_some.mp h).1, s _ _ (bar_some.mp h).2⟩
theorem bar_mono {H : Hp} {S T : List Addr} (s : ∀ a ∈ T, a ∈ S) : Same (bar H S) (bar H T) := fun _ _ h => bar_some.mpr ⟨fun z => (bar_some.mp h).1 (s _ z), (bar_some.mp h).2⟩
theorem bar_upd {H : Hp} {S : List Addr} {p : Addr} {o : HO} (h : p ∈ S) : bar (upd H p o) S = bar H S := by
  funext a
  unfold bar
  by_cases z : a ∈ S
  · rw [if_pos z, if_pos z]
  · rw [if_neg z, if_neg z, upd_ne (fun e => z (by rw [e]; exact h))]
/-- all but what stands at W is as it was -/
def Frm (W : List Addr) (H H' : Hp) : Prop := ∀ a o, H a = some o → a ∉ W → H' a = some o
theorem Frm.refl {W : List Addr} {H : Hp} : Frm W H H := fun _ _ h _ => h
theorem Frm.same {W : List Addr} {H H1 H2 : Hp} (f : Frm W H H1) (s : Same H1 H2) : Frm W H H2 := fun a o h n => s _ _ (f a o h n)
theorem Same.new {H : Hp} {p : Addr} {o : HO} (h : H p = none) : Same H (upd H p o) := fun a u e => by
  rw [upd_ne (ne_of_none e h)]
  exact e

/-! ### what represents what -/
structure Ty (α : Type) where
  rp : Hp → V → α → Prop
  mono : ∀ {H H' : Hp} {v : V} {a : α}, Same H H' → rp H v a → rp H' v a
def yI : Ty Int := ⟨fun _ v a => v = .int a, fun _ h => h⟩
def yB : Ty Bool := ⟨fun _ v a => v = .bl a, fun _ h => h⟩
/-- a text (of code points that there are) -/
def yS : Ty Str := ⟨fun _ v a => v = .str a ∧ PyData.strOk a = true, fun _ h => h⟩
def yN : Ty Unit := ⟨fun _ v _ => v = .non, fun _ h => h⟩
/-- exactly this value -/
def yV (w : V) : Ty Unit := ⟨fun _ v _ => v = w, fun _ h => h⟩
inductive A2 {α : Type u} {β : Type v} (F : α → β → Prop) : List α → List β → Prop
  | nil : A2 F [] []
  | cons {a : α} {b : β} {l : List α} {m : List β} (h : F a b) (t : A2 F l m) : A2 F (a :: l) (b :: m)
theorem A2.imp {α : Type u} {β : Type v} {F G : α → β → Prop} (h : ∀ a b, F a b → G a b) : ∀ {l₁ : List α} {l₂ : List β}, A2 F l₁ l₂ → A2 G l₁ l₂
  | _, _, .nil => .nil
  | _, _, .cons r t => .cons (h _ _ r) (A2.imp h t)
theorem A2.length {α : Type u} {β : Type v} {F : α → β → Prop} : ∀ {l₁ : List α} {l₂ : List β}, A2 F l₁ l₂ → l₁.length = l₂.length
  | _, _, .nil => rfl
  | _, _, .cons _ t => congrArg Nat.succ t.length
/-- a list | a tuple of like things -/
def yL {α : Type} (t : Ty α) : Ty (List α) :=
  ⟨fun H v xs => ∃ a vs, v = .ref a ∧ H a = some (.lst vs) ∧ vs.length ≤ sizeLine ∧ A2 (t.rp H) vs xs,
   fun s ⟨a, vs, e, h, l, p⟩ => ⟨a, vs, e, s _ _ h, l, p.imp fun _ _ z => t.mono s z⟩⟩
def yT {α : Type} (t : Ty α) : Ty (List α) :=
  ⟨fun H v xs => ∃ a vs, v = .ref a ∧ H a = some (.tup vs) ∧ vs.length ≤ sizeLine ∧ A2 (t.rp H) vs xs,
   fun s ⟨a, vs, e, h, l, p⟩ => ⟨a, vs, e, s _ _ h, l, p.imp fun _ _ z => t.mono s z⟩⟩
def yP {α β : Type} (t : Ty α) (u : Ty β) : Ty (α × β) :=
  ⟨fun H v x => ∃ a p q, v = .ref a ∧ H a = some (.tup [p, q]) ∧ t.rp H p x.1 ∧ u.rp H q x.2,
   fun s ⟨a, p, q, e, h, l, r⟩ => ⟨a, p, q, e, s _ _ h, t.mono s l, u.mono s r⟩⟩
/-- one of two types, by a tag: used for lists of unlike things -/
def ySum {α β : Type} (t : Ty α) (u : Ty β) : Ty (α ⊕ β) :=
  ⟨fun H v x => match x with | .inl a => t.rp H v a | .inr b => u.rp H v b,
   fun {_ _ _ x} s h => match x, h with | .inl _, h => t.mono s h | .inr _, h => u.mono s h⟩

/-! ### slots, cells, contexts -/
inductive Sl : Type 1 where
  | any
  | val {α : Type} (t : Ty α) (a : α)
def SlOk (B : Hp) : Option V → Sl → Prop
  | _, .any => True
  | o, .val t a => ∃ v, o = some v ∧ t.rp B v a
theorem SlOk.mono {B B' : Hp} {o : Option V} {s : Sl} (e : Same B B') (h : SlOk B o s) : SlOk B' o s := by
  cases s with
  | any => trivial
  | val t a =>
    obtain ⟨v, e1, r⟩ := h
    exact ⟨v, e1, t.mono e r⟩
structure Cell where
  ok : Hp → HO → Prop
  mono : ∀ {H H' : Hp} {o : HO}, Same H H' → ok H o → ok H' o
def cL {α : Type} (t : Ty α) (xs : List α) : Cell :=
  ⟨fun H o => ∃ vs, o = .lst vs ∧ vs.length ≤ sizeLine ∧ A2 (t.rp H) vs xs, fun s ⟨vs, e, l, p⟩ => ⟨vs, e, l, p.imp fun _ _ z => t.mono s z⟩⟩
/-- fixed for a def's run: the heap at the entry, what it may change of it, what others own -/
structure Fx where
  H0 : Hp
  W : List Addr
  M : List Addr
/-- the slots' contents; ghosts: what is held besides -/
structure Lc : Type 1 where
  s : List Sl
  g : List Sl := []
def Lc.set (l : Lc) (i : Nat) (x : Sl) : Lc := ⟨l.s.set i x, l.g⟩
def Lc.push (l : Lc) (gs : List Sl) : Lc := ⟨l.s, gs ++ l.g⟩
abbrev Own : Type := List (Addr × Cell)
def ad (F : Fx) (O : Own) : List Addr := O.map (·.1) ++ F.M
abbrev br (F : Fx) (O : Own) (H : Hp) : Hp := bar H (ad F O)
structure Hx (F : Fx) (O : Own) (H : Hp) : Prop where
  own : ∀ q ∈ O, ∃ o, H q.1 = some o ∧ q.2.ok (br F O H) o
  nd : (O.map (·.1)).Nodup
  ndM : ∀ q ∈ O, q.1 ∉ F.M
  acc : ∀ q ∈ O, q.1 ∈ F.W ∨ F.H0 q.1 = none
  dom : ∀ a, (a ∈ F.W ∨ a ∈ F.M) → H a ≠ none
  keep : Frm F.W F.H0 H
structure Ok (F : Fx) (O : Own) (l : Lc) (σ : St) (H : Hp) : Prop where
  sl : A2 (SlOk (br F O H)) σ l.s
  gh : ∃ ws, A2 (SlOk (br F O H)) ws l.g
  hx : Hx F O H
theorem Hx.grow {F : Fx} {O : Own} {H H' : Hp} (h : Hx F O H) (s : Same H H') : Hx F O H' :=
  ⟨fun q hq => let ⟨o, e, k⟩ := h.own q hq; ⟨o, s _ _ e, q.2.mono (bar_same s) k⟩, h.nd, h.ndM, h.acc, (fun a ha z => by
    cases e : H a with
    | none => exact h.dom a ha e
    | some o =>
      rw [s _ _ e] at z
      cases z), h.keep.same s⟩
theorem Ok.grow {F : Fx} {O : Own} {l : Lc} {σ : St} {H H' : Hp} (h : Ok F O l σ H) (s : Same H H') : Ok F O l σ H' := ⟨h.sl.imp fun _ _ z => z.mono (bar_same s), let ⟨ws, q⟩ := h.gh; ⟨ws, q.imp fun _ _ z => z.mono (bar_same s)⟩, h.hx.grow s⟩
theorem Hx.fresh0 {F : Fx} {O : Own} {H : Hp} {p : Addr} (h : Hx F O H) (n : H p = none) : F.H0 p = none := by
  cases e : F.H0 p with
  | none => rfl
  | some o =>
    exfalso
    by_cases hw : p ∈ F.W
    · exact h.dom p (.inl hw) n
    · rw [h.keep p o e hw] at n
      cases n
theorem Hx.fresh {F : Fx} {O : Own} {H : Hp} {p : Addr} (h : Hx F O H) (n : H p = none) : p ∉ ad F O := fun z => by
  rcases List.mem_append.mp z with z | z
  · obtain ⟨q, hq, e⟩ := List.mem_map.mp z
    obtain ⟨o, e2, _⟩ := h.own q hq
    rw [e, n] at e2
    cases e2
  · exact h.dom p (.inr z) n

/-! ### from state to state -/
/-- all but the owned objects is as it was -/
structure Mv (O O' : Own) (H H' : Hp) : Prop where
  sub : ∀ a ∈ O'.map (·.1), a ∈ O.map (·.1)
  frm : Frm (O.map (·.1)) H H'
theorem Mv.refl {O : Own} {H : Hp} : Mv O O H H := ⟨fun _ h => h, Frm.refl⟩
theorem Mv.trans {O O1 O2 : Own} {H H1 H2 : Hp} (m : Mv O O1 H H1) (n : Mv O1 O2 H1 H2) : Mv O O2 H H2 := ⟨fun a h => m.sub a (n.sub a h), fun a o h k => n.frm a o (m.frm a o h k) fun z => k (m.sub a z)⟩
theorem Mv.grow {O O' : Own} {H H1 H2 : Hp} (m : Mv O O' H H1) (s : Same H1 H2) : Mv O O' H H2 := ⟨m.sub, m.frm.same s⟩
theorem Mv.same {F : Fx} {O O' : Own} {H H' : Hp} (m : Mv O O' H H') : Same (br F O H) (br F O' H') := fun a o h => by
  obtain ⟨h1, h2⟩ := bar_some.mp h
  exact bar_some.mpr ⟨fun z => h1 ((List.mem_append.mp z).elim (fun y => List.mem_append_left _ (m.sub a y)) (fun y => List.mem_append_right _ y)), m.frm a o h2 fun z => h1 (List.mem_append_left _ z)⟩

/-! ### expressions -/
section
variable {F : Fx} {O O1 O2 O3 O' : Own} {l : Lc} {α β γ : Type}
/-- te gives a (as t tells), leaving the owned cells as O' -/
def Ev (F : Fx) (O : Own) (l : Lc) (te : TE) (t : Ty α) (a : α) (O' : Own) : Prop :=
  ∀ σ H, Ok F O l σ H → ∀ Q : VK, (∀ v H', Mv O O' H H' → Ok F O' l σ H' → t.rp (br F O' H') v a → Q v H') → te σ H Q
/-- te gives a new list of xs at p -/
def EvL (F : Fx) (O : Own) (l : Lc) (te : TE) (t : Ty α) (xs : List α) (O' : Own) : Prop :=
  ∀ σ H, Ok F O l σ H → ∀ Q : VK, (∀ p vs H', Mv O O' H H' → Ok F O' l σ H' → H' p = none → F.H0 p = none → vs.length ≤ sizeLine → A2 (t.rp (br F O' H')) vs xs → Q (.ref p) (upd H' p (.lst vs))) → te σ H Q
def EvA (F : Fx) (O : Own) (l : Lc) (ta : TA) (sls : List Sl) (O' : Own) : Prop :=
  ∀ σ H, Ok F O l σ H → ∀ Q : List V → Hp → Prop, (∀ vs H', Mv O O' H H' → Ok F O' l σ H' → A2 (fun v s => SlOk (br F O' H') (some v) s) vs sls → Q vs H') → ta σ H Q
/-- a test that is true exactly if p -/
def Tt (F : Fx) (O : Own) (l : Lc) (tt : TT) (p : Prop) (O' : Own) : Prop :=
  ∀ σ H, Ok F O l σ H → ∀ Q : Bool → Hp → Prop, (∀ b H', (b = true ↔ p) → Mv O O' H H' → Ok F O' l σ H' → Q b H') → tt σ H Q

theorem same_refl (H : Hp) : Same H H := fun _ _ h => h
theorem Ev.to {te : TE} {t : Ty α} {a b : α} (h : Ev F O l te t a O') (e : a = b) : Ev F O l te t b O' := e ▸ h
theorem slot_of {B : Hp} {σ : St} {i : Nat} {s : Sl} : ∀ {σ : St} {l : List Sl} {i : Nat}, A2 (SlOk B) σ l → l[i]? = some s → ∃ o, σ[i]? = some o ∧ SlOk B o s
  | _, _, _, .nil, e => by simp at e
  | _, _, 0, .cons r _, e => by simp at e; subst e; exact ⟨_, rfl, r⟩
  | _, _, i + 1, .cons r t, e => by
    obtain ⟨o, h1, h2⟩ := slot_of (i := i) (σ := []) t (by simpa using e)
    exact ⟨o, by simpa using h1, h2⟩
theorem paired_set {B : Hp} {o : Option V} {s : Sl} (r : SlOk B o s) : ∀ {σ : St} {l : List Sl} (i : Nat), A2 (SlOk B) σ l → A2 (SlOk B) (σ.set i o) (l.set i s)
  | _, _, _, .nil => .nil
  | _, _, 0, .cons _ t => .cons r t
  | _, _, i + 1, .cons q t => .cons q (paired_set r i t)
theorem ev_var {i : Nat} {t : Ty α} {a : α} (h : l.s[i]? = some (.val t a) := by rfl) : Ev F O l (tVar i) t a O := fun σ H k Q q => by
  obtain ⟨o, e, v, e2, r⟩ := slot_of (σ := []) (i := 0) k.sl h
  subst e2
  exact ⟨v, e, q v H .refl k r⟩
theorem ev_c {v : V} {t : Ty α} {a : α} (h : ∀ B, t.rp B v a) : Ev F O l (tC v) t a O := fun _ H k _ q => q v H .refl k (h _)
theorem ev_int {i : Int} : Ev F O l (tC (.int i)) yI i O := ev_c fun _ => rfl
theorem ev_bl {b : Bool} : Ev F O l (tC (.bl b)) yB b O := ev_c fun _ => rfl
theorem ev_str {x : Str} (h : PyData.strOk x = true := by decide +kernel) : Ev F O l (tC (.str x)) yS x O := ev_c fun _ => ⟨rfl, h⟩
theorem ev_non : Ev F O l (tC .non) yN () O := ev_c fun _ => rfl
theorem ev_val {v : V} : Ev F O l (tC v) (yV v) () O := ev_c fun _ => rfl
/-- two operands, any rule -/
theorem ev_op {r : R2} {ta tb : TE} {t : Ty α} {u : Ty β} {w : Ty γ} {a : α} {b : β} {c : γ} (ha : Ev F O l ta t a O1) (hb : Ev F O1 l tb u b O2)
    (hr : ∀ H x y, Hx F O2 H → t.rp (br F O2 H) x a → u.rp (br F O2 H) y b → ∀ Q : VK, (∀ v H', Same H H' → w.rp (br F O2 H') v c → Q v H') → r x y H Q) : Ev F O l (tOp r ta tb) w c O2 := fun σ H k Q q =>
  ha σ H k _ fun x H1 s1 k1 r1 => hb σ H1 k1 _ fun y H2 s2 k2 r2 => hr H2 x y k2.hx (t.mono s2.same r1) r2 Q fun v H3 s3 r3 => q v H3 ((s1.trans s2).grow s3) (k2.grow s3) r3
theorem ev_un {r : V → Hp → VK → Prop} {ta : TE} {t : Ty α} {w : Ty γ} {a : α} {c : γ} (ha : Ev F O l ta t a O1)
    (hr : ∀ H x, Hx F O1 H → t.rp (br F O1 H) x a → ∀ Q : VK, (∀ v H', Same H H' → w.rp (br F O1 H') v c → Q v H') → r x H Q) : Ev F O l (tUn r ta) w c O1 := fun σ H k Q q =>
  ha σ H k _ fun x H1 s1 k1 r1 => hr H1 x k1.hx r1 Q fun v H3 s3 r3 => q v H3 (s1.grow s3) (k1.grow s3) r3
section
variable {ta tb tc : TE} {i j : Int}
theorem ev_i0 {g : Int → Int → V} {w : Ty γ} {c : γ} (ha : Ev F O l ta yI i O1) (hb : Ev F O1 l tb yI j O2) (h : ∀ B, w.rp B (g i j) c) : Ev F O l (tOp (rI0 g) ta tb) w c O2 :=
  ev_op ha hb fun H x y _ e1 e2 Q q => ⟨i, j, e1, e2, q _ H (same_refl _) (h _)⟩
theorem ev_iC {C : Int → Int → Prop} {g : Int → Int → V} {w : Ty γ} {c : γ} (ha : Ev F O l ta yI i O1) (hb : Ev F O1 l tb yI j O2) (hc : C i j) (h : ∀ B, w.rp B (g i j) c) : Ev F O l (tOp (rI C g) ta tb) w c O2 :=
  ev_op ha hb fun H x y _ e1 e2 Q q => ⟨i, j, e1, e2, hc, q _ H (same_refl _) (h _)⟩
abbrev oAdd : R2 := rI0 fun i j => .int (i + j)
abbrev oSub : R2 := rI0 fun i j => .int (i - j)
abbrev oMul : R2 := rI CMulW fun i j => .int (i * j)
abbrev oMod : R2 := rI (fun _ j => 0 < j) fun i j => .int (i % j)
abbrev oModN : R2 := rI (fun _ j => j ≠ 0) fun i j => .int (i.fmod j)
abbrev oDiv : R2 := rI CDivW fun i j => .int (i / j)
/-- // by any divisor but 0, below 2 ^ 9000 -/
abbrev CDivZ (_ j : Int) : Prop := j ≠ 0 ∧ j.natAbs.log2 < 9000
abbrev oDivN : R2 := rI CDivZ fun i j => .int (i.fdiv j)
theorem op_fdivZ {X : Cx} : OpR X (binaryOp .FloorDiv) oDivN := opI fun i j _ _ _ _ _ hc q => PyProof.Rows.floordiv_int hc.1 q (.inl (PyProof.noPylong_of_log2 hc.2))
abbrev oLt : R2 := rI0 fun i j => .bl (decide (i < j))
abbrev oLe : R2 := rI0 fun i j => .bl (decide (i ≤ j))
abbrev oGt : R2 := rI0 fun i j => .bl (decide (j < i))
abbrev oGe : R2 := rI0 fun i j => .bl (decide (j ≤ i))
abbrev oPow : R2 := rI CPow fun i j => .int (i ^ j.toNat)
theorem ev_add (ha : Ev F O l ta yI i O1) (hb : Ev F O1 l tb yI j O2) : Ev F O l (tOp oAdd ta tb) yI (i + j) O2 := ev_i0 ha hb fun _ => rfl
theorem ev_sub (ha : Ev F O l ta yI i O1) (hb : Ev F O1 l tb yI j O2) : Ev F O l (tOp oSub ta tb) yI (i - j) O2 := ev_i0 ha hb fun _ => rfl
theorem ev_mul (ha : Ev F O l ta yI i O1) (hb : Ev F O1 l tb yI j O2) (hc : CMulW i j) : Ev F O l (tOp oMul ta tb) yI (i * j) O2 := ev_iC ha hb hc fun _ => rfl
theorem ev_mod (ha : Ev F O l ta yI i O1) (hb : Ev F O1 l tb yI j O2) (hc : 0 < j) : Ev F O l (tOp oMod ta tb) yI (i % j) O2 := ev_iC ha hb hc fun _ => rfl
theorem ev_modN (ha : Ev F O l ta yI i O1) (hb : Ev F O1 l tb yI j O2) (hc : j ≠ 0) : Ev F O l (tOp oModN ta tb) yI (i.fmod j) O2 := ev_iC ha hb hc fun _ => rfl
theorem ev_div (ha : Ev F O l ta yI i O1) (hb : Ev F O1 l tb yI j O2) (hc : CDivW i j) : Ev F O l (tOp oDiv ta tb) yI (i / j) O2 := ev_iC ha hb hc fun _ => rfl
theorem ev_divN (ha : Ev F O l ta yI i O1) (hb : Ev F O1 l tb yI j O2) (hc : CDivZ i j) : Ev F O l (tOp oDivN ta tb) yI (i.fdiv j) O2 := ev_iC ha hb hc fun _ => rfl
theorem ev_pow (ha : Ev F O l ta yI i O1) (hb : Ev F O1 l tb yI j O2) (hc : CPow i j) : Ev F O l (tOp oPow ta tb) yI (i ^ j.toNat) O2 := ev_iC ha hb hc fun _ => rfl
theorem ev_lt (ha : Ev F O l ta yI i O1) (hb : Ev F O1 l tb yI j O2) : Ev F O l (tOp oLt ta tb) yB (decide (i < j)) O2 := ev_i0 ha hb fun _ => rfl
theorem ev_le (ha : Ev F O l ta yI i O1) (hb : Ev F O1 l tb yI j O2) : Ev F O l (tOp oLe ta tb) yB (decide (i ≤ j)) O2 := ev_i0 ha hb fun _ => rfl
theorem ev_gt (ha : Ev F O l ta yI i O1) (hb : Ev F O1 l tb yI j O2) : Ev F O l (tOp oGt ta tb) yB (decide (j < i)) O2 := ev_i0 ha hb fun _ => rfl
theorem ev_ge (ha : Ev F O l ta yI i O1) (hb : Ev F O1 l tb yI j O2) : Ev F O l (tOp oGe ta tb) yB (decide (j ≤ i)) O2 := ev_i0 ha hb fun _ => rfl
abbrev uNeg : V → Hp → VK → Prop := rU fun i => .int (-i)
theorem ev_neg (ha : Ev F O l ta yI i O1) : Ev F O l (tUn uNeg ta) yI (-i) O1 := ev_un ha fun H x _ e Q q => ⟨i, e, q _ H (same_refl _) rfl⟩
/-- == of ints, bools, texts -/
class Scal {α : Type} (t : Ty α) [DecidableEq α] where
  eq : ∀ {B B' : Hp} {x y : V} {a b : α}, t.rp B x a → t.rp B' y b → scal x y = true ∧ (decide (x = y) = decide (a = b))
instance : Scal yI := ⟨fun {_ _ x y a b} e1 e2 => by
  have e1 : x = .int a := e1
  have e2 : y = .int b := e2
  subst e1 e2
  refine ⟨rfl, ?_⟩
  by_cases h : a = b <;> simp [h]⟩
instance : Scal yB := ⟨fun {_ _ x y a b} e1 e2 => by
  have e1 : x = .bl a := e1
  have e2 : y = .bl b := e2
  subst e1 e2
  refine ⟨rfl, ?_⟩
  by_cases h : a = b <;> simp [h]⟩
instance : Scal yS := ⟨fun {_ _ x y a b} e1 e2 => by
  have e1 : x = .str a := e1.1
  have e2 : y = .str b := e2.1
  subst e1 e2
  refine ⟨rfl, ?_⟩
  by_cases h : a = b <;> simp [h]⟩
theorem ev_eq {t : Ty α} [DecidableEq α] [Scal t] {a b : α} (ha : Ev F O l ta t a O1) (hb : Ev F O1 l tb t b O2) : Ev F O l (tOp rEq ta tb) yB (decide (a = b)) O2 :=
  ev_op ha hb fun H x y _ e1 e2 Q q => ⟨(Scal.eq e1 e2).1, by rw [(Scal.eq e1 e2).2]; exact q _ H (same_refl _) rfl⟩
theorem ev_ne {t : Ty α} [DecidableEq α] [Scal t] {a b : α} (ha : Ev F O l ta t a O1) (hb : Ev F O1 l tb t b O2) : Ev F O l (tOp rNe ta tb) yB (!decide (a = b)) O2 :=
  ev_op ha hb fun H x y _ e1 e2 Q q => ⟨(Scal.eq e1 e2).1, by rw [(Scal.eq e1 e2).2]; exact q _ H (same_refl _) rfl⟩
end
end
end TL
namespace TL
open PySem L2

theorem same_trans {H H1 H2 : Hp} (a : Same H H1) (b : Same H1 H2) : Same H H2 := fun c o h => b c o (a c o h)
section
variable {F : Fx} {O O1 O2 O3 O' : Own} {l : Lc} {α β γ : Type} {K : PySem.W.Frag}
  {ta tb tc te : TE} {t : Ty α} {u : Ty β} {w : Ty γ} {a : α} {b : β} {c : γ}

/-! ### tests -/
theorem tt_b {b : Bool} (h : Ev F O l te yB b O') : Tt F O l (tB te) (b = true) O' := fun σ H k Q q => h σ H k _ fun v H1 s k1 e => ⟨b, e, q b H1 Iff.rfl s k1⟩
theorem tt_t {b : Bool} (h : Ev F O l te yB b O') : Tt F O l (tTest te) (b = true) O' := fun σ H k Q q => h σ H k _ fun v H1 s k1 e => ⟨b, e, q b H1 Iff.rfl s k1⟩
theorem tt_d {p : Prop} [Decidable p] (h : Ev F O l te yB (decide p) O') : Tt F O l (tTest te) p O' := fun σ H k Q q => h σ H k _ fun v H1 s k1 e => ⟨_, e, q _ H1 (by simp) s k1⟩
theorem tt_db {p : Prop} [Decidable p] (h : Ev F O l te yB (decide p) O') : Tt F O l (tB te) p O' := fun σ H k Q q => h σ H k _ fun v H1 s k1 e => ⟨_, e, q _ H1 (by simp) s k1⟩
theorem tt_n {p : Prop} [Decidable p] (h : Ev F O l te yB (!decide p) O') : Tt F O l (tTest te) (¬ p) O' := fun σ H k Q q => h σ H k _ fun v H1 s k1 e => ⟨_, e, q _ H1 (by simp) s k1⟩
theorem tt_iff {tt : TT} {p q : Prop} (h : Tt F O l tt p O') (e : p ↔ q) : Tt F O l tt q O' := fun σ H k Q z => h σ H k Q fun b H1 i => z b H1 (i.trans e)
theorem tt_and {t1 t2 : TT} {p q : Prop} (h1 : Tt F O l t1 p O1) (h2 : p → Tt F O1 l t2 q O1) : Tt F O l (tAnd t1 t2) (p ∧ q) O1 := fun σ H k Q z => h1 σ H k _ fun b H1 i s1 k1 => by
  cases b with
  | true =>
    show t2 σ H1 Q
    have hp := i.mp rfl
    exact h2 hp σ H1 k1 Q fun b2 H2 i2 s2 k2 => z b2 H2 (i2.trans ⟨fun y => ⟨hp, y⟩, fun y => y.2⟩) (s1.trans s2) k2
  | false =>
    show Q false H1
    exact z false H1 ⟨fun y => (by cases y), fun y => i.mpr y.1⟩ s1 k1
theorem tt_or {t1 t2 : TT} {p q : Prop} (h1 : Tt F O l t1 p O1) (h2 : ¬ p → Tt F O1 l t2 q O1) : Tt F O l (tOr t1 t2) (p ∨ q) O1 := fun σ H k Q z => h1 σ H k _ fun b H1 i s1 k1 => by
  cases b with
  | true =>
    show Q true H1
    exact z true H1 ⟨fun _ => .inl (i.mp rfl), fun _ => rfl⟩ s1 k1
  | false =>
    show t2 σ H1 Q
    have hp : ¬ p := fun y => by cases i.mpr y
    exact h2 hp σ H1 k1 Q fun b2 H2 i2 s2 k2 => z b2 H2 (i2.trans ⟨.inr, fun y => y.resolve_left hp⟩) (s1.trans s2) k2
theorem tt_not {t1 : TT} {p : Prop} (h1 : Tt F O l t1 p O1) : Tt F O l (tNot t1) (¬ p) O1 := fun σ H k Q z => h1 σ H k _ fun b H1 i s1 k1 => z (!b) H1 (by cases b <;> simp_all) s1 k1
/-- .. as values -/
theorem ev_andV {x y : Bool} (h1 : Ev F O l ta yB x O1) (h2 : x = true → Ev F O1 l tb yB y O1) : Ev F O l (tAndV ta tb) yB (x && y) O1 := fun σ H k Q z => h1 σ H k _ fun v H1 s1 k1 e => ⟨x, e, by
  cases x with
  | true =>
    show tb σ H1 Q
    exact h2 rfl σ H1 k1 Q fun v2 H2 s2 k2 e2 => z v2 H2 (s1.trans s2) k2 e2
  | false =>
    show Q (.bl false) H1
    exact z _ H1 s1 k1 rfl⟩
theorem ev_orV {x y : Bool} (h1 : Ev F O l ta yB x O1) (h2 : x = false → Ev F O1 l tb yB y O1) : Ev F O l (tOrV ta tb) yB (x || y) O1 := fun σ H k Q z => h1 σ H k _ fun v H1 s1 k1 e => ⟨x, e, by
  cases x with
  | true =>
    show Q (.bl true) H1
    exact z _ H1 s1 k1 rfl
  | false =>
    show tb σ H1 Q
    exact h2 rfl σ H1 k1 Q fun v2 H2 s2 k2 e2 => z v2 H2 (s1.trans s2) k2 e2⟩
theorem ev_notV {x : Bool} (h1 : Ev F O l ta yB x O1) : Ev F O l (tNotV ta) yB (!x) O1 := fun σ H k Q z => h1 σ H k _ fun v H1 s1 k1 e => ⟨x, e, z _ H1 s1 k1 rfl⟩
theorem ev_ifE {tt : TT} {p : Prop} [Decidable p] {a2 : α} (h : Tt F O l tt p O1) (h1 : p → Ev F O1 l ta t a O2) (h2 : ¬ p → Ev F O1 l tb t a2 O2) : Ev F O l (tIf tt ta tb) t (if p then a else a2) O2 := fun σ H k Q z => h σ H k _ fun b H1 i s1 k1 => by
  cases b with
  | true =>
    show ta σ H1 Q
    have hp := i.mp rfl
    rw [if_pos hp] at z
    exact h1 hp σ H1 k1 Q fun v2 H2 s2 k2 e2 => z v2 H2 (s1.trans s2) k2 e2
  | false =>
    show tb σ H1 Q
    have hp : ¬ p := fun y => by cases i.mpr y
    rw [if_neg hp] at z
    exact h2 hp σ H1 k1 Q fun v2 H2 s2 k2 e2 => z v2 H2 (s1.trans s2) k2 e2
/-- a bool expression of a Prop -/
theorem ev_dec {b : Bool} {p : Prop} [Decidable p] (h : Ev F O l te yB (decide p) O') (e : decide p = b) : Ev F O l te yB b O' := h.to e

/-! ### arguments, tuples, lists -/
theorem ea_nil : EvA F O l tNil [] O := fun σ H k Q q => q [] H .refl k .nil
theorem ea_cons {tr : TA} {sls : List Sl} (h : Ev F O l te t a O1) (hr : EvA F O1 l tr sls O2) : EvA F O l (tCons te tr) (.val t a :: sls) O2 := fun σ H k Q q =>
  h σ H k _ fun v H1 s1 k1 r1 => hr σ H1 k1 _ fun vs H2 s2 k2 r2 => q (v :: vs) H2 (s1.trans s2) k2 (.cons ⟨v, rfl, t.mono s2.same r1⟩ r2)
theorem slv {B : Hp} {v : V} (h : SlOk B (some v) (.val t a)) : t.rp B v a := by
  obtain ⟨v', e, r⟩ := h
  cases e
  exact r
theorem a2_vals {B : Hp} : ∀ {vs : List V} {xs : List α}, A2 (fun v s => SlOk B (some v) s) vs (xs.map (Sl.val t)) → A2 (t.rp B) vs xs
  | [], [], _ => .nil
  | v :: vs, x :: xs, .cons r h => .cons (slv r) (a2_vals h)
theorem ev_pair {tr : TA} (h : EvA F O l tr [.val t a, .val u b] O') : Ev F O l (tTup tr) (yP t u) (a, b) O' := fun σ H k Q q =>
  h σ H k _ fun vs H1 s1 k1 r1 => by
    cases r1 with
    | cons r1 r2 =>
      cases r2 with
      | cons r2 r3 =>
        cases r3
        rename_i x y
        refine ⟨(by show 2 ≤ sizeLine; decide), fun p hp => ?_⟩
        have np := k1.hx.fresh hp
        refine q _ _ (s1.grow (Same.new hp)) (k1.grow (Same.new hp)) ⟨p, x, y, rfl, bar_some.mpr ⟨np, upd_same⟩, t.mono (bar_same (Same.new hp)) (slv r1), u.mono (bar_same (Same.new hp)) (slv r2)⟩
theorem ev_tup {tr : TA} {sls : List Sl} {xs : List α} (h : EvA F O l tr sls O') (e : sls = xs.map (Sl.val t)) (hl : xs.length ≤ sizeLine) : Ev F O l (tTup tr) (yT t) xs O' := fun σ H k Q q =>
  h σ H k _ fun vs H1 s1 k1 r1 => by
    subst e
    have r2 := a2_vals r1
    have hl2 : vs.length ≤ sizeLine := by rw [r2.length]; exact hl
    refine ⟨hl2, fun p hp => ?_⟩
    have np := k1.hx.fresh hp
    exact q _ _ (s1.grow (Same.new hp)) (k1.grow (Same.new hp)) ⟨p, vs, rfl, bar_some.mpr ⟨np, upd_same⟩, hl2, r2.imp fun _ _ z => t.mono (bar_same (Same.new hp)) z⟩
theorem evl_lst {tr : TA} {sls : List Sl} {xs : List α} (h : EvA F O l tr sls O') (e : sls = xs.map (Sl.val t)) (hl : xs.length ≤ sizeLine) : EvL F O l (tLst tr) t xs O' := fun σ H k Q q =>
  h σ H k _ fun vs H1 s1 k1 r1 => by
    subst e
    have r2 := a2_vals r1
    have hl2 : vs.length ≤ sizeLine := by rw [r2.length]; exact hl
    exact ⟨hl2, fun p hp => q p vs H1 s1 k1 hp (k1.hx.fresh0 hp) hl2 r2⟩
end
end TL
namespace TL
open PySem L2

section
variable {F : Fx} {O O1 O2 O3 O' : Own} {l : Lc} {α β γ : Type} {K : PySem.W.Frag}
  {ta tb tc te : TE} {t : Ty α} {u : Ty β} {w : Ty γ} {a : α} {b : β} {c : γ}

/-! ### new lists -/
theorem bar_new {H : Hp} {S : List Addr} {p : Addr} (h : H p = none) (n : p ∉ S) (o : HO) : Same (bar H S) (bar (upd H p o) S) := bar_same (Same.new h)
theorem ev_l {xs : List α} (h : EvL F O l te t xs O') : Ev F O l te (yL t) xs O' := fun σ H k Q q =>
  h σ H k Q fun p vs H1 s1 k1 np n0 hl r => q _ _ (s1.grow (Same.new np)) (k1.grow (Same.new np))
    ⟨p, vs, rfl, bar_some.mpr ⟨k1.hx.fresh np, upd_same⟩, hl, r.imp fun _ _ z => t.mono (bar_same (Same.new np)) z⟩

/-! ### places -/
abbrev Inb {α : Type} (xs : List α) (i : Int) : Prop := -(xs.length : Int) ≤ i ∧ i < xs.length
def ix {α : Type} [Inhabited α] (xs : List α) (i : Int) : α := (atI xs i).getD default
theorem ixN_of {n : Nat} {i : Int} (h : -(n : Int) ≤ i ∧ i < n) : ∃ j, ixN n i = some j ∧ j < n := by
  unfold ixN
  by_cases h0 : 0 ≤ i
  · rw [if_pos h0, if_pos h.2]
    exact ⟨_, rfl, by omega⟩
  · rw [if_neg h0, if_pos h.1]
    exact ⟨_, rfl, by omega⟩
theorem a2_get {R : V → α → Prop} : ∀ {vs : List V} {xs : List α} {j : Nat}, A2 R vs xs → j < xs.length → ∃ v x, vs[j]? = some v ∧ xs[j]? = some x ∧ R v x
  | _, _, _, .nil, e => by simp at e
  | v :: _, x :: _, 0, .cons r _, _ => ⟨v, x, rfl, rfl, r⟩
  | _ :: vs, _ :: xs, j + 1, .cons _ h, e => by
    obtain ⟨v, x, h1, h2, h3⟩ := a2_get (j := j) h (by simpa using e)
    exact ⟨v, x, by simpa using h1, by simpa using h2, h3⟩
theorem a2_at {R : V → α → Prop} {vs : List V} {xs : List α} {i : Int} (r : A2 R vs xs) (h : Inb xs i) : ∃ v x, atI vs i = some v ∧ atI xs i = some x ∧ R v x := by
  obtain ⟨j, e, hj⟩ := ixN_of h
  obtain ⟨v, x, h1, h2, h3⟩ := a2_get r hj
  refine ⟨v, x, ?_, ?_, h3⟩
  · unfold atI
    rw [r.length, e]
    exact h1
  · unfold atI
    rw [e]
    exact h2
theorem ix_of {α : Type} [Inhabited α] {xs : List α} {i : Int} {x : α} (h : atI xs i = some x) : ix xs i = x := by unfold ix; rw [h]; rfl
theorem ev_ixL [Inhabited α] {xs : List α} {i : Int} (ha : Ev F O l ta (yL t) xs O1) (hb : Ev F O1 l tb yI i O2) (hi : Inb xs i) : Ev F O l (tOp (rIxL K) ta tb) t (ix xs i) O2 :=
  ev_op ha hb fun H x y hx e1 e2 Q q => by
    obtain ⟨p, vs, e, hp, hl, r⟩ := e1
    obtain ⟨v, z, h1, h2, h3⟩ := a2_at r hi
    exact ⟨p, vs, i, v, e, e2, SqL.of (bar_some.mp hp).2, h1, q v H (same_refl _) (by rw [ix_of h2]; exact h3)⟩
theorem ev_ixT [Inhabited α] {xs : List α} {i : Int} (ha : Ev F O l ta (yT t) xs O1) (hb : Ev F O1 l tb yI i O2) (hi : Inb xs i) : Ev F O l (tOp (rIxT K) ta tb) t (ix xs i) O2 :=
  ev_op ha hb fun H x y hx e1 e2 Q q => by
    obtain ⟨p, vs, e, hp, hl, r⟩ := e1
    obtain ⟨v, z, h1, h2, h3⟩ := a2_at r hi
    exact ⟨p, vs, i, v, e, e2, SqT.of (bar_some.mp hp).2, h1, q v H (same_refl _) (by rw [ix_of h2]; exact h3)⟩
theorem ev_fst {x : α × β} (ha : Ev F O l ta (yP t u) x O1) : Ev F O l (tOp (rIxT K) ta (tC (.int 0))) t x.1 O1 :=
  ev_op ha ev_int fun H z y hx e1 e2 Q q => by
    obtain ⟨p, v1, v2, e, hp, r1, r2⟩ := e1
    exact ⟨p, _, 0, v1, e, e2, SqT.of (bar_some.mp hp).2, rfl, q v1 H (same_refl _) r1⟩
theorem ev_snd {x : α × β} (ha : Ev F O l ta (yP t u) x O1) : Ev F O l (tOp (rIxT K) ta (tC (.int 1))) u x.2 O1 :=
  ev_op ha ev_int fun H z y hx e1 e2 Q q => by
    obtain ⟨p, v1, v2, e, hp, r1, r2⟩ := e1
    exact ⟨p, _, 1, v2, e, e2, SqT.of (bar_some.mp hp).2, rfl, q v2 H (same_refl _) r2⟩
/-- an owned list -/
theorem own_at {H : Hp} {k : Nat} {p : Addr} {ce : Cell} (h : Hx F O H) (e : O[k]? = some (p, ce)) : ∃ o, H p = some o ∧ ce.ok (br F O H) o := h.own _ (List.mem_of_getElem? e)
theorem ev_ixO [Inhabited α] {xs : List α} {i : Int} {p : Addr} (k : Nat) (ha : Ev F O l ta (yV (.ref p)) () O1) (hb : Ev F O1 l tb yI i O2) (hi : Inb xs i) (hk : O2[k]? = some (p, cL t xs) := by rfl) : Ev F O l (tOp (rIxL K) ta tb) t (ix xs i) O2 :=
  ev_op ha hb fun H x y hx e1 e2 Q q => by
    obtain ⟨o, hp, vs, e, hl, r⟩ := own_at hx hk
    obtain ⟨v, z, h1, h2, h3⟩ := a2_at r hi
    subst e
    exact ⟨p, vs, i, v, e1, e2, SqL.of hp, h1, q v H (same_refl _) (by rw [ix_of h2]; exact h3)⟩

/-! ### built-ins -/
def rLenS (K : PySem.W.Frag) : List V → Hp → VK → Prop := fun xs H Q => ∃ p ys, xs = [.ref p] ∧ (SqL K H p ys ∨ SqT K H p ys) ∧ Q (.int ys.length) H
theorem ev_cb1 {r : List V → Hp → VK → Prop} (ha : Ev F O l ta t a O1)
    (hr : ∀ H x, Hx F O1 H → t.rp (br F O1 H) x a → ∀ Q : VK, (∀ v H', Same H H' → w.rp (br F O1 H') v c → Q v H') → r [x] H Q) : Ev F O l (tCB r (tCons ta tNil)) w c O1 := fun σ H k Q q =>
  ha σ H k _ fun x H1 s1 k1 r1 => hr H1 x k1.hx r1 Q fun v H3 s3 r3 => q v H3 (s1.grow s3) (k1.grow s3) r3
theorem ev_lenL {xs : List α} (ha : Ev F O l ta (yL t) xs O1) : Ev F O l (tCB (rLenS K) (tCons ta tNil)) yI (xs.length : Int) O1 := ev_cb1 ha fun H x hx e1 Q q => by
  obtain ⟨p, vs, e, hp, hl, r⟩ := e1
  exact ⟨p, vs, by rw [e], .inl (SqL.of (bar_some.mp hp).2), q _ H (same_refl _) (by rw [r.length]; rfl)⟩
theorem ev_lenT {xs : List α} (ha : Ev F O l ta (yT t) xs O1) : Ev F O l (tCB (rLenS K) (tCons ta tNil)) yI (xs.length : Int) O1 := ev_cb1 ha fun H x hx e1 Q q => by
  obtain ⟨p, vs, e, hp, hl, r⟩ := e1
  exact ⟨p, vs, by rw [e], .inr (SqT.of (bar_some.mp hp).2), q _ H (same_refl _) (by rw [r.length]; rfl)⟩
theorem ev_lenP {x : α × β} (ha : Ev F O l ta (yP t u) x O1) : Ev F O l (tCB (rLenS K) (tCons ta tNil)) yI 2 O1 := ev_cb1 ha fun H z hx e1 Q q => by
  obtain ⟨p, v1, v2, e, hp, r1, r2⟩ := e1
  exact ⟨p, _, by rw [e], .inr (SqT.of (bar_some.mp hp).2), q _ H (same_refl _) rfl⟩
theorem ev_lenO {xs : List α} {p : Addr} (k : Nat) (ha : Ev F O l ta (yV (.ref p)) () O1) (hk : O1[k]? = some (p, cL t xs) := by rfl) : Ev F O l (tCB (rLenS K) (tCons ta tNil)) yI (xs.length : Int) O1 := ev_cb1 ha fun H x hx e1 Q q => by
  obtain ⟨o, hp, vs, e, hl, r⟩ := own_at hx hk
  subst e
  exact ⟨p, vs, by rw [show x = .ref p from e1], .inl (SqL.of hp), q _ H (same_refl _) (by rw [r.length]; rfl)⟩
theorem a2_ints {B : Hp} : ∀ {vs : List V} {xs : List Int}, A2 (yI.rp B) vs xs → vs = xs.map V.int
  | _, _, .nil => rfl
  | _, _, .cons r h => by rw [show _ = _ from r, a2_ints h]; rfl
theorem ev_sum {xs : List Int} (ha : Ev F O l ta (yL yI) xs O1) : Ev F O l (tCB (rSum K) (tCons ta tNil)) yI xs.sum O1 := ev_cb1 ha fun H x hx e1 Q q => by
  obtain ⟨p, vs, e, hp, hl, r⟩ := e1
  have e2 := a2_ints r
  subst e2
  exact ⟨p, xs, by rw [e], SqL.of (bar_some.mp hp).2, q _ H (same_refl _) rfl⟩
def rAbs : List V → Hp → VK → Prop := fun xs H Q => ∃ i, xs = [.int i] ∧ Q (.int (if i < 0 then -i else i)) H
theorem ev_abs {i : Int} (ha : Ev F O l ta yI i O1) : Ev F O l (tCB rAbs (tCons ta tNil)) yI (i.natAbs : Int) O1 := ev_cb1 ha fun H x hx e1 Q q => by
  refine ⟨i, by rw [show x = _ from e1], q _ H (same_refl _) ?_⟩
  show V.int _ = V.int _
  congr 1
  split <;> omega
def rInt : List V → Hp → VK → Prop := fun xs H Q => (∃ i, xs = [.int i] ∧ Q (.int i) H) ∨ ∃ k, xs = [.bl k] ∧ Q (.int (if k then 1 else 0)) H
theorem ev_intI {i : Int} (ha : Ev F O l ta yI i O1) : Ev F O l (tCB rInt (tCons ta tNil)) yI i O1 := ev_cb1 ha fun H x hx e1 Q q => .inl ⟨i, by rw [show x = _ from e1], q _ H (same_refl _) rfl⟩

/-! ### list + list, list * int, slices, list(..), tuple(..) -/
theorem a2_app {α : Type} {R : V → α → Prop} : ∀ {vs : List V} {xs : List α} {vs2 : List V} {xs2 : List α}, A2 R vs xs → A2 R vs2 xs2 → A2 R (vs ++ vs2) (xs ++ xs2)
  | _, _, _, _, .nil, h => h
  | _, _, _, _, .cons r h, h2 => .cons r (a2_app h h2)
theorem evl_cat {xs ys : List α} (ha : Ev F O l ta (yL t) xs O1) (hb : Ev F O1 l tb (yL t) ys O2) (hn : xs.length + ys.length ≤ sizeLine) : EvL F O l (tOp rCat ta tb) t (xs ++ ys) O2 := fun σ H k Q q =>
  ha σ H k _ fun x H1 s1 k1 r1 => hb σ H1 k1 _ fun y H2 s2 k2 r2 => by
    obtain ⟨p, vs, e, hp, hl, r⟩ := (yL t).mono s2.same r1
    obtain ⟨p', vs', e', hp', hl', r'⟩ := r2
    have hn' : vs.length + vs'.length ≤ sizeLine := by rw [r.length, r'.length]; exact hn
    exact ⟨p, p', vs, vs', e, e', (bar_some.mp hp).2, (bar_some.mp hp').2, hn', fun z hz => q z _ H2 (s1.trans s2) k2 hz (k2.hx.fresh0 hz) (by rw [List.length_append]; exact hn') (a2_app r r')⟩
theorem a2_rep {α : Type} {R : V → α → Prop} {v : V} {x : α} (r : R v x) : ∀ n : Nat, A2 R (List.replicate n v) (List.replicate n x)
  | 0 => .nil
  | n + 1 => .cons r (a2_rep r n)
/-- [e] * n -/
theorem rep_one {α : Type} (x : α) : ∀ n : Nat, (List.replicate n [x]).flatten = List.replicate n x
  | 0 => rfl
  | n + 1 => by
    rw [List.replicate_succ, List.flatten_cons, rep_one x n]
    rfl
theorem evl_rep1 {x : α} {n : Int} (ha : EvL F O l ta t [x] O1) (hb : Ev F O1 l tb yI n O2) (hn : n ≤ sizeLine) (hn0 : -(2 ^ 62) ≤ n) : EvL F O l (tOp rRep ta tb) t (List.replicate n.toNat x) O2 := fun σ H k Q q =>
  ha σ H k _ fun p vs H1 s1 k1 np n0 hl r => by
    have k1' := k1.grow (Same.new (o := .lst vs) np)
    refine hb σ _ k1' _ fun y H2 s2 k2 r2 => ?_
    cases r with
    | cons r r' =>
      cases r'
      rename_i v
      have hp : (br F O1 (upd H1 p (.lst [v]))) p = some (.lst [v]) := bar_some.mpr ⟨k1.hx.fresh np, upd_same⟩
      have hp2 := (bar_some.mp (s2.same _ _ hp)).2
      have big : (sizeLine : Int) < 2 ^ 62 := by decide
      have h1 : (1 : Nat) * n.toNat ≤ sizeLine := by omega
      refine ⟨p, n, [v], rfl, r2, hp2, by omega, by omega, h1, fun z hz => ?_⟩
      have e : (List.replicate n.toNat [v]).flatten = List.replicate n.toNat v := rep_one v _
      rw [e]
      exact q z _ H2 ((s1.grow (Same.new np)).trans s2) k2 hz (k2.hx.fresh0 hz) (by rw [List.length_replicate]; omega) (a2_rep (t.mono (same_trans (bar_same (Same.new np)) s2.same) r) _)

/-! ### calls of defs -/
def AOk (B : Hp) (vs : List V) (sls : List Sl) : Prop := A2 (fun v s => SlOk B (some v) s) vs sls
/-- a def that changes nothing that is there: the value f a -/
def spF {A β : Type} (args : A → List Sl) (pre : A → Prop) (u : Ty β) (f : A → β) : Sp := fun vs H Q _ =>
  ∃ (M : List Addr) (a : A), (∀ m ∈ M, H m ≠ none) ∧ AOk (bar H M) vs (args a) ∧ pre a ∧ ∀ v H', Same H H' → u.rp (bar H' M) v (f a) → Q v H'
theorem Hx.adom {H : Hp} (h : Hx F O H) : ∀ m ∈ ad F O, H m ≠ none := fun m hm z => h.fresh z hm
theorem ev_call {A : Type} {args : A → List Sl} {pre : A → Prop} {f : A → β} {tr : TA} {sls : List Sl} {E : XK} (a : A) (h : EvA F O l tr sls O') (e : sls = args a) (hp : pre a) : Ev F O l (tCall (spF args pre u f) [] E tr) u (f a) O' := fun σ H k Q q =>
  h σ H k _ fun vs H1 s1 k1 r1 => by
    subst e
    rw [List.append_nil]
    exact ⟨ad F O', a, k1.hx.adom, r1, hp, fun v H' s r => q v H' (s1.grow s) (k1.grow s) r⟩
/-- a def that changes one object that it is handed -/
def spP {A β S : Type} (args : Addr → A → List Sl) (c : A → Cell) (cc : S → Cell) (pre : A → Prop) (u : Ty β) (m : A → β × S) : Sp := fun vs H Q _ =>
  ∃ (M : List Addr) (p : Addr) (a : A) (o : HO), p ∉ M ∧ (∀ m ∈ M, H m ≠ none) ∧ H p = some o ∧ (c a).ok (bar H (p :: M)) o ∧ AOk (bar H (p :: M)) vs (args p a) ∧ pre a ∧
    ∀ v H' o', Frm [p] H H' → H' p = some o' → (cc (m a).2).ok (bar H' (p :: M)) o' → u.rp (bar H' (p :: M)) v (m a).1 → Q v H'
theorem bar_congr {H : Hp} {S T : List Addr} (h : ∀ a, a ∈ S ↔ a ∈ T) : bar H S = bar H T := by
  funext a
  unfold bar
  by_cases z : a ∈ S
  · rw [if_pos z, if_pos ((h a).mp z)]
  · rw [if_neg z, if_neg (fun y => z ((h a).mpr y))]
theorem map_set_fst {p : Addr} {c c' : Cell} : ∀ {O : Own} {k : Nat}, O[k]? = some (p, c) → (O.set k (p, c')).map (·.1) = O.map (·.1)
  | [], _, e => by simp at e
  | (q, d) :: O, 0, e => by
    have e2 : (q, d) = (p, c) := Option.some.inj e
    cases e2
    rfl
  | q :: O, k + 1, e => by
    show _ :: _ = _ :: _
    rw [map_set_fst (O := O) (k := k) (by simpa using e)]
theorem ad_set {k : Nat} {p : Addr} {c c' : Cell} (e : O[k]? = some (p, c)) : ad F (O.set k (p, c')) = ad F O := by
  unfold ad
  rw [map_set_fst e]
theorem nd_ix {γ : Type} {N : List γ} (hN : N.Nodup) {i j : Nat} {x : γ} (a : N[i]? = some x) (b : N[j]? = some x) : i = j := by
  obtain ⟨hi, ei⟩ := List.getElem?_eq_some_iff.mp a
  obtain ⟨hj, ej⟩ := List.getElem?_eq_some_iff.mp b
  exact (List.getElem_inj hN).mp (ei.trans ej.symm)
/-- the owned cell at p has been changed -/
theorem Hx.chg {H H' : Hp} {k : Nat} {p : Addr} {c c' : Cell} {o' : HO} (h : Hx F O H) (e : O[k]? = some (p, c)) (f : Frm [p] H H') (hp : H' p = some o') (ok : c'.ok (br F O H') o') :
    Hx F (O.set k (p, c')) H' ∧ Mv O (O.set k (p, c')) H H' := by
  have hm := List.mem_of_getElem? e
  have ea : ad F (O.set k (p, c')) = ad F O := ad_set e
  have hpad : p ∈ ad F O := List.mem_append_left _ (List.mem_map_of_mem hm)
  have sm : Same (br F O H) (br F O H') := fun b ob hb => by
    obtain ⟨h1, h2⟩ := bar_some.mp hb
    exact bar_some.mpr ⟨h1, f b ob h2 (fun z => h1 (by rw [List.mem_singleton.mp z]; exact hpad))⟩
  refine ⟨⟨fun q hq => ?_, by rw [map_set_fst e]; exact h.nd, fun q hq => ?_, fun q hq => ?_, fun b hb z => ?_, fun b ob hb hw => ?_⟩, ⟨fun b hb => by rw [map_set_fst e] at hb; exact hb, fun b ob hb hn => f b ob hb fun z => hn (by rw [List.mem_singleton.mp z]; exact List.mem_map_of_mem hm)⟩⟩
  · show ∃ o, H' q.1 = some o ∧ q.2.ok (bar H' (ad F (O.set k (p, c')))) o
    rw [ea]
    obtain ⟨j, hj⟩ := List.getElem?_of_mem hq
    rw [List.getElem?_set] at hj
    by_cases hjk : k = j
    · rw [if_pos hjk] at hj
      split at hj
      · cases hj
        exact ⟨o', hp, ok⟩
      · cases hj
    · rw [if_neg hjk] at hj
      obtain ⟨o, h1, h2⟩ := h.own q (List.mem_of_getElem? hj)
      have hne : q.1 ≠ p := fun z => by
        have nd := h.nd
        have e1 : (O.map (·.1))[j]? = some p := by rw [List.getElem?_map, hj]; show some q.1 = _; rw [z]
        have e2 : (O.map (·.1))[k]? = some p := by rw [List.getElem?_map, e]; rfl
        exact hjk (nd_ix nd e2 e1)
      exact ⟨o, f _ _ h1 (fun z => hne (List.mem_singleton.mp z)), q.2.mono sm h2⟩
  · have : q.1 ∈ (O.set k (p, c')).map (·.1) := List.mem_map_of_mem hq
    rw [map_set_fst e] at this
    obtain ⟨q', hq', e'⟩ := List.mem_map.mp this
    rw [← e']
    exact h.ndM q' hq'
  · have : q.1 ∈ (O.set k (p, c')).map (·.1) := List.mem_map_of_mem hq
    rw [map_set_fst e] at this
    obtain ⟨q', hq', e'⟩ := List.mem_map.mp this
    rw [← e']
    exact h.acc q' hq'
  · by_cases hbp : b = p
    · rw [hbp, hp] at z
      cases z
    · cases e0 : H b with
      | none => exact h.dom b hb e0
      | some ob =>
        rw [f b ob e0 (fun y => hbp (List.mem_singleton.mp y))] at z
        cases z
  · refine f b ob (h.keep b ob hb hw) fun z => ?_
    rw [List.mem_singleton.mp z] at hb hw
    rcases h.acc _ hm with y | y
    · exact hw y
    · rw [show F.H0 p = none from y] at hb
      cases hb
end
end TL
namespace TL
open PySem L2

section
variable {F : Fx} {O O1 O2 O3 O' : Own} {l l' : Lc} {α β γ ρ S : Type} {K : PySem.W.Frag}
  {ta tb tc te : TE} {t : Ty α} {u : Ty β} {w : Ty γ} {a : α} {b : β} {c : γ} {D : Ends} {P : ρ → Prop} {r : ρ}

/-! ### a call that changes an owned object -/
theorem Hx.ndX {H : Hp} {k : Nat} {p : Addr} {ce : Cell} (h : Hx F O H) (e : O[k]? = some (p, ce)) : p ∉ (O.eraseIdx k).map (·.1) ++ F.M := fun z => by
  rcases List.mem_append.mp z with z | z
  · obtain ⟨q, hq, e1⟩ := List.mem_map.mp z
    obtain ⟨j, hj⟩ := List.getElem?_of_mem hq
    rw [List.getElem?_eraseIdx] at hj
    have e2 : (O.map (·.1))[k]? = some p := by rw [List.getElem?_map, e]; rfl
    split at hj
    · rename_i hjk
      have e3 : (O.map (·.1))[j]? = some p := by rw [List.getElem?_map, hj]; show some q.1 = _; rw [e1]
      have := nd_ix h.nd e2 e3
      omega
    · rename_i hjk
      have e3 : (O.map (·.1))[j + 1]? = some p := by rw [List.getElem?_map, hj]; show some q.1 = _; rw [e1]
      have := nd_ix h.nd e2 e3
      omega
  · exact h.ndM _ (List.mem_of_getElem? e) z
theorem mem_erase {k : Nat} {p : Addr} {ce : Cell} (e : O[k]? = some (p, ce)) (b : Addr) : b ∈ p :: ((O.eraseIdx k).map (·.1) ++ F.M) ↔ b ∈ ad F O := by
  unfold ad
  constructor
  · intro h
    rcases List.mem_cons.mp h with h | h
    · rw [h]
      exact List.mem_append_left _ (List.mem_map_of_mem (List.mem_of_getElem? e))
    · rcases List.mem_append.mp h with h | h
      · obtain ⟨q, hq, e1⟩ := List.mem_map.mp h
        exact List.mem_append_left _ (e1 ▸ List.mem_map_of_mem (List.mem_of_mem_eraseIdx hq))
      · exact List.mem_append_right _ h
  · intro h
    rcases List.mem_append.mp h with h | h
    · obtain ⟨q, hq, e1⟩ := List.mem_map.mp h
      obtain ⟨j, hj⟩ := List.getElem?_of_mem hq
      by_cases hjk : j = k
      · rw [hjk, e] at hj
        have e2 : (p, ce) = q := Option.some.inj hj
        rw [← e1, ← e2]
        exact List.mem_cons_self
      · refine List.mem_cons_of_mem _ (List.mem_append_left _ (List.mem_map.mpr ⟨q, ?_, e1⟩))
        refine List.mem_of_getElem? (i := if j < k then j else j - 1) ?_
        rw [List.getElem?_eraseIdx]
        by_cases hlt : j < k
        · rw [if_pos hlt, if_pos hlt]
          exact hj
        · rw [if_neg hlt, if_neg (by omega), show j - 1 + 1 = j by omega]
          exact hj
    · exact List.mem_cons_of_mem _ (List.mem_append_right _ h)
theorem Ok.chg {H H' : Hp} {σ : St} {k : Nat} {p : Addr} {ce ce' : Cell} {o' : HO} (h : Ok F O l σ H) (e : O[k]? = some (p, ce)) (f : Frm [p] H H') (hp : H' p = some o') (ok : ce'.ok (br F O H') o') :
    Ok F (O.set k (p, ce')) l σ H' ∧ Mv O (O.set k (p, ce')) H H' := by
  obtain ⟨h1, h2⟩ := h.hx.chg e f hp ok
  obtain ⟨ws, hw⟩ := h.gh
  exact ⟨⟨h.sl.imp fun _ _ z => z.mono h2.same, ⟨ws, hw.imp fun _ _ z => z.mono h2.same⟩, h1⟩, h2⟩
theorem ev_callP {A : Type} {args : Addr → A → List Sl} {ca : A → Cell} {cc : S → Cell} {pre : A → Prop} {m : A → β × S} {tr : TA} {sls : List Sl} {E : XK} {p : Addr} {ce : Cell} (k : Nat) (a : A) {y : β × S} (hy : y = m a) (h : EvA F O l tr sls O1) (hk : O1[k]? = some (p, ce)) (hc : ce = ca a) (e : sls = args p a) (hp : pre a) :
    Ev F O l (tCall (spP args ca cc pre u m) [] E tr) u y.1 (O1.set k (p, cc y.2)) := fun σ H kk Q q =>
  h σ H kk _ fun vs H1 s1 k1 r1 => by
    subst e hc hy
    rw [List.append_nil]
    have eb : ∀ H : Hp, bar H (p :: ((O1.eraseIdx k).map (·.1) ++ F.M)) = br F O1 H := fun H => bar_congr (mem_erase hk)
    obtain ⟨o, ho, hok⟩ := own_at k1.hx hk
    refine ⟨(O1.eraseIdx k).map (·.1) ++ F.M, p, a, o, k1.hx.ndX hk, fun b hm => ?_, ho, by rw [eb]; exact hok, by rw [eb]; exact r1, hp, fun v H' o' fr ho' hok' hv => ?_⟩
    · exact k1.hx.adom b ((mem_erase hk b).mp (List.mem_cons_of_mem _ hm))
    · rw [eb] at hok' hv
      obtain ⟨k2, s2⟩ := k1.chg hk fr ho' hok'
      have ea : br F (O1.set k (p, cc (m a).2)) H' = br F O1 H' := by unfold br; rw [ad_set hk]
      exact q v H' (s1.trans s2) k2 (by rw [ea]; exact hv)

/-! ### slots forgotten -/
theorem wipe_set {σ : St} {i : Nat} {o : Option V} : ∀ {vs : List Nat}, i ∈ vs → L2.wipe (σ.set i o) vs = L2.wipe σ vs
  | [], h => by cases h
  | v :: vs, h => by
    show (L2.wipe (σ.set i o) vs).set v none = (L2.wipe σ vs).set v none
    by_cases hv : i ∈ vs
    · rw [wipe_set hv]
    · rcases List.mem_cons.mp h with e | e
      · rw [← e]
        have comm : ∀ {vs : List Nat}, i ∉ vs → L2.wipe (σ.set i o) vs = (L2.wipe σ vs).set i o := fun {vs} => by
          induction vs with
          | nil => intro _; rfl
          | cons v vs ih =>
            intro h
            show (L2.wipe (σ.set i o) vs).set v none = ((L2.wipe σ vs).set v none).set i o
            rw [ih (fun z => h (List.mem_cons_of_mem _ z))]
            exact List.set_comm _ _ (fun z => h (by rw [z]; exact List.mem_cons_self))
        rw [comm hv, List.set_set]
      · exact absurd e hv
theorem wipe_wipe {σ : St} : ∀ {vs : List Nat} (ws : List Nat), (∀ v ∈ ws, v ∈ vs) → L2.wipe (L2.wipe σ ws) vs = L2.wipe σ vs
  | vs, [], _ => rfl
  | vs, w :: ws, h => by
    show L2.wipe ((L2.wipe σ ws).set w none) vs = _
    rw [wipe_set (h w List.mem_cons_self), wipe_wipe ws fun v hv => h v (List.mem_cons_of_mem _ hv)]
/-! ### statements -/
/-- where P holds of r, the block ts may begin -/
def Bd (F : Fx) (O : Own) (l : Lc) (ts : TS) (D : Ends) {ρ : Type} (P : ρ → Prop) (r : ρ) : Prop := P r → ∀ σ H, Ok F O l σ H → ts D σ H
/-- returning a is what is wanted -/
def Rt (F : Fx) (O : Own) (t : Ty α) (a : α) (rt : VK) : Prop := ∀ l σ v H', Ok F O l σ H' → t.rp (br F O H') v a → rt v H'
/-- going on with these slots is what is wanted -/
def Nx (F : Fx) (O : Own) (l : Lc) (nx : St → Hp → Prop) : Prop := ∀ σ H, Ok F O l σ H → nx σ H
theorem b_eq {ts : TS} {r' : ρ} (e : r = r') (h : Bd F O l ts D P r') : Bd F O l ts D P r := e ▸ h
theorem b_seq {t1 t2 : TS} (h : Bd F O l t1 { D with nx := t2 D } P r) : Bd F O l (tSeq t1 t2) D P r := h
theorem b_next (h : P r → Nx F O l D.nx) : Bd F O l tNext D P r := fun p => h p
theorem b_cont (h : P r → Nx F O l D.ct) : Bd F O l tCont D P r := fun p => h p
theorem b_brk (h : P r → Nx F O l D.bk) : Bd F O l tBreak D P r := fun p => h p
theorem b_go {ts : TS} (h : Bd F O l ts D P r) : P r → Nx F O l (ts D) := h
theorem b_ret (he : Ev F O l te t a O1) (h : P r → Rt F O1 t a D.rt) : Bd F O l (tRet te) D P r := fun p σ H k => he σ H k _ fun v H1 s k1 r1 => h p l σ v H1 k1 r1
theorem b_retN (h : P r → Rt F O yN () D.rt) : Bd F O l tRetN D P r := fun p σ H k => h p l σ .non H k rfl
theorem b_if {tt : TT} {t1 t2 : TS} {p : Prop} [Decidable p] {r1 r2 : ρ} (ht : Tt F O l tt p O1) (h1 : p → Bd F O1 l t1 D P r1) (h2 : ¬ p → Bd F O1 l t2 D P r2) : Bd F O l (tIfS tt t1 t2) D P (if p then r1 else r2) := fun hr σ H k =>
  ht σ H k _ fun b H1 i s k1 => by
    cases b with
    | true =>
      have hp := i.mp rfl
      rw [if_pos hp] at hr
      exact h1 hp hr σ H1 k1
    | false =>
      have hp : ¬ p := fun y => by cases i.mpr y
      rw [if_neg hp] at hr
      exact h2 hp hr σ H1 k1
/-- a known answer -/
theorem b_ifT {tt : TT} {t1 t2 : TS} {p : Prop} (ht : Tt F O l tt p O1) (hp : p) (h1 : Bd F O1 l t1 D P r) : Bd F O l (tIfS tt t1 t2) D P r := fun hr σ H k =>
  ht σ H k _ fun b H1 i s k1 => by
    have e : b = true := i.mpr hp
    subst e
    exact h1 hr σ H1 k1
theorem b_ifF {tt : TT} {t1 t2 : TS} {p : Prop} (ht : Tt F O l tt p O1) (hp : ¬ p) (h1 : Bd F O1 l t2 D P r) : Bd F O l (tIfS tt t1 t2) D P r := fun hr σ H k =>
  ht σ H k _ fun b H1 i s k1 => by
    cases b with
    | true => exact absurd (i.mp rfl) hp
    | false => exact h1 hr σ H1 k1
/-- what a target does; is: its slots -/
def Tg (g : TG) (t : Ty α) (up : α → Lc → Lc) (is : List Nat) : Prop := ∀ (F : Fx) (O : Own) (l : Lc) (σ : St) (H : Hp) (v : V) (a : α), Ok F O l σ H → t.rp (br F O H) v a →
  ∀ Q : St → Hp → Prop, (∀ σ', (∀ vs, (∀ i ∈ is, i ∈ vs) → L2.wipe σ' vs = L2.wipe σ vs) → Ok F O (up a l) σ' H → Q σ' H) → g v σ H Q
theorem Ok.set {σ : St} {H : Hp} {v : V} (i : Nat) (k : Ok F O l σ H) (h : t.rp (br F O H) v a) : Ok F O (l.set i (.val t a)) (σ.set i (some v)) H := ⟨paired_set (show SlOk (br F O H) (some v) (.val t a) from ⟨v, rfl, h⟩) i k.sl, k.gh, k.hx⟩
theorem tg_name (i : Nat) : Tg (gName i) t (fun a l => l.set i (.val t a)) [i] := fun F O l σ H v a k h Q q => q _ (fun vs hv => wipe_set (hv i List.mem_cons_self)) (k.set i h)
theorem tg_pair {g1 g2 : TG} {up1 : α → Lc → Lc} {up2 : β → Lc → Lc} {i1 i2 : List Nat} (h1 : Tg g1 t up1 i1) (h2 : Tg g2 u up2 i2) : Tg (gTup K 2 (gCons g1 (gCons g2 gNil))) (yP t u) (fun x l => up2 x.2 (up1 x.1 l)) (i1 ++ i2) := fun F O l σ H v a k h Q q => by
  obtain ⟨p, x, y, e, hp, r1, r2⟩ := h
  exact ⟨p, [x, y], e, SqT.of (bar_some.mp hp).2, rfl, x, [y], rfl, h1 F O l σ H x a.1 k r1 _ fun σ1 w1 k1 => ⟨y, [], rfl, h2 F O _ σ1 H y a.2 k1 r2 _ fun σ2 w2 k2 => ⟨rfl, q σ2 (fun vs hv => (w2 vs fun i hi => hv i (List.mem_append_right _ hi)).trans (w1 vs fun i hi => hv i (List.mem_append_left _ hi))) k2⟩⟩⟩
theorem b_asg {g : TG} {up : α → Lc → Lc} {is : List Nat} {ts : TS} (he : Ev F O l te t a O1) (hg : Tg g t up is) (h : Bd F O1 (up a l) ts D P r) : Bd F O l (tSeq (tAsg te g) ts) D P r := fun hr σ H k =>
  he σ H k _ fun v H1 s k1 r1 => hg F O1 l σ H1 v a k1 r1 _ fun σ' _ k2 => h hr σ' H1 k2
theorem b_set {ts : TS} {i : Nat} (he : Ev F O l te t a O1) (h : Bd F O1 (l.set i (.val t a)) ts D P r) : Bd F O l (tSeq (tAsg te (gName i)) ts) D P r := b_asg he (tg_name i) h
theorem b_drop {ts : TS} (he : Ev F O l te t a O1) (h : Bd F O1 l ts D P r) : Bd F O l (tSeq (tDrop te) ts) D P r := fun hr σ H k =>
  he σ H k _ fun v H1 s k1 r1 => h hr σ H1 k1
theorem b_par {ts : TS} {i j : Nat} {tr : TA} (he : EvA F O l tr [.val t a, .val u b] O1) (h : Bd F O1 ((l.set i (.val t a)).set j (.val u b)) ts D P r) : Bd F O l (tSeq (tPar i j tr) ts) D P r := fun hr σ H k =>
  he σ H k _ fun vs H1 s k1 r1 => by
    cases r1 with
    | cons r1 r2 =>
      cases r2 with
      | cons r2 r3 =>
        cases r3
        exact ⟨_, _, rfl, h hr _ H1 ((k1.set i (slv r1)).set j (slv r2))⟩
/-- a new list of one's own -/
theorem Hx.own1 {H : Hp} {p : Addr} {ce : Cell} {o : HO} (h : Hx F O H) (np : H p = none) (n0 : F.H0 p = none) (ok : ce.ok (br F O H) o) : Hx F (O ++ [(p, ce)]) (upd H p o) ∧ Same (br F O H) (br F (O ++ [(p, ce)]) (upd H p o)) := by
  have nf := h.fresh np
  have ha : ∀ b, b ∈ ad F (O ++ [(p, ce)]) ↔ b = p ∨ b ∈ ad F O := fun b => by
    unfold ad
    rw [List.map_append, List.append_assoc]
    constructor
    · intro z
      rcases List.mem_append.mp z with z | z
      · exact .inr (List.mem_append_left _ z)
      · rcases List.mem_cons.mp z with z | z
        · exact .inl z
        · exact .inr (List.mem_append_right _ z)
    · rintro (z | z)
      · rw [z]
        exact List.mem_append_right _ List.mem_cons_self
      · rcases List.mem_append.mp z with z | z
        · exact List.mem_append_left _ z
        · exact List.mem_append_right _ (List.mem_cons_of_mem _ z)
  have sm : Same (br F O H) (br F (O ++ [(p, ce)]) (upd H p o)) := fun b ob hb => by
    obtain ⟨h1, h2⟩ := bar_some.mp hb
    have hne : b ≠ p := ne_of_none h2 np
    exact bar_some.mpr ⟨fun z => ((ha b).mp z).elim hne h1, by rw [upd_ne hne]; exact h2⟩
  refine ⟨⟨fun q hq => ?_, ?_, fun q hq => ?_, fun q hq => ?_, fun b hb z => ?_, fun b ob hb hw => Same.new np _ _ (h.keep b ob hb hw)⟩, sm⟩
  · rcases List.mem_append.mp hq with hq | hq
    · obtain ⟨o2, e2, k2⟩ := h.own q hq
      exact ⟨o2, Same.new np _ _ e2, q.2.mono sm k2⟩
    · rw [List.mem_singleton.mp hq]
      exact ⟨o, upd_same, ce.mono sm ok⟩
  · rw [List.map_append]
    refine List.nodup_append.mpr ⟨h.nd, List.nodup_cons.mpr ⟨List.not_mem_nil, List.nodup_nil⟩, fun x hx y hy e => ?_⟩
    rw [List.mem_singleton.mp hy] at e
    rw [e] at hx
    exact nf (List.mem_append_left _ hx)
  · rcases List.mem_append.mp hq with hq | hq
    · exact h.ndM q hq
    · rw [List.mem_singleton.mp hq]
      exact fun z => nf (List.mem_append_right _ z)
  · rcases List.mem_append.mp hq with hq | hq
    · exact h.acc q hq
    · rw [List.mem_singleton.mp hq]
      exact .inr n0
  · cases e0 : H b with
    | none => exact h.dom b hb e0
    | some ob =>
      rw [Same.new np _ _ e0] at z
      cases z
theorem b_own {ts : TS} {i : Nat} {xs : List α} (he : EvL F O l te t xs O1) (h : ∀ p : Addr, Bd F (O1 ++ [(p, cL t xs)]) (l.set i (.val (yV (.ref p)) ())) ts D P r) : Bd F O l (tSeq (tAsg te (gName i)) ts) D P r := fun hr σ H k =>
  he σ H k _ fun p vs H1 s k1 np n0 hl r1 => by
    obtain ⟨h2, s2⟩ := k1.hx.own1 (ce := cL t xs) (o := .lst vs) np n0 ⟨vs, rfl, hl, r1⟩
    obtain ⟨ws, hw⟩ := k1.gh
    have k2 : Ok F (O1 ++ [(p, cL t xs)]) l σ (upd H1 p (.lst vs)) := ⟨k1.sl.imp fun _ _ z => z.mono s2, ⟨ws, hw.imp fun _ _ z => z.mono s2⟩, h2⟩
    exact h p hr _ _ (k2.set (t := yV (.ref p)) (a := ()) i rfl)

/-! ### no longer one's own -/
theorem Hx.frz {H : Hp} {k : Nat} {p : Addr} {ce : Cell} (h : Hx F O H) (e : O[k]? = some (p, ce)) : Hx F (O.eraseIdx k) H ∧ Same (br F O H) (br F (O.eraseIdx k) H) ∧ p ∉ ad F (O.eraseIdx k) := by
  have sub : ∀ b ∈ ad F (O.eraseIdx k), b ∈ ad F O := fun b hb => (mem_erase e b).mp (List.mem_cons_of_mem _ hb)
  have sm : Same (br F O H) (br F (O.eraseIdx k) H) := bar_mono sub
  have m1 : ∀ q ∈ O.eraseIdx k, q ∈ O := fun q hq => List.mem_of_mem_eraseIdx hq
  refine ⟨⟨fun q hq => ?_, ?_, fun q hq => h.ndM q (m1 q hq), fun q hq => h.acc q (m1 q hq), h.dom, h.keep⟩, sm, h.ndX e⟩
  · obtain ⟨o, e1, k1⟩ := h.own q (m1 q hq)
    exact ⟨o, e1, q.2.mono sm k1⟩
  · exact h.nd.sublist ((List.eraseIdx_sublist O k).map _)
theorem Ok.frz {H : Hp} {σ : St} {k : Nat} {p : Addr} {ce : Cell} (h : Ok F O l σ H) (e : O[k]? = some (p, ce)) : Ok F (O.eraseIdx k) l σ H ∧ Same (br F O H) (br F (O.eraseIdx k) H) := by
  obtain ⟨h1, h2, _⟩ := h.hx.frz e
  obtain ⟨ws, hw⟩ := h.gh
  exact ⟨⟨h.sl.imp fun _ _ z => z.mono h2, ⟨ws, hw.imp fun _ _ z => z.mono h2⟩, h1⟩, h2⟩
/-- an owned list as a value: from now on it stays -/
theorem ev_frz {xs : List α} {p : Addr} (k : Nat) (he : Ev F O l te (yV (.ref p)) () O1) (hk : O1[k]? = some (p, cL t xs) := by rfl) : Ev F O l te (yL t) xs (O1.eraseIdx k) := fun σ H kk Q q =>
  he σ H kk _ fun v H1 s1 k1 r1 => by
    obtain ⟨k2, s2⟩ := k1.frz hk
    obtain ⟨o, ho, vs, e, hl, rr⟩ := own_at k1.hx hk
    subst e
    exact q v H1 (s1.trans ⟨fun b hb => let ⟨q, h1, h2⟩ := List.mem_map.mp hb; h2 ▸ List.mem_map_of_mem (List.mem_of_mem_eraseIdx h1), Frm.refl⟩) k2 ⟨p, vs, r1, bar_some.mpr ⟨(k1.hx.frz hk).2.2, ho⟩, hl, rr.imp fun _ _ z => t.mono s2 z⟩
/-- the i-th slot holds an owned list: from now on it stays -/
theorem b_frz {ts : TS} {xs : List α} {p : Addr} (i k : Nat) (hi : l.s[i]? = some (.val (yV (.ref p)) ()) := by rfl) (hk : O[k]? = some (p, cL t xs) := by rfl) (h : Bd F (O.eraseIdx k) (l.set i (.val (yL t) xs)) ts D P r) : Bd F O l ts D P r := fun hr σ H kk => by
  obtain ⟨k2, s2⟩ := kk.frz hk
  obtain ⟨o, ho, vs, e, hl, rr⟩ := own_at kk.hx hk
  subst e
  obtain ⟨o, e1, v, e2, rv⟩ := slot_of (σ := []) (i := 0) kk.sl hi
  have k3 := k2.set (t := yL t) (a := xs) (v := .ref p) i ⟨p, vs, rfl, bar_some.mpr ⟨(kk.hx.frz hk).2.2, ho⟩, hl, rr.imp fun _ _ z => t.mono s2 z⟩
  have e3 : σ.set i (some (.ref p)) = σ := by
    have rv' : v = .ref p := rv
    subst e2 rv'
    obtain ⟨hlt, e4⟩ := List.getElem?_eq_some_iff.mp e1
    rw [← e4]
    exact List.set_getElem_self hlt
  rw [e3] at k3
  exact h hr σ H k3
/-- forget an owned object -/
theorem b_forget {ts : TS} {p : Addr} {ce : Cell} (k : Nat) (hk : O[k]? = some (p, ce) := by rfl) (h : Bd F (O.eraseIdx k) l ts D P r) : Bd F O l ts D P r := fun hr σ H kk => h hr σ H (kk.frz hk).1
end
end TL
namespace TL
open PySem L2

/-! ### mirrors of loops -/
inductive Stp (S ρ : Type) where
  | go (s : S)
  | ret (r : ρ)
def Stp.out {S ρ : Type} (o : Stp S ρ) (k : S → ρ) : ρ := match o with
  | .go s => k s
  | .ret r => r
def Stp.bnd {S T ρ : Type} (o : Stp S ρ) (k : S → Stp T ρ) : Stp T ρ := match o with
  | .go s => k s
  | .ret r => .ret r
def forL {S ρ α : Type} (f : S → α → Stp S ρ) : List α → S → Stp S ρ
  | [], s => .go s
  | x :: xs, s => (f s x).bnd (forL f xs)
/-- n: more than the turns -/
def whileL {S ρ : Type} (c : S → Prop) [DecidablePred c] (f : S → Stp S ρ) : Nat → S → Stp S ρ
  | 0, s => .go s
  | n + 1, s => if c s then (f s).bnd (whileL c f n) else .go s
def mapS {S α β : Type} (f : S → α → β × S) : List α → S → List β × S
  | [], s => ([], s)
  | x :: xs, s => let y := f s x; let r := mapS f xs y.2; (y.1 :: r.1, r.2)

section
variable {F : Fx} {O O1 O2 O3 O' : Own} {l l' : Lc} {α β γ ρ S : Type} {K : PySem.W.Frag}
  {ta tb tc te : TE} {t : Ty α} {u : Ty β} {w : Ty γ} {a : α} {b : β} {c : γ} {D : Ends} {P : ρ → Prop} {r : ρ}

/-! ### less is known -/
def Sw (a b : Sl) : Prop := b = a ∨ b = .any
structure Wk (l l' : Lc) : Prop where
  s : A2 Sw l.s l'.s
  g : l'.g = l.g
theorem sw_ok {B : Hp} {o : Option V} {a b : Sl} (h : Sw a b) (k : SlOk B o a) : SlOk B o b := by
  rcases h with h | h
  · rw [h]; exact k
  · rw [h]; trivial
theorem wk_ok {B : Hp} : ∀ {σ : St} {s s' : List Sl}, A2 Sw s s' → A2 (SlOk B) σ s → A2 (SlOk B) σ s'
  | _, _, _, .nil, .nil => .nil
  | _, _, _, .cons h t, .cons k r => .cons (sw_ok h k) (wk_ok t r)
theorem Ok.wk {σ : St} {H : Hp} (h : Wk l l') (k : Ok F O l σ H) : Ok F O l' σ H := ⟨wk_ok h.s k.sl, by rw [h.g]; exact k.gh, k.hx⟩
theorem Nx.wk {nx : St → Hp → Prop} (h : Wk l l') (n : Nx F O l' nx) : Nx F O l nx := fun σ H k => n σ H (k.wk h)
theorem b_wk {ts : TS} (h : Wk l l') (n : Bd F O l' ts D P r) : Bd F O l ts D P r := fun p σ H k => n p σ H (k.wk h)
theorem Sw.refl (s : Sl) : Sw s s := .inl rfl
theorem Sw.any (s : Sl) : Sw s .any := .inr rfl
theorem a2_refl {R : Sl → Sl → Prop} (h : ∀ s, R s s) : ∀ l : List Sl, A2 R l l
  | [] => .nil
  | x :: l => .cons (h x) (a2_refl h l)
theorem Wk.refl (l : Lc) : Wk l l := ⟨a2_refl Sw.refl _, rfl⟩
theorem a2_appS {R : Option V → Sl → Prop} : ∀ {vs : List (Option V)} {xs : List Sl} {vs2 : List (Option V)} {xs2 : List Sl}, A2 R vs xs → A2 R vs2 xs2 → A2 R (vs ++ vs2) (xs ++ xs2)
  | _, _, _, _, .nil, h => h
  | _, _, _, _, .cons r h, h2 => .cons r (a2_appS h h2)
theorem a2_drop {R : Option V → Sl → Prop} : ∀ {gs : List Sl} {ws : List (Option V)} {g : List Sl}, A2 R ws (gs ++ g) → (∃ w1, A2 R w1 gs) ∧ ∃ w2, A2 R w2 g
  | [], ws, g, h => ⟨⟨[], .nil⟩, ⟨ws, h⟩⟩
  | x :: gs, _, g, .cons r h => let ⟨⟨w1, h1⟩, h2⟩ := a2_drop h; ⟨⟨_ :: w1, .cons r h1⟩, h2⟩
theorem Ok.push {σ : St} {H : Hp} {gs : List Sl} {ws : List (Option V)} (k : Ok F O l σ H) (h : A2 (SlOk (br F O H)) ws gs) : Ok F O (l.push gs) σ H :=
  let ⟨w2, h2⟩ := k.gh
  ⟨k.sl, ⟨ws ++ w2, a2_appS h h2⟩, k.hx⟩
theorem Ok.pop {σ : St} {H : Hp} {gs : List Sl} (k : Ok F O (l.push gs) σ H) : Ok F O l σ H :=
  let ⟨_, h⟩ := k.gh
  ⟨k.sl, (a2_drop h).2, k.hx⟩
theorem Ok.top {σ : St} {H : Hp} {gs : List Sl} (k : Ok F O (l.push gs) σ H) : ∃ ws, A2 (SlOk (br F O H)) ws gs :=
  let ⟨_, h⟩ := k.gh
  (a2_drop h).1
theorem Rt.push {rt : VK} (h : Rt F O t a rt) : Rt F O t a rt := h

/-! ### what is walked -/
structure ItOk (J : It) (t : Ty α) (xs : List α) (gs : List Sl) : Prop where
  ex : ∃ (G : Hp → Prop) (Y : Nat → Hp → V → Hp → Prop), Walk J xs.length G Y ∧ (∀ B H, Same B H → (∃ ws, A2 (SlOk B) ws gs) → G H) ∧
    (∀ (F : Fx) (O : Own) i H x H', Hx F O H → (∃ ws, A2 (SlOk (br F O H)) ws gs) → i < xs.length → Y i H x H' → Same H H' ∧ ∃ a, xs[i]? = some a ∧ t.rp (br F O H') x a)
/-- wi walks xs -/
def Iv (F : Fx) (O : Own) (l : Lc) (wi : TI) (t : Ty α) (xs : List α) (O' : Own) : Prop :=
  ∀ σ H, Ok F O l σ H → ∀ R : It → Hp → Prop, (∀ J H1 gs, Mv O O' H H1 → Ok F O' (l.push gs) σ H1 → ItOk J t xs gs → R J H1) → wi σ H R
def yLA {α : Type} (a : Addr) (t : Ty α) : Ty (List α) :=
  ⟨fun H v xs => v = .ref a ∧ ∃ vs, H a = some (.lst vs) ∧ A2 (t.rp H) vs xs, fun s ⟨e, vs, h, p⟩ => ⟨e, vs, s _ _ h, p.imp fun _ _ z => t.mono s z⟩⟩
def yTA {α : Type} (a : Addr) (t : Ty α) : Ty (List α) :=
  ⟨fun H v xs => v = .ref a ∧ ∃ vs, H a = some (.tup vs) ∧ A2 (t.rp H) vs xs, fun s ⟨e, vs, h, p⟩ => ⟨e, vs, s _ _ h, p.imp fun _ _ z => t.mono s z⟩⟩
theorem a2_get2 {R : V → α → Prop} {vs : List V} {xs : List α} {j : Nat} {v : V} (h : A2 R vs xs) (e : vs[j]? = some v) : ∃ x, xs[j]? = some x ∧ R v x := by
  have hj : j < xs.length := by rw [← h.length]; exact (List.getElem?_eq_some_iff.mp e).1
  obtain ⟨v', x, h1, h2, h3⟩ := a2_get h hj
  rw [e] at h1
  cases h1
  exact ⟨x, h2, h3⟩
/-- two walks over a list, of the same places -/
theorem itOk_seq {J : It} {a : Addr} {xs : List α} {gs : List Sl} {Y : List V → Nat → Hp → V → Hp → Prop} (pl : Nat → Nat) (ys : List α) (hy : ∀ i, i < ys.length → ys[i]? = xs[pl i]?) (hn : ys.length = xs.length)
    (vsOf : Hp → List V → Prop) (hg : ∀ B, (∃ ws, A2 (SlOk B) ws gs) → ∃ vs, vsOf B vs ∧ A2 (t.rp B) vs xs) (up : ∀ B H vs, Same B H → vsOf B vs → vsOf H vs) (un : ∀ H vs vs', vsOf H vs → vsOf H vs' → vs = vs')
    (goes : ∀ i H vs, i < xs.length → vs.length = xs.length → vsOf H vs → J.go i H) (stops : ∀ H vs, vs.length = xs.length → vsOf H vs → J.stop xs.length H)
    (yields : ∀ i H x H' vs, i < xs.length → vs.length = xs.length → vsOf H vs → J.yld i H x H' → H' = H ∧ vs[pl i]? = some x) : ItOk J t ys gs := by
  refine ⟨fun H => ∃ vs, vsOf H vs ∧ vs.length = xs.length, fun i H x H' => H' = H ∧ ∀ vs, vsOf H vs → vs.length = xs.length → vs[pl i]? = some x, ⟨?_, ?_, ?_⟩, ?_, ?_⟩
  · rintro i H hi ⟨vs, h1, h2⟩
    exact goes i H vs (by rw [← hn]; exact hi) h2 h1
  · rintro H ⟨vs, h1, h2⟩
    rw [hn]
    exact stops H vs h2 h1
  · rintro i H x H' hi ⟨vs, h1, h2⟩ hy'
    have := yields i H x H' vs (by rw [← hn]; exact hi) h2 h1 hy'
    exact ⟨this.1, fun vs' h3 h4 => by rw [un H vs' vs h3 h1]; exact this.2⟩
  · intro B H s hB
    obtain ⟨vs, h1, h2⟩ := hg B hB
    exact ⟨vs, up B H vs s h1, h2.length⟩
  · rintro F O i H x H' hx hB hi ⟨rfl, h⟩
    obtain ⟨vs, h1, h2⟩ := hg _ hB
    have h3 := h vs (up _ _ vs bar_sub h1) h2.length
    obtain ⟨z, e1, e2⟩ := a2_get2 h2 h3
    exact ⟨same_refl _, z, by rw [hy i hi]; exact e1, e2⟩
theorem sql_inj {H : Hp} {a : Addr} {xs : List V} {vs : List V} (h : H a = some (.lst vs)) (q : SqL K H a xs) (nk : K.lookup a = none) : vs = xs := by
  rcases q with (q | ⟨o, q⟩) | ⟨_, _, _, q, _⟩
  · rw [h] at q
    cases q
    rfl
  · rw [h] at q
    cases q
  · rw [nk] at q
    cases q
theorem ghost_l {B : Hp} {a : Addr} {xs : List α} (h : ∃ ws, A2 (SlOk B) ws [.val (yLA a t) xs]) : ∃ vs, B a = some (.lst vs) ∧ A2 (t.rp B) vs xs := by
  obtain ⟨ws, h⟩ := h
  cases h with
  | cons r h =>
    obtain ⟨v, _, _, vs, h1, h2⟩ := r
    exact ⟨vs, h1, h2⟩
theorem ghost_t {B : Hp} {a : Addr} {xs : List α} (h : ∃ ws, A2 (SlOk B) ws [.val (yTA a t) xs]) : ∃ vs, B a = some (.tup vs) ∧ A2 (t.rp B) vs xs := by
  obtain ⟨ws, h⟩ := h
  cases h with
  | cons r h =>
    obtain ⟨v, _, _, vs, h1, h2⟩ := r
    exact ⟨vs, h1, h2⟩
theorem itOk_list {a : Addr} {xs : List α} : ItOk (Itl K a) t xs [.val (yLA a t) xs] := by
  refine itOk_seq (Y := fun _ _ _ _ _ => True) (a := a) (fun i => i) xs (fun _ _ => rfl) rfl (fun H vs => H a = some (.lst vs)) (fun B h => ghost_l h) (fun B H vs s h => s _ _ h) (fun H vs vs' h1 h2 => by rw [h1] at h2; cases h2; rfl) ?_ ?_ ?_
  · intro i H vs hi hl hv
    exact ⟨vs, vs[i]'(by omega), SqL.of hv, by simp [show i < vs.length by omega]⟩
  · intro H vs hl hv
    exact ⟨vs, SqL.of hv, by omega⟩
  · intro i H x H' vs hi hl hv hy
    exact ⟨hy.1, hy.2 vs (SqL.of hv)⟩
theorem itOk_tup {a : Addr} {xs : List α} : ItOk (Itt K a) t xs [.val (yTA a t) xs] := by
  refine itOk_seq (Y := fun _ _ _ _ _ => True) (a := a) (fun i => i) xs (fun _ _ => rfl) rfl (fun H vs => H a = some (.tup vs)) (fun B h => ghost_t h) (fun B H vs s h => s _ _ h) (fun H vs vs' h1 h2 => by rw [h1] at h2; cases h2; rfl) ?_ ?_ ?_
  · intro i H vs hi hl hv
    exact ⟨vs, vs[i]'(by omega), SqT.of hv, by simp [show i < vs.length by omega]⟩
  · intro H vs hl hv
    exact ⟨vs, SqT.of hv, by omega⟩
  · intro i H x H' vs hi hl hv hy
    exact ⟨hy.1, hy.2 vs (SqT.of hv)⟩
theorem itOk_rev {a : Addr} {xs : List α} : ItOk (Itv K a xs.length) t xs.reverse [.val (yLA a t) xs] := by
  refine itOk_seq (Y := fun _ _ _ _ _ => True) (a := a) (fun i => xs.length - 1 - i) xs.reverse (fun i hi => by rw [List.length_reverse] at hi; rw [List.getElem?_reverse (by omega)]) (by simp) (fun H vs => H a = some (.lst vs)) (fun B h => ghost_l h) (fun B H vs s h => s _ _ h) (fun H vs vs' h1 h2 => by rw [h1] at h2; cases h2; rfl) ?_ ?_ ?_
  · intro i H vs hi hl hv
    exact ⟨hi, vs, vs[xs.length - 1 - i]'(by omega), SqL.of hv, by simp [show xs.length - 1 - i < vs.length by omega]⟩
  · intro H vs hl hv
    exact Nat.le_refl _
  · intro i H x H' vs hi hl hv hy
    exact ⟨hy.1, hy.2 vs (SqL.of hv)⟩
theorem iv_list {xs : List α} (he : Ev F O l te (yL t) xs O1) : Iv F O l (iList K te) t xs O1 := fun σ H k R q =>
  he σ H k _ fun v H1 s1 k1 r1 => by
    obtain ⟨p, vs, e, h, hl, r⟩ := r1
    exact ⟨p, e, ⟨vs, SqL.of (bar_some.mp h).2⟩, q _ H1 _ s1 (k1.push (gs := [.val (yLA p t) xs]) (ws := [some v]) (.cons (show SlOk _ (some v) (.val (yLA p t) xs) from ⟨v, rfl, e, vs, h, r⟩) .nil)) itOk_list⟩
theorem iv_tup {xs : List α} (he : Ev F O l te (yT t) xs O1) : Iv F O l (iTup K te) t xs O1 := fun σ H k R q =>
  he σ H k _ fun v H1 s1 k1 r1 => by
    obtain ⟨p, vs, e, h, hl, r⟩ := r1
    exact ⟨p, e, ⟨vs, SqT.of (bar_some.mp h).2⟩, q _ H1 _ s1 (k1.push (gs := [.val (yTA p t) xs]) (ws := [some v]) (.cons (show SlOk _ (some v) (.val (yTA p t) xs) from ⟨v, rfl, e, vs, h, r⟩) .nil)) itOk_tup⟩
theorem iv_rev {xs : List α} (he : Ev F O l te (yL t) xs O1) : Iv F O l (iRev K (tCons te tNil)) t xs.reverse O1 := fun σ H k R q =>
  he σ H k _ fun v H1 s1 k1 r1 => by
    obtain ⟨p, vs, e, h, hl, r⟩ := r1
    have en : vs.length = xs.length := r.length
    exact ⟨p, vs, by rw [e], SqL.of (bar_some.mp h).2, by rw [en]; exact q _ H1 _ s1 (k1.push (gs := [.val (yLA p t) xs]) (ws := [some v]) (.cons (show SlOk _ (some v) (.val (yLA p t) xs) from ⟨v, rfl, e, vs, h, r⟩) .nil)) itOk_rev⟩
/-- lo, lo + 1, .. (n of them) -/
def rng (lo : Int) (n : Nat) : List Int := (List.range n).map fun i => lo + (i : Nat)
theorem rng_length (lo : Int) (n : Nat) : (rng lo n).length = n := by unfold rng; simp
theorem itOk_rng {lo : Int} {n : Nat} : ItOk (Itr lo n) yI (rng lo n) [] := by
  refine ⟨fun _ => True, fun i H x H' => H' = H ∧ x = .int (lo + i), ?_, fun _ _ _ _ => trivial, fun F O i H x H' hx hB hi hy => ?_⟩
  · rw [rng_length]
    exact ⟨fun _ _ hi _ => hi, fun _ _ => Nat.le_refl _, fun _ _ _ _ _ _ y => y⟩
  · obtain ⟨rfl, e⟩ := hy
    rw [rng_length] at hi
    exact ⟨same_refl _, lo + i, by unfold rng; simp [hi], e⟩
theorem iv_rng1 {n : Int} (he : Ev F O l te yI n O1) (h1 : -(2 ^ 62) ≤ n) (h2 : n < 2 ^ 62) : Iv F O l (iRng1 (tCons te tNil)) yI (rng 0 n.toNat) O1 := fun σ H k R q =>
  he σ H k _ fun v H1 s1 k1 r1 => ⟨n, by rw [show v = _ from r1], h1, h2, q _ H1 [] s1 (k1.push (ws := []) .nil) itOk_rng⟩
theorem iv_rng2 {m n : Int} (he : Ev F O l te yI m O1) (he2 : Ev F O1 l ta yI n O2) (h1 : -(2 ^ 62) ≤ m) (h2 : m < 2 ^ 62) (h3 : -(2 ^ 62) ≤ n) (h4 : n < 2 ^ 62) : Iv F O l (iRng2 (tCons te (tCons ta tNil))) yI (rng m (n - m).toNat) O2 := fun σ H k R q =>
  he σ H k _ fun v H1 s1 k1 r1 => he2 σ H1 k1 _ fun v2 H2 s2 k2 r2 => ⟨m, n, by rw [show v = _ from r1, show v2 = _ from r2], ⟨h1, h2, h3, h4⟩, q _ H2 [] (s1.trans s2) (k2.push (ws := []) .nil) itOk_rng⟩

/-! ### for -/
theorem b_for {g : TG} {wi : TI} {tb rest : TS} {up : α → Lc → Lc} {is : List Nat} {xs : List α} {k : S → ρ} (f : S → α → Stp S ρ) (Os : S → Own) (Ls : S → Lc) (J : List α → S → Prop) (s0 : S)
    (hI : Iv F O l wi t xs O1) (hg : Tg g t up is) (hO : Os s0 = O1) (hl : Wk l (Ls s0)) (hJ0 : J [] s0)
    (hJ : ∀ pre x post s s', xs = pre ++ x :: post → J pre s → f s x = .go s' → J (pre ++ [x]) s')
    (hb : ∀ gs pre x post s, xs = pre ++ x :: post → J pre s → ∀ (N B : St → Hp → Prop) (P' : Stp S ρ → Prop), (∀ s', P' (.go s') → Nx F (Os s') ((Ls s').push gs) N) → (∀ r, P' (.ret r) → P r) →
      Bd F (Os s) (up x ((Ls s).push gs)) tb { D with nx := N, ct := N, bk := B } P' (f s x))
    (hk : ∀ s, J xs s → Bd F (Os s) (Ls s) rest D P (k s)) :
    Bd F O l (tSeq (tFor wi g tb) rest) D P ((forL f xs s0).out k) := fun hr σ H kk =>
  hI σ H kk _ fun Jt H1 gs s1 k1 it => by
    obtain ⟨G, Y, w, hG, hY⟩ := it.ex
    subst hO
    refine for_it w (D := { D with nx := rest D }) (fun i σ H => ∃ s, P ((forL f (xs.drop i) s).out k) ∧ J (xs.take i) s ∧ Ok F (Os s) ((Ls s).push gs) σ H)
      ⟨s0, hr, hJ0, ⟨wk_ok hl.s k1.sl, by show ∃ ws, A2 _ ws (gs ++ (Ls s0).g); rw [hl.g]; exact k1.gh, k1.hx⟩⟩ (fun i σ H _ ⟨s, _, _, k2⟩ => hG _ _ bar_sub k2.top) ?_ ?_
    · rintro i x σ H H' hi ⟨s, hP, hJs, k2⟩ hy
      obtain ⟨sm, z, hz, rz⟩ := hY F (Os s) i H x H' k2.hx k2.top hi hy
      have k3 := k2.grow sm
      have e1 : xs.drop i = z :: xs.drop (i + 1) := by
        obtain ⟨h1, h2⟩ := List.getElem?_eq_some_iff.mp hz
        rw [← h2]
        exact List.drop_eq_getElem_cons h1
      have e2 : xs = xs.take i ++ z :: xs.drop (i + 1) := by rw [← e1, List.take_append_drop]
      have e3 : xs.take (i + 1) = xs.take i ++ [z] := by
        rw [List.take_add_one, hz]
        rfl
      rw [e1] at hP
      have step : forL f (z :: xs.drop (i + 1)) s = (f s z).bnd (forL f (xs.drop (i + 1))) := rfl
      rw [step] at hP
      refine hg F (Os s) _ σ H' x z k3 rz _ fun σ' _ k4 => ?_
      refine hb gs (xs.take i) z (xs.drop (i + 1)) s e2 hJs _ _ (fun o => f s z = o) (fun s' hs' σ2 H2 k5 => ?_) (fun r hr' => ?_) rfl σ' H' k4
      · rw [hs'] at hP
        exact ⟨s', hP, by rw [e3]; exact hJ _ _ _ _ _ e2 hJs hs', k5⟩
      · rw [hr'] at hP
        exact hP
    · rintro σ H ⟨s, hP, hJs, k2⟩
      rw [List.drop_length] at hP
      rw [List.take_length] at hJs
      exact hk s hJs hP σ H k2.pop

/-! ### while -/
theorem whileL_stop {c : S → Prop} [DecidablePred c] {f : S → Stp S ρ} {s : S} (h : ¬ c s) : ∀ n, whileL c f n s = .go s
  | 0 => rfl
  | n + 1 => by unfold whileL; rw [if_neg h]
theorem whileL_step {c : S → Prop} [DecidablePred c] {f : S → Stp S ρ} {s : S} (h : c s) (n : Nat) : whileL c f (n + 1) s = (f s).bnd (whileL c f n) := by
  show (if c s then (f s).bnd (whileL c f n) else .go s) = _
  rw [if_pos h]
theorem b_while {tc : TT} {tb rest : TS} {k : S → ρ} (cn : S → Prop) [DecidablePred cn] (f : S → Stp S ρ) (Os : S → Own) (Ls : S → Lc) (J : S → Prop) (μ : S → Nat) (s0 : S)
    (hO : Os s0 = O) (hl : Wk l (Ls s0)) (hJ0 : J s0) (hc : ∀ s, J s → Tt F (Os s) (Ls s) tc (cn s) (Os s))
    (hJ : ∀ s s', J s → cn s → f s = .go s' → J s' ∧ μ s' < μ s)
    (hb : ∀ s, J s → cn s → ∀ (N B : St → Hp → Prop) (P' : Stp S ρ → Prop), (∀ s', P' (.go s') → Nx F (Os s') (Ls s') N) → (∀ r, P' (.ret r) → P r) →
      Bd F (Os s) (Ls s) tb { D with nx := N, ct := N, bk := B } P' (f s))
    (hk : ∀ s, J s → ¬ cn s → Bd F (Os s) (Ls s) rest D P (k s)) :
    Bd F O l (tSeq (tWhile tc tb) rest) D P ((whileL cn f (μ s0 + 1) s0).out k) := fun hr σ H kk => by
  subst hO
  refine ⟨fun m σ H => ∃ s n, m = μ s ∧ μ s < n ∧ P ((whileL cn f n s).out k) ∧ J s ∧ Ok F (Os s) (Ls s) σ H, ⟨_, s0, _, rfl, Nat.lt_succ_self _, hr, hJ0, kk.wk hl⟩, ?_⟩
  rintro m σ H ⟨s, n, rfl, hn, hP, hJs, k1⟩
  refine hc s hJs σ H k1 _ fun b H1 i s1 k2 => ?_
  cases b with
  | true =>
    have hcs := i.mp rfl
    obtain ⟨n', rfl⟩ : ∃ n', n = n' + 1 := ⟨n - 1, by omega⟩
    rw [whileL_step hcs] at hP
    rw [if_pos rfl]
    refine ⟨fun σ' H' => ∃ s', (J s' ∧ μ s' < μ s) ∧ f s = .go s' ∧ Ok F (Os s') (Ls s') σ' H', fun σ' H' ⟨s', ⟨h1, h2⟩, h3, k3⟩ => ⟨μ s', h2, s', n', rfl, by omega, ?_, h1, k3⟩, ?_⟩
    · rw [h3] at hP
      exact hP
    · refine hb s hJs hcs _ _ (fun o => f s = o) (fun s' hs' σ2 H2 k5 => ⟨s', hJ s s' hJs hcs hs', hs', k5⟩) (fun r hr' => ?_) rfl σ H1 k2
      rw [hr'] at hP
      exact hP
  | false =>
    have hcs : ¬ cn s := fun y => by cases i.mpr y
    rw [whileL_stop hcs] at hP
    exact hk s hJs hcs hP σ H1 k2
end
end TL
namespace TL
open PySem L2

/-! ### comprehensions -/
def Lc.wipe (l : Lc) : List Nat → Lc
  | [] => l
  | v :: vs => (l.wipe vs).set v .any
theorem wipe_ok {B : Hp} : ∀ {σ : St} {l : Lc} (vs : List Nat), A2 (SlOk B) σ l.s → A2 (SlOk B) (L2.wipe σ vs) (l.wipe vs).s
  | _, _, [], h => h
  | σ, l, v :: vs, h => paired_set (show SlOk B none .any from trivial) v (wipe_ok vs h)
theorem wipe_g {l : Lc} : ∀ vs : List Nat, (l.wipe vs).g = l.g
  | [] => rfl
  | v :: vs => wipe_g vs
theorem Ok.wipe {F : Fx} {O : Own} {l : Lc} {σ : St} {H : Hp} (k : Ok F O l σ H) (vs : List Nat) : Ok F O (l.wipe vs) (L2.wipe σ vs) H := ⟨wipe_ok vs k.sl, by rw [wipe_g]; exact k.gh, k.hx⟩
/-- one more that is others' -/
def Fx.more (F : Fx) (D : Addr) : Fx := ⟨F.H0, F.W, D :: F.M⟩
section
variable {F : Fx} {O O1 O2 O3 O' : Own} {l l' : Lc} {α β γ ρ S : Type} {K : PySem.W.Frag}
  {ta tb tc te : TE} {t : Ty α} {u : Ty β} {w : Ty γ} {a : α} {b : β} {c : γ} {D : Ends} {P : ρ → Prop} {r : ρ}
theorem ad_more {D : Addr} (b : Addr) : b ∈ ad (F.more D) O ↔ b = D ∨ b ∈ ad F O := by
  unfold ad Fx.more
  constructor
  · intro z
    rcases List.mem_append.mp z with z | z
    · exact .inr (List.mem_append_left _ z)
    · rcases List.mem_cons.mp z with z | z
      · exact .inl z
      · exact .inr (List.mem_append_right _ z)
  · rintro (z | z)
    · exact List.mem_append_right _ (by rw [z]; exact List.mem_cons_self)
    · rcases List.mem_append.mp z with z | z
      · exact List.mem_append_left _ z
      · exact List.mem_append_right _ (List.mem_cons_of_mem _ z)
/-- without what stands at D -/
def cut (H : Hp) (D : Addr) : Hp := fun b => if b = D then none else H b
theorem br_cut {H : Hp} {D : Addr} : br F O (cut H D) = br (F.more D) O H := by
  funext b
  unfold br bar cut
  by_cases h1 : b ∈ ad F O
  · rw [if_pos h1, if_pos ((ad_more b).mpr (.inr h1))]
  · by_cases h2 : b = D
    · rw [if_neg h1, if_pos h2, if_pos ((ad_more b).mpr (.inl h2))]
    · rw [if_neg h1, if_neg h2, if_neg fun z => ((ad_more b).mp z).elim h2 h1]
theorem upd_cut {H : Hp} {D : Addr} {o : HO} (h : H D = some o) : upd (cut H D) D o = H := by
  funext b
  unfold upd cut
  by_cases h2 : b = D
  · rw [if_pos h2, h2, h]
  · rw [if_neg h2, if_neg h2]
/-- from the context with a list under construction, back -/
theorem Hx.cut {H : Hp} {D : Addr} (h : Hx (F.more D) O H) (nD : D ∉ F.M) (n0 : F.H0 D = none) (nW : D ∉ F.W) : Hx F O (cut H D) := by
  have ne : ∀ q ∈ O, q.1 ≠ D := fun q hq z => h.ndM q hq (by rw [z]; exact List.mem_cons_self)
  refine ⟨fun q hq => ?_, h.nd, fun q hq z => h.ndM q hq (List.mem_cons_of_mem _ z), h.acc, fun b hb z => ?_, fun b ob hb hw => ?_⟩
  · obtain ⟨o, e, k⟩ := h.own q hq
    exact ⟨o, by unfold TL.cut; rw [if_neg (ne q hq)]; exact e, by rw [br_cut]; exact k⟩
  · unfold TL.cut at z
    by_cases h2 : b = D
    · rcases hb with y | y
      · exact nW (h2 ▸ y)
      · exact nD (h2 ▸ y)
    · rw [if_neg h2] at z
      exact h.dom b (hb.imp id fun y => List.mem_cons_of_mem _ y) z
  · have := h.keep b ob hb hw
    unfold TL.cut
    rw [if_neg (fun z => by rw [z, n0] at hb; cases hb)]
    exact this
theorem Hx.add {H : Hp} {D : Addr} {o : HO} (h : Hx F O H) (np : H D = none) : Hx (F.more D) O (upd H D o) ∧ Same (br F O H) (br (F.more D) O (upd H D o)) := by
  have nf := h.fresh np
  have sm : Same (br F O H) (br (F.more D) O (upd H D o)) := fun b ob hb => by
    obtain ⟨h1, h2⟩ := bar_some.mp hb
    have hne : b ≠ D := ne_of_none h2 np
    exact bar_some.mpr ⟨fun z => ((ad_more b).mp z).elim hne h1, by rw [upd_ne hne]; exact h2⟩
  refine ⟨⟨fun q hq => ?_, h.nd, fun q hq z => ?_, h.acc, fun b hb z => ?_, fun b ob hb hw => Same.new np _ _ (h.keep b ob hb hw)⟩, sm⟩
  · obtain ⟨o2, e2, k2⟩ := h.own q hq
    exact ⟨o2, Same.new np _ _ e2, q.2.mono sm k2⟩
  · rcases List.mem_cons.mp z with y | y
    · exact nf (List.mem_append_left _ (y ▸ List.mem_map_of_mem hq))
    · exact h.ndM q hq y
  · by_cases h2 : b = D
    · rw [h2, upd_same] at z
      cases z
    · rw [upd_ne h2] at z
      rcases hb with y | y
      · exact h.dom b (.inl y) z
      · rcases List.mem_cons.mp y with y | y
        · exact h2 y
        · exact h.dom b (.inr y) z
theorem Hx.updM {H : Hp} {D : Addr} {o : HO} (h : Hx F O H) (hM : D ∈ F.M) (n0 : F.H0 D = none) : Hx F O (upd H D o) := by
  have hD : D ∈ ad F O := List.mem_append_right _ hM
  refine ⟨fun q hq => ?_, h.nd, h.ndM, h.acc, fun b hb z => ?_, fun b ob hb hw => ?_⟩
  · obtain ⟨o2, e2, k2⟩ := h.own q hq
    have hne : q.1 ≠ D := fun z => h.ndM q hq (by rw [z]; exact hM)
    exact ⟨o2, by rw [upd_ne hne]; exact e2, by unfold br; rw [bar_upd hD]; exact k2⟩
  · by_cases h2 : b = D
    · rw [h2, upd_same] at z
      cases z
    · rw [upd_ne h2] at z
      exact h.dom b hb z
  · rw [upd_ne (fun z => by rw [z, n0] at hb; cases hb)]
    exact h.keep b ob hb hw
theorem cut_ne {H : Hp} {D b : Addr} (h : b ≠ D) : cut H D b = H b := by unfold cut; rw [if_neg h]
theorem cut_same {H : Hp} {D : Addr} : cut H D D = none := by unfold cut; rw [if_pos rfl]
theorem cut_upd {H : Hp} {D : Addr} {o : HO} : cut (upd H D o) D = cut H D := by
  funext b
  by_cases h : b = D
  · rw [h, cut_same, cut_same]
  · rw [cut_ne h, cut_ne h, upd_ne h]
/-- the items of a comprehension, with a state -/
def lcS (p : S → α → Bool) (f : S → α → β × S) : List α → S → List β × S
  | [], s => ([], s)
  | x :: xs, s => if p s x = true then ((f s x).1 :: (lcS p f xs (f s x).2).1, (lcS p f xs (f s x).2).2) else lcS p f xs s
theorem a2_snoc {R : V → β → Prop} : ∀ {vs : List V} {xs : List β} {v : V} {x : β}, A2 R vs xs → R v x → A2 R (vs ++ [v]) (xs ++ [x])
  | _, _, _, _, .nil, r => .cons r .nil
  | _, _, _, _, .cons q h, r => .cons q (a2_snoc h r)
theorem lc_gen {g : TG} {wi : TI} {tt : TT} {up : α → Lc → Lc} {is vs : List Nat} {xs : List α} (p : S → α → Bool) (f : S → α → β × S) (Os : S → Own) (s0 : S) (J : List α → S → Prop)
    (hI : Iv F O l wi t xs O1) (hg : Tg g t up is) (hw : ∀ i ∈ is, i ∈ vs) (hO : Os s0 = O1) (hn : xs.length ≤ sizeLine) (hJ0 : J [] s0)
    (hJ : ∀ pre x post s, xs = pre ++ x :: post → J pre s → J (pre ++ [x]) (if p s x = true then (f s x).2 else s))
    (ht : ∀ D gs pre x post s, xs = pre ++ x :: post → J pre s → Tt (F.more D) (Os s) (up x ((l.push gs).wipe vs)) tt (p s x = true) (Os s))
    (he : ∀ D gs pre x post s, xs = pre ++ x :: post → J pre s → p s x = true → Ev (F.more D) (Os s) (up x ((l.push gs).wipe vs)) te u (f s x).1 (Os (f s x).2)) :
    EvL F O l (tLc wi g tt te vs) u (lcS p f xs s0).1 (Os (lcS p f xs s0).2) := fun σ H kk Q q =>
  hI σ H kk _ fun Jt H1 gs s1 k1 it => by
    obtain ⟨G, Y, w, hG, hY⟩ := it.ex
    subst hO
    intro D hD
    have nf := k1.hx.fresh hD
    have n0 := k1.hx.fresh0 hD
    have nM : D ∉ F.M := fun z => nf (List.mem_append_right _ z)
    have nW : D ∉ F.W := fun z => k1.hx.dom D (.inl z) hD
    have inM : D ∈ (F.more D).M := List.mem_cons_self
    have inA : ∀ O : Own, D ∈ ad (F.more D) O := fun O => List.mem_append_right _ inM
    have notO : ∀ {O : Own} {H : Hp}, Hx (F.more D) O H → D ∉ O.map (·.1) := fun h z => by
      obtain ⟨q, hq, e⟩ := List.mem_map.mp z
      exact h.ndM q hq (by rw [e]; exact inM)
    obtain ⟨hx2, sm2⟩ := k1.hx.add (o := .lst []) hD
    have start : Ok (F.more D) (Os s0) (l.push gs) σ (upd H1 D (.lst [])) := ⟨k1.sl.imp fun _ _ z => z.mono sm2, let ⟨ws, z⟩ := k1.gh; ⟨ws, z.imp fun _ _ y => y.mono sm2⟩, hx2⟩
    refine lc_it w (fun i H => ∃ (s : S) (vsD : List V) (done : List β), (done ++ (lcS p f (xs.drop i) s).1, (lcS p f (xs.drop i) s).2) = lcS p f xs s0 ∧ J (xs.take i) s ∧ Ok (F.more D) (Os s) (l.push gs) σ H ∧
        H D = some (.lst vsD) ∧ vsD.length ≤ i ∧ A2 (u.rp (br (F.more D) (Os s) H)) vsD done ∧ Mv (Os s0) (Os s) H1 (cut H D))
      ⟨s0, [], [], rfl, hJ0, start, upd_same, Nat.le_refl _, .nil, ⟨fun _ h => h, fun b ob hb _ => by rw [cut_upd, cut_ne (ne_of_none hb hD)]; exact hb⟩⟩ (fun i H _ ⟨s, _, _, _, _, k2, _⟩ => hG _ _ bar_sub k2.top) ?_ ?_
    · rintro i x H H' hi ⟨s, vsD, done, hP, hJs, k2, hDv, hlen, hA, hM⟩ hy
      obtain ⟨sm, z, hz, rz⟩ := hY (F.more D) (Os s) i H x H' k2.hx k2.top hi hy
      have k3 := k2.grow sm
      have e1 : xs.drop i = z :: xs.drop (i + 1) := by
        obtain ⟨h1, h2⟩ := List.getElem?_eq_some_iff.mp hz
        rw [← h2]
        exact List.drop_eq_getElem_cons h1
      have e2 : xs = xs.take i ++ z :: xs.drop (i + 1) := by rw [← e1, List.take_append_drop]
      have e3 : xs.take (i + 1) = xs.take i ++ [z] := by
        rw [List.take_add_one, hz]
        rfl
      have hJ1 := hJ _ _ _ _ e2 hJs
      rw [e1] at hP
      have step : lcS p f (z :: xs.drop (i + 1)) s = if p s z = true then ((f s z).1 :: (lcS p f (xs.drop (i + 1)) (f s z).2).1, (lcS p f (xs.drop (i + 1)) (f s z).2).2) else lcS p f (xs.drop (i + 1)) s := rfl
      rw [step] at hP
      refine hg (F.more D) (Os s) _ _ H' x z (k3.wipe vs) rz _ fun σ2 w2 k4 => ⟨(w2 vs hw).trans (wipe_wipe vs (fun _ h => h)), ?_⟩
      refine ht D gs _ z _ s e2 hJs σ2 H' k4 _ fun bb H3 ib s3 k5 => ?_
      have m3 : Mv (Os s) (Os s) H H3 := (Mv.refl.grow sm).trans s3
      have move : ∀ {s' : S} {H4 : Hp}, Mv (Os s) (Os s') H H4 → Mv (Os s0) (Os s') H1 (cut H4 D) := fun {s' H4} m => ⟨fun b hb => hM.sub b (m.sub b hb), fun b ob hb hn => by
        have h5 := hM.frm b ob hb hn
        have hne : b ≠ D := ne_of_none hb hD
        rw [cut_ne hne] at h5
        rw [cut_ne hne]
        exact m.frm b ob h5 fun y => hn (hM.sub b y)⟩
      have back : ∀ {s' : S} {H4 : Hp}, Mv (Os s) (Os s') H H4 → Hx (F.more D) (Os s') H4 → Ok (F.more D) (Os s') (l.push gs) σ H4 := fun {s' H4} m h => ⟨k2.sl.imp fun _ _ y => y.mono m.same, let ⟨ws, y⟩ := k2.gh; ⟨ws, y.imp fun _ _ y => y.mono m.same⟩, h⟩
      cases bb with
      | true =>
        have hp := ib.mp rfl
        rw [if_pos rfl]
        rw [if_pos hp] at hP hJ1
        refine he D gs _ z _ s e2 hJs hp σ2 H3 k5 _ fun y H4 s4 k6 r6 => ?_
        have m4 := m3.trans s4
        have hD4 : H4 D = some (.lst vsD) := m4.frm D _ hDv (notO k2.hx)
        have eb : br (F.more D) (Os (f s z).2) (upd H4 D (.lst (vsD ++ [y]))) = br (F.more D) (Os (f s z).2) H4 := bar_upd (inA _)
        have k7 := back m4 k6.hx
        refine ⟨vsD, hD4, by omega, (f s z).2, vsD ++ [y], done ++ [(f s z).1], ?_, by rw [e3]; exact hJ1, ⟨by rw [eb]; exact k7.sl, by rw [eb]; exact k7.gh, k7.hx.updM inM n0⟩, upd_same, by rw [List.length_append, List.length_singleton]; omega, ?_, ?_⟩
        · rw [← hP, List.append_assoc]
          rfl
        · rw [eb]
          exact a2_snoc (hA.imp fun _ _ h => u.mono m4.same h) r6
        · rw [cut_upd]
          exact move m4
      | false =>
        have hp : ¬ p s z = true := fun y => by cases ib.mpr y
        rw [if_neg Bool.false_ne_true]
        rw [if_neg hp] at hP hJ1
        exact ⟨s, vsD, done, hP, by rw [e3]; exact hJ1, back m3 k5.hx, m3.frm D _ hDv (notO k2.hx), by omega, hA.imp fun _ _ h => u.mono m3.same h, move m3⟩
    · rintro H ⟨s, vsD, done, hP, hJs, k2, hDv, hlen, hA, hM⟩
      rw [List.drop_length] at hP
      have e1 : done = (lcS p f xs s0).1 := by rw [← hP]; show done = done ++ []; rw [List.append_nil]
      have e2 : s = (lcS p f xs s0).2 := by rw [← hP]; rfl
      have k3 := k2.pop
      have hc := k2.hx.cut nM n0 nW
      have fin := q D vsD (cut H D)
      rw [upd_cut hDv] at fin
      rw [← e1, ← e2] at fin
      exact fin (s1.trans hM) ⟨by rw [br_cut]; exact k3.sl, by rw [br_cut]; exact k3.gh, hc⟩ cut_same n0 (by omega) (by rw [br_cut]; exact hA)
/-- no test, no state -/
theorem lcS_map (f : α → β) : ∀ xs : List α, lcS (S := Unit) (fun _ _ => true) (fun _ x => (f x, ())) xs () = (xs.map f, ())
  | [] => rfl
  | x :: xs => by
    show (if true = true then (f x :: (lcS (S := Unit) (fun _ _ => true) (fun _ x => (f x, ())) xs ()).1, (lcS (S := Unit) (fun _ _ => true) (fun _ x => (f x, ())) xs ()).2) else _) = _
    rw [if_pos rfl, lcS_map f xs]
    rfl
theorem tt_yes : Tt F O l tYes True O := fun σ H k Q q => q true H ⟨fun _ => trivial, fun _ => rfl⟩ .refl k
theorem lc_map {g : TG} {wi : TI} {up : α → Lc → Lc} {is vs : List Nat} {xs : List α} (f : α → β) (hI : Iv F O l wi t xs O1) (hg : Tg g t up is) (hw : ∀ i ∈ is, i ∈ vs) (hn : xs.length ≤ sizeLine)
    (he : ∀ D gs x, x ∈ xs → Ev (F.more D) O1 (up x ((l.push gs).wipe vs)) te u (f x) O1) : EvL F O l (tLc wi g tYes te vs) u (xs.map f) O1 := by
  have h := lc_gen (S := Unit) (te := te) (u := u) (tt := tYes) (fun _ _ => true) (fun _ x => (f x, ())) (fun _ => O1) () (fun _ _ => True) hI hg hw rfl hn trivial (fun _ _ _ _ _ _ => trivial)
    (fun D gs pre x post s e _ => tt_iff tt_yes (by simp)) (fun D gs pre x post s e _ _ => he D gs x (by rw [e]; simp))
  rw [lcS_map] at h
  exact h
theorem lcS_filter (p : α → Bool) (f : α → β) : ∀ xs : List α, lcS (S := Unit) (fun _ x => p x) (fun _ x => (f x, ())) xs () = ((xs.filter p).map f, ())
  | [] => rfl
  | x :: xs => by
    show (if p x = true then (f x :: (lcS (S := Unit) (fun _ x => p x) (fun _ x => (f x, ())) xs ()).1, (lcS (S := Unit) (fun _ x => p x) (fun _ x => (f x, ())) xs ()).2) else lcS (S := Unit) (fun _ x => p x) (fun _ x => (f x, ())) xs ()) = _
    rw [lcS_filter p f xs]
    by_cases h : p x = true
    · rw [if_pos h, List.filter_cons_of_pos h]
      rfl
    · rw [if_neg h, List.filter_cons_of_neg h]
theorem lc_filter {g : TG} {wi : TI} {tt : TT} {up : α → Lc → Lc} {is vs : List Nat} {xs : List α} (p : α → Bool) (f : α → β) (hI : Iv F O l wi t xs O1) (hg : Tg g t up is) (hw : ∀ i ∈ is, i ∈ vs) (hn : xs.length ≤ sizeLine)
    (ht : ∀ D gs x, x ∈ xs → Tt (F.more D) O1 (up x ((l.push gs).wipe vs)) tt (p x = true) O1)
    (he : ∀ D gs x, x ∈ xs → p x = true → Ev (F.more D) O1 (up x ((l.push gs).wipe vs)) te u (f x) O1) : EvL F O l (tLc wi g tt te vs) u ((xs.filter p).map f) O1 := by
  have h := lc_gen (S := Unit) (te := te) (u := u) (tt := tt) (fun _ x => p x) (fun _ x => (f x, ())) (fun _ => O1) () (fun _ _ => True) hI hg hw rfl hn trivial (fun _ _ _ _ _ _ => trivial)
    (fun D gs pre x post s e _ => ht D gs x (by rw [e]; simp)) (fun D gs pre x post s e _ hp => he D gs x (by rw [e]; simp) hp)
  rw [lcS_filter] at h
  exact h
theorem lcS_st (f : S → α → β × S) : ∀ (xs : List α) (s : S), lcS (fun _ _ => true) f xs s = mapS f xs s
  | [], s => rfl
  | x :: xs, s => by
    show (if true = true then ((f s x).1 :: (lcS (fun _ _ => true) f xs (f s x).2).1, (lcS (fun _ _ => true) f xs (f s x).2).2) else _) = _
    rw [if_pos rfl, lcS_st f xs]
    rfl
theorem lc_st {g : TG} {wi : TI} {up : α → Lc → Lc} {is vs : List Nat} {xs : List α} (f : S → α → β × S) (Os : S → Own) (s0 : S) (J : List α → S → Prop) (hI : Iv F O l wi t xs O1) (hg : Tg g t up is) (hw : ∀ i ∈ is, i ∈ vs) (hO : Os s0 = O1) (hn : xs.length ≤ sizeLine)
    (hJ0 : J [] s0) (hJ : ∀ pre x post s, xs = pre ++ x :: post → J pre s → J (pre ++ [x]) (f s x).2)
    (he : ∀ D gs pre x post s, xs = pre ++ x :: post → J pre s → Ev (F.more D) (Os s) (up x ((l.push gs).wipe vs)) te u (f s x).1 (Os (f s x).2)) : EvL F O l (tLc wi g tYes te vs) u (mapS f xs s0).1 (Os (mapS f xs s0).2) := by
  have h := lc_gen (te := te) (u := u) (tt := tYes) (fun _ _ => true) f Os s0 J hI hg hw hO hn hJ0 (fun pre x post s e j => by rw [if_pos rfl]; exact hJ pre x post s e j)
    (fun D gs pre x post s e _ => tt_iff tt_yes (by simp)) (fun D gs pre x post s e j _ => he D gs pre x post s e j)
  rw [lcS_st] at h
  exact h

/-! ### what an owned list is asked and told -/
theorem ev_bm0 {T : String} {rl : V → List V → Hp → VK → Prop} {xs xs' : List α} {p : Addr} (k : Nat) (he : Ev F O l te (yV (.ref p)) () O1) (hT : T = "list") (hk : O1[k]? = some (p, cL t xs) := by rfl)
    (hr : ∀ H vs, A2 (t.rp (br F O1 H)) vs xs → vs.length ≤ sizeLine → H p = some (.lst vs) → ∀ Q : VK, (∀ v vs', vs'.length ≤ sizeLine → A2 (t.rp (br F O1 H)) vs' xs' → u.rp (br F O1 H) v b → Q v (upd H p (.lst vs'))) → rl (.ref p) [] H Q) :
    Ev F O l (tBM0 K T rl te) u b (O1.set k (p, cL t xs')) := fun σ H kk Q q =>
  he σ H kk _ fun v H1 s1 k1 r1 => by
    obtain ⟨o, ho, vs, e, hl, rr⟩ := own_at k1.hx hk
    subst e hT
    have r1' : v = .ref p := r1
    subst r1'
    have hpad : p ∈ ad F O1 := List.mem_append_left _ (List.mem_map_of_mem (List.mem_of_getElem? hk))
    refine ⟨Or.inl ⟨rfl, _, SqL.of ho⟩, hr H1 vs rr hl ho Q fun v vs' hl' h2 h3 => ?_⟩
    have eb : br F O1 (upd H1 p (.lst vs')) = br F O1 H1 := bar_upd hpad
    obtain ⟨k2, s2⟩ := k1.chg (ce' := cL t xs') (o' := .lst vs') hk (H' := upd H1 p (.lst vs')) (fun b ob hb hn => by rw [upd_ne (fun z => hn (by rw [z]; exact List.mem_singleton_self _))]; exact hb) upd_same ⟨vs', rfl, hl', by rw [eb]; exact h2⟩
    refine q v _ (s1.trans s2) k2 ?_
    have ea : br F (O1.set k (p, cL t xs')) (upd H1 p (.lst vs')) = br F O1 (upd H1 p (.lst vs')) := by unfold br; rw [ad_set hk]
    rw [ea, eb]
    exact h3
theorem ev_bm1 {T : String} {rl : V → List V → Hp → VK → Prop} {xs xs' : List α} {p : Addr} (k : Nat) {tx : TE} {x : γ} (he : Ev F O l te (yV (.ref p)) () O1) (hx : Ev F O1 l tx w x O2) (hT : T = "list") (hk : O2[k]? = some (p, cL t xs) := by rfl) (hk1 : (O1[k]?).isSome = true := by rfl)
    (hr : ∀ H vs y, A2 (t.rp (br F O2 H)) vs xs → vs.length ≤ sizeLine → H p = some (.lst vs) → w.rp (br F O2 H) y x → ∀ Q : VK, (∀ v vs', vs'.length ≤ sizeLine → A2 (t.rp (br F O2 H)) vs' xs' → u.rp (br F O2 H) v b → Q v (upd H p (.lst vs'))) → rl (.ref p) [y] H Q)
    (hO : ∃ ce, O1[k]? = some (p, ce) ∧ ∀ B o, ce.ok B o → ∃ vs, o = .lst vs) :
    Ev F O l (tBM K T rl te (tCons tx tNil)) u b (O2.set k (p, cL t xs')) := fun σ H kk Q q =>
  he σ H kk _ fun v H1 s1 k1 r1 => by
    obtain ⟨ce, hk0, hce⟩ := hO
    obtain ⟨o, ho, hok⟩ := own_at k1.hx hk0
    obtain ⟨vs0, e0⟩ := hce _ _ hok
    subst hT e0
    have r1' : v = .ref p := r1
    subst r1'
    refine ⟨Or.inl ⟨rfl, _, SqL.of ho⟩, hx σ H1 k1 _ fun y H2 s2 k2 r2 => ?_⟩
    obtain ⟨o, ho, vs, e, hl, rr⟩ := own_at k2.hx hk
    subst e
    have hpad : p ∈ ad F O2 := List.mem_append_left _ (List.mem_map_of_mem (List.mem_of_getElem? hk))
    refine hr H2 vs y rr hl ho r2 Q fun v vs' hl' h2 h3 => ?_
    have eb : br F O2 (upd H2 p (.lst vs')) = br F O2 H2 := bar_upd hpad
    obtain ⟨k3, s3⟩ := k2.chg (ce' := cL t xs') (o' := .lst vs') hk (H' := upd H2 p (.lst vs')) (fun b ob hb hn => by rw [upd_ne (fun z => hn (by rw [z]; exact List.mem_singleton_self _))]; exact hb) upd_same ⟨vs', rfl, hl', by rw [eb]; exact h2⟩
    refine q v _ ((s1.trans s2).trans s3) k3 ?_
    have ea : br F (O2.set k (p, cL t xs')) (upd H2 p (.lst vs')) = br F O2 (upd H2 p (.lst vs')) := by unfold br; rw [ad_set hk]
    rw [ea, eb]
    exact h3
theorem cL_isL {xs : List α} : ∀ B o, (cL t xs).ok B o → ∃ vs, o = .lst vs := fun _ _ ⟨vs, e, _⟩ => ⟨vs, e⟩
/-- found.append(x) -/
theorem ev_append {xs : List α} {x : α} {p : Addr} (k : Nat) {tx : TE} (he : Ev F O l te (yV (.ref p)) () O1) (hx : Ev F O1 l tx t x O2) (hl : xs.length < sizeLine) (hk : O2[k]? = some (p, cL t xs) := by rfl)
    (hO : ∃ ce, O1[k]? = some (p, ce) ∧ ∀ B o, ce.ok B o → ∃ vs, o = .lst vs := by exact ⟨_, rfl, cL_isL⟩) : Ev F O l (tBM K "list" rAppend te (tCons tx tNil)) yN () (O2.set k (p, cL t (xs ++ [x]))) :=
  ev_bm1 (xs := xs) k he hx rfl hk (by obtain ⟨ce, h, _⟩ := hO; rw [h]; rfl) (fun H vs y h1 h2 h3 h4 Q q => ⟨p, vs, y, rfl, rfl, h3, by rw [h1.length]; exact hl, q .non (vs ++ [y]) (by rw [List.length_append, List.length_singleton, h1.length]; omega) (a2_snoc h1 h4) rfl⟩) hO
theorem a2_erase {R : V → α → Prop} : ∀ {vs : List V} {xs : List α} (i : Nat), A2 R vs xs → A2 R (vs.eraseIdx i) (xs.eraseIdx i)
  | _, _, _, .nil => .nil
  | _, _, 0, .cons _ h => h
  | _, _, i + 1, .cons r h => .cons r (a2_erase i h)
/-- pool.pop(0) -/
theorem ev_pop0 {xs : List α} {x : α} {p : Addr} (k : Nat) (he : Ev F O l te (yV (.ref p)) () O1) (hk : O1[k]? = some (p, cL t (x :: xs)) := by rfl) : Ev F O l (tBM K "list" rPopAt te (tCons (tC (.int 0)) tNil)) t x (O1.set k (p, cL t xs)) :=
  ev_bm1 (xs := x :: xs) k he ev_int rfl hk (by rw [hk]; rfl) (fun H vs y h1 h2 h3 h4 Q q => by
    cases h1 with
    | cons r h =>
      rename_i v vs
      refine ⟨p, v :: vs, 0, 0, v, rfl, by rw [show y = _ from h4], h3, by decide, by decide, (by unfold seqIndex?; simp <;> omega), rfl, ?_⟩
      exact q v vs (by have := h2; rw [List.length_cons] at this; omega) h r) ⟨_, hk, cL_isL⟩
/-- found.pop() -/
theorem a2_last {R : V → α → Prop} {x : α} : ∀ {vs : List V} {xs : List α}, A2 R vs (xs ++ [x]) → ∃ vs0 v, vs = vs0 ++ [v] ∧ A2 R vs0 xs ∧ R v x
  | _, [], .cons r .nil => ⟨[], _, rfl, .nil, r⟩
  | _, y :: xs, .cons r h => by
    obtain ⟨vs0, v, e, h1, h2⟩ := a2_last h
    exact ⟨_ :: vs0, v, by rw [e]; rfl, .cons r h1, h2⟩
theorem ev_pop {xs : List α} {x : α} {p : Addr} (k : Nat) (he : Ev F O l te (yV (.ref p)) () O1) (hk : O1[k]? = some (p, cL t (xs ++ [x]))) : Ev F O l (tBM0 K "list" rPop te) t x (O1.set k (p, cL t xs)) :=
  ev_bm0 (xs := xs ++ [x]) k he rfl hk fun H vs h1 h2 h3 Q q => by
    obtain ⟨vs0, v, e, h4, h5⟩ := a2_last h1
    subst e
    refine ⟨p, vs0 ++ [v], v, rfl, rfl, h3, by simp, ?_⟩
    rw [List.dropLast_concat]
    exact q v vs0 (by rw [List.length_append, List.length_singleton] at h2; omega) h4 h5
/-- found[i] = x -/
def setI {α : Type} (xs : List α) (i : Int) (x : α) : List α := match ixN xs.length i with
  | some j => xs.set j x
  | none => xs
theorem a2_set {R : V → α → Prop} {v : V} {x : α} (r : R v x) : ∀ {vs : List V} {xs : List α} (j : Nat), A2 R vs xs → A2 R (vs.set j v) (xs.set j x)
  | _, _, _, .nil => .nil
  | _, _, 0, .cons _ h => .cons r h
  | _, _, j + 1, .cons q h => .cons q (a2_set r j h)
theorem b_setI {ts : TS} {tv to ti : TE} {xs : List α} {x : α} {i : Int} {p : Addr} (k : Nat) (hv : Ev F O l tv t x O1) (ho : Ev F O1 l to (yV (.ref p)) () O2) (hi : Ev F O2 l ti yI i O3) (hb : Inb xs i) (hk : O3[k]? = some (p, cL t xs))
    (h : Bd F (O3.set k (p, cL t (setI xs i x))) l ts D P r) : Bd F O l (tSeq (tAsg tv (gSub to ti rSetL)) ts) D P r := fun hr σ H kk =>
  hv σ H kk _ fun v H1 s1 k1 r1 => ho σ H1 k1 _ fun o H2 s2 k2 r2 => hi σ H2 k2 _ fun iv H3 s3 k3 r3 => by
    obtain ⟨ob, hob, vs, e, hl, rr⟩ := own_at k3.hx hk
    subst e
    obtain ⟨j, hj, hlt⟩ := ixN_of hb
    have hj' : ixN vs.length i = some j := by rw [rr.length]; exact hj
    have hpad : p ∈ ad F O3 := List.mem_append_left _ (List.mem_map_of_mem (List.mem_of_getElem? hk))
    have eb : br F O3 (upd H3 p (.lst (vs.set j v))) = br F O3 H3 := bar_upd hpad
    refine ⟨p, vs, i, j, r2, r3, hob, hj', ?_⟩
    have es : setI xs i x = xs.set j x := by unfold setI; rw [hj]
    obtain ⟨k4, s4⟩ := k3.chg (ce' := cL t (setI xs i x)) (o' := .lst (vs.set j v)) hk (H' := upd H3 p (.lst (vs.set j v))) (fun b ob hb hn => by rw [upd_ne (fun z => hn (by rw [z]; exact List.mem_singleton_self _))]; exact hb) upd_same
      ⟨vs.set j v, rfl, by rw [List.length_set]; exact hl, by rw [eb, es]; exact a2_set (t.mono (s2.trans s3).same r1) j rr⟩
    exact h hr σ _ k4
end
end TL
namespace TL
open PySem L2

/-! ### from a body to a def -/
section
variable {α β γ ρ S A : Type} {K : PySem.W.Frag}
theorem start_ok {B : Hp} {N : List Str} : ∀ {vs : List V} {sls : List Sl}, AOk B vs sls → A2 (SlOk B) (L2.start N vs) (sls ++ List.replicate (N.length - sls.length) .any) := fun {vs sls} h => by
  unfold L2.start
  have hl : vs.length = sls.length := A2.length h
  rw [hl]
  refine a2_appS ?_ ?_
  · clear hl
    induction h with
    | nil => exact .nil
    | cons r _ ih => exact .cons r ih
  · generalize N.length - sls.length = n
    induction n with
    | zero => exact .nil
    | succ n ih => exact .cons trivial ih
/-- the slots ahead of the body -/
def slots (sls : List Sl) (n : Nat) : Lc := ⟨sls ++ List.replicate (n - sls.length) .any, []⟩
def ends (rt : VK) : Ends := { nx := fun _ H' => rt .non H', rt := rt }
theorem nx_end {F : Fx} {O : Own} {l : Lc} {rt : VK} (h : Rt F O yN () rt) : Nx F O l (ends rt).nx := fun σ H k => h l σ .non H k rfl
/-- every way out with this value -/
def Outs (F : Fx) (u : Ty β) (rt : VK) (b : β) : Prop := ∀ O, Rt F O u b rt
theorem run_F {args : A → List Sl} {pre : A → Prop} {u : Ty β} {f : A → β} {N : List Str} {tf : TS}
    (hb : ∀ F a rt, pre a → Bd F [] (slots (args a) N.length) tf (ends rt) (Outs F u rt) (f a)) : ∀ vs H Q E, spF args pre u f vs H Q E → tf (ends Q) (L2.start N vs) H := by
  rintro vs H Q E ⟨M, a, hM, hA, hp, hQ⟩
  refine hb ⟨H, [], M⟩ a Q hp (fun O l σ v H' k r => hQ v H' (fun b o h => k.hx.keep b o h List.not_mem_nil) (u.mono (bar_mono fun b hb => List.mem_append_right _ hb) r)) _ H ⟨?_, ⟨[], .nil⟩, ?_⟩
  · exact start_ok hA
  · exact ⟨fun q hq => (by cases hq), List.nodup_nil, fun q hq => (by cases hq), fun q hq => (by cases hq), fun b hb => hM b (hb.elim (fun z => by cases z) id), Frm.refl⟩
def OutsP (F : Fx) (p : Addr) (cc : S → Cell) (u : Ty β) (rt : VK) (r : β × S) : Prop := ∀ O, Rt F ((p, cc r.2) :: O) u r.1 rt
theorem run_P {args : Addr → A → List Sl} {c : A → Cell} {cc : S → Cell} {pre : A → Prop} {u : Ty β} {m : A → β × S} {N : List Str} {tf : TS}
    (hb : ∀ F p a rt, pre a → Bd F [(p, c a)] (slots (args p a) N.length) tf (ends rt) (OutsP F p cc u rt) (m a)) : ∀ vs H Q E, spP args c cc pre u m vs H Q E → tf (ends Q) (L2.start N vs) H := by
  rintro vs H Q E ⟨M, p, a, o, hpM, hM, hp0, hc, hA, hp, hQ⟩
  refine hb ⟨H, [p], M⟩ p a Q hp (fun O l σ v H' k r => ?_) _ H ⟨?_, ⟨[], .nil⟩, ?_⟩
  · obtain ⟨o', e, hok⟩ := k.hx.own _ List.mem_cons_self
    have sub : ∀ b ∈ p :: M, b ∈ ad ⟨H, [p], M⟩ ((p, cc (m a).2) :: O) := fun b hb => by
      rcases List.mem_cons.mp hb with z | z
      · rw [z]
        exact List.mem_append_left _ List.mem_cons_self
      · exact List.mem_append_right _ z
    exact hQ v H' o' k.hx.keep e (Cell.mono _ (bar_mono sub) hok) (u.mono (bar_mono sub) r)
  · exact start_ok hA
  · exact ⟨fun q hq => by rw [List.mem_singleton.mp hq]; exact ⟨o, hp0, hc⟩, List.nodup_cons.mpr ⟨List.not_mem_nil, List.nodup_nil⟩, fun q hq => by rw [List.mem_singleton.mp hq]; exact hpM, fun q hq => by rw [List.mem_singleton.mp hq]; exact .inl List.mem_cons_self,
      fun b hb z => hb.elim (fun y => by rw [List.mem_singleton.mp y, hp0] at z; cases z) (fun y => hM b y z), Frm.refl⟩

/-! ### defs that may raise one exception (none: raised) -/
def spO (args : A → List Sl) (pre : A → Prop) (u : Ty β) (cls : Value) (f : A → Option β) : Sp := fun vs H Q E =>
  ∃ (M : List Addr) (a : A), (∀ m ∈ M, H m ≠ none) ∧ AOk (bar H M) vs (args a) ∧ pre a ∧ (∀ b, f a = some b → ∀ v H', Same H H' → u.rp (bar H' M) v b → Q v H') ∧ (f a = none → ∀ H', Same H H' → E cls none H')
/-- raising is what is wanted -/
def Rx (F : Fx) (cls : Value) (E : XK) : Prop := ∀ O l σ H', Ok F O l σ H' → E cls none H'
def OutsO (F : Fx) (u : Ty β) (cls : Value) (rt : VK) (E : XK) (r : Option β) : Prop := (∀ b, r = some b → Outs F u rt b) ∧ (r = none → Rx F cls E)
theorem run_O {args : A → List Sl} {pre : A → Prop} {u : Ty β} {cls : Value} {f : A → Option β} {N : List Str} {tf : TS} {E : XK}
    (hb : ∀ F a rt, pre a → Bd F [] (slots (args a) N.length) tf (ends rt) (OutsO F u cls rt E) (f a)) : ∀ vs H Q, spO args pre u cls f vs H Q E → tf (ends Q) (L2.start N vs) H := by
  rintro vs H Q ⟨M, a, hM, hA, hp, hQ, hX⟩
  refine hb ⟨H, [], M⟩ a Q hp ⟨fun b e O l σ v H' k r => hQ b e v H' (fun b o h => k.hx.keep b o h List.not_mem_nil) (u.mono (bar_mono fun b hb => List.mem_append_right _ hb) r), fun e O l σ H' k => hX e H' fun b o h => k.hx.keep b o h List.not_mem_nil⟩ _ H ⟨?_, ⟨[], .nil⟩, ?_⟩
  · exact start_ok hA
  · exact ⟨fun q hq => (by cases hq), List.nodup_nil, fun q hq => (by cases hq), fun q hq => (by cases hq), fun b hb => hM b (hb.elim (fun z => by cases z) id), Frm.refl⟩
end

section
variable {F : Fx} {O O1 O2 O3 O' : Own} {l l' : Lc} {α β γ ρ S A : Type} {K : PySem.W.Frag}
  {ta tb tc te : TE} {t : Ty α} {u : Ty β} {w : Ty γ} {a : α} {b : β} {c : γ} {D : Ends} {P : ρ → Prop} {r : ρ}
/-- a call that does not raise -/
theorem ev_callO {args : A → List Sl} {pre : A → Prop} {cls : Value} {f : A → Option β} {tr : TA} {sls : List Sl} {E : XK} (a : A) (h : EvA F O l tr sls O') (e : sls = args a) (hp : pre a) (hv : f a = some b) : Ev F O l (tCall (spO args pre u cls f) [] E tr) u b O' := fun σ H k Q q =>
  h σ H k _ fun vs H1 s1 k1 r1 => by
    subst e
    rw [List.append_nil]
    refine ⟨ad F O', a, k1.hx.adom, r1, hp, fun b' e v H' s r => ?_, fun e => ?_⟩
    · rw [hv] at e
      cases e
      exact q v H' (s1.grow s) (k1.grow s) r
    · rw [hv] at e
      cases e
/-- return f(..), f may raise -/
theorem b_retO {args : A → List Sl} {pre : A → Prop} {cls : Value} {f : A → Option β} {tr : TA} {sls : List Sl} {E : XK} (a : A) (h : EvA F O l tr sls O') (e : sls = args a) (hp : pre a)
    (hv : P r → ∀ b, f a = some b → Rt F O' u b D.rt) (hx : P r → f a = none → Rx F cls E) : Bd F O l (tRet (tCall (spO args pre u cls f) [] E tr)) D P r := fun hr σ H k =>
  h σ H k _ fun vs H1 s1 k1 r1 => by
    subst e
    rw [List.append_nil]
    exact ⟨ad F O', a, k1.hx.adom, r1, hp, fun b' e v H' s r => hv hr b' e l σ v H' (k1.grow s) r, fun e H' s => hx hr e O' l σ H' (k1.grow s)⟩
/-- raise C() -/
theorem b_raise {E : XK} {cls : Value} (h : P r → Rx F cls E) : Bd F O l (fun _ σ H => E cls none H) D P r := fun hr σ H k => h hr O l σ H k

/-! ### objects -/
def fldsOk (B : Hp) (ns : List Str) (vs : List (Str × V)) (sls : List Sl) : Prop := vs.map (·.1) = ns ∧ A2 (fun (p : Str × V) s => SlOk B (some p.2) s) vs sls
theorem fldsOk.mono {B B' : Hp} {ns : List Str} {vs : List (Str × V)} {sls : List Sl} (s : Same B B') (h : fldsOk B ns vs sls) : fldsOk B' ns vs sls := ⟨h.1, h.2.imp fun _ _ z => z.mono s⟩
/-- an instance of the class at C, its attributes -/
def yO (C : Addr) (ns : List Str) (sl : α → List Sl) : Ty α :=
  ⟨fun H v x => ∃ a dx vs, v = .ref a ∧ H a = some (.ins C dx vs) ∧ fldsOk H ns vs (sl x), fun s ⟨a, dx, vs, e, h, k⟩ => ⟨a, dx, vs, e, s _ _ h, k.mono s⟩⟩
def cO (C : Addr) (ns : List Str) (sl : List Sl) : Cell :=
  ⟨fun H o => ∃ dx vs, o = .ins C dx vs ∧ fldsOk H ns vs sl, fun s ⟨dx, vs, e, k⟩ => ⟨dx, vs, e, k.mono s⟩⟩
theorem fld_at {B : Hp} {f : Str} {s : Sl} : ∀ {vs : List (Str × V)} {ns : List Str} {sls : List Sl} {i : Nat}, fldsOk B ns vs sls → ns.Nodup → ns[i]? = some f → sls[i]? = some s → ∃ v, vs.lookup f = some v ∧ SlOk B (some v) s
  | [], ns, _, i, h, _, e, _ => by
    rw [← h.1] at e
    simp at e
  | (n, v) :: vs, ns, sls, i, ⟨h1, h2⟩, hn, e, e2 => by
    subst h1
    cases h2 with
    | cons q h2 =>
      cases i with
      | zero =>
        have e' : n = f := Option.some.inj e
        have e2' := Option.some.inj e2
        subst e' e2'
        exact ⟨v, by simp, q⟩
      | succ i =>
        have hne : f ≠ n := fun z => (List.nodup_cons.mp hn).1 (by rw [← z]; exact List.mem_of_getElem? (by simpa using e))
        obtain ⟨v', h3, h4⟩ := fld_at (vs := vs) (i := i) ⟨rfl, h2⟩ (List.nodup_cons.mp hn).2 (by simpa using e) (by simpa using e2)
        exact ⟨v', by rw [List.lookup_cons]; rw [show (f == n) = false from by simp [hne]]; exact h3, h4⟩
theorem fld_none {B : Hp} {f : Str} : ∀ {vs : List (Str × V)} {ns : List Str} {sls : List Sl}, fldsOk B ns vs sls → f ∉ ns → vs.lookup f = none
  | [], _, _, _, _ => rfl
  | (n, v) :: vs, ns, sls, ⟨h1, h2⟩, hn => by
    subst h1
    cases h2 with
    | cons q h2 =>
      have hne : f ≠ n := fun z => hn (by rw [z]; exact List.mem_cons_self)
      rw [List.lookup_cons, show (f == n) = false from by simp [hne]]
      exact fld_none ⟨rfl, h2⟩ fun z => hn (List.mem_cons_of_mem _ z)
theorem ev_fld {C : Addr} {ns : List Str} {sl : α → List Sl} {f : Str} (i : Nat) {x : α} (he : Ev F O l te (yO C ns sl) x O1) (hc : Cls K C) (ha : NoAttr K C f) (hn : ns.Nodup) (hi : ns[i]? = some f) (hs : (sl x)[i]? = some (.val u b)) : Ev F O l (tFld K te f) u b O1 := fun σ H k Q q =>
  he σ H k _ fun v H1 s1 k1 r1 => by
    obtain ⟨p, dx, vs, e, hp, hk⟩ := r1
    obtain ⟨z, h1, h2⟩ := fld_at hk hn hi hs
    exact ⟨p, C, dx, vs, z, e, (bar_some.mp hp).2, hc, ha, h1, q z H1 s1 k1 (slv h2)⟩
theorem ev_fldO {C : Addr} {ns : List Str} {sl : List Sl} {f : Str} (i : Nat) {p : Addr} (kk : Nat) (he : Ev F O l te (yV (.ref p)) () O1) (hk : O1[kk]? = some (p, cO C ns sl)) (hc : Cls K C) (ha : NoAttr K C f) (hn : ns.Nodup) (hi : ns[i]? = some f) (hs : sl[i]? = some (.val u b)) : Ev F O l (tFld K te f) u b O1 := fun σ H k Q q =>
  he σ H k _ fun v H1 s1 k1 r1 => by
    obtain ⟨o, ho, dx, vs, e, hk⟩ := own_at k1.hx hk
    subst e
    obtain ⟨z, h1, h2⟩ := fld_at hk hn hi hs
    exact ⟨p, C, dx, vs, z, r1, ho, hc, ha, h1, q z H1 s1 k1 (slv h2)⟩
theorem putF_new {f : Str} {v : V} : ∀ {vs : List (Str × V)}, f ∉ vs.map (·.1) → putF f v vs = vs ++ [(f, v)]
  | [], _ => rfl
  | (n, w) :: vs, h => by
    have hne : ¬ n = f := fun z => h (by rw [← z]; exact List.mem_cons_self)
    show (if n = f then _ else _) = _
    rw [if_neg hne, putF_new fun z => h (List.mem_cons_of_mem _ z)]
    rfl
theorem a2_snocF {R : Str × V → Sl → Prop} {p : Str × V} {s : Sl} : ∀ {vs : List (Str × V)} {xs : List Sl}, A2 R vs xs → R p s → A2 R (vs ++ [p]) (xs ++ [s])
  | _, _, .nil, r => .cons r .nil
  | _, _, .cons q h, r => .cons q (a2_snocF h r)
/-- self.f = e, f a new attribute of an owned object -/
theorem b_fld {ts : TS} {C : Addr} {ns : List Str} {sl : List Sl} {f : Str} {p : Addr} {tv : TE} (kk : Nat) (hv : Ev F O l tv t a O1) (he : Ev F O1 l te (yV (.ref p)) () O2) (hk : O2[kk]? = some (p, cO C ns sl)) (hc : Cls K C) (ha : NoAttr K C f) (hn : f ∉ ns) (hlt : ns.length < 1000)
    (h : Bd F (O2.set kk (p, cO C (ns ++ [f]) (sl ++ [.val t a]))) l ts D P r) : Bd F O l (tSeq (sFld K te tv f) ts) D P r := fun hr σ H k =>
  hv σ H k _ fun y H1 s1 k1 r1 => he σ H1 k1 _ fun v H2 s2 k2 r2 => by
    obtain ⟨o, ho, dx, vs, e, hok⟩ := own_at k2.hx hk
    subst e
    have hn' : f ∉ vs.map (·.1) := by rw [hok.1]; exact hn
    have hlen : vs.length < 1000 := by
      have e : vs.length = ns.length := by rw [← hok.1, List.length_map]
      omega
    have hpad : p ∈ ad F O2 := List.mem_append_left _ (List.mem_map_of_mem (List.mem_of_getElem? hk))
    have eb : br F O2 (upd H2 p (.ins C dx (putF f y vs))) = br F O2 H2 := bar_upd hpad
    obtain ⟨k3, s3⟩ := k2.chg (ce' := cO C (ns ++ [f]) (sl ++ [.val t a])) (o' := .ins C dx (putF f y vs)) hk (H' := upd H2 p (.ins C dx (putF f y vs))) (fun b ob hb hn => by rw [upd_ne (fun z => hn (by rw [z]; exact List.mem_singleton_self _))]; exact hb) upd_same
      ⟨dx, _, rfl, by rw [eb, putF_new hn']; exact ⟨by rw [List.map_append, hok.1]; rfl, a2_snocF hok.2 (show SlOk _ (some y) (.val t a) from ⟨y, rfl, t.mono s2.same r1⟩)⟩⟩
    exact ⟨p, C, dx, vs, r2, ho, hc, ha, hlen, h hr σ _ k3⟩

/-! ### methods: the same calls, the receiver first -/
theorem ev_meth {C : Addr} {m : Str} {ns : List Str} {sl : γ → List Sl} {args : A → List Sl} {pre : A → Prop} {f : A → β} {tr : TA} {sls : List Sl} {E : XK} {x : γ} (a : A) (he : Ev F O l te (yO C ns sl) x O1) (hm : m ∉ ns) (h : EvA F O1 l tr sls O') (e : Sl.val (yO C ns sl) x :: sls = args a) (hp : pre a) :
    Ev F O l (tMeth C m (spF args pre u f) [] E te tr) u (f a) O' := fun σ H k Q q =>
  he σ H k _ fun v H1 s1 k1 r1 => by
    obtain ⟨p, dx, vs, e1, hp1, hk⟩ := id r1
    refine ⟨p, dx, vs, e1, (bar_some.mp hp1).2, fld_none hk hm, h σ H1 k1 _ fun ws H2 s2 k2 r2 => ?_⟩
    rw [List.append_nil]
    exact ⟨ad F O', a, k2.hx.adom, by rw [← e]; exact .cons (show SlOk _ (some v) (.val _ x) from ⟨v, rfl, (yO C ns sl).mono s2.same r1⟩) r2, hp, fun v H' s r => q v H' ((s1.trans s2).grow s) (k2.grow s) r⟩
theorem ev_methO {C : Addr} {m : Str} {ns : List Str} {sl : γ → List Sl} {args : A → List Sl} {pre : A → Prop} {cls : Value} {f : A → Option β} {tr : TA} {sls : List Sl} {E : XK} {x : γ} (a : A) (he : Ev F O l te (yO C ns sl) x O1) (hm : m ∉ ns) (h : EvA F O1 l tr sls O') (e : Sl.val (yO C ns sl) x :: sls = args a) (hp : pre a) (hv : f a = some b) :
    Ev F O l (tMeth C m (spO args pre u cls f) [] E te tr) u b O' := fun σ H k Q q =>
  he σ H k _ fun v H1 s1 k1 r1 => by
    obtain ⟨p, dx, vs, e1, hp1, hk⟩ := id r1
    refine ⟨p, dx, vs, e1, (bar_some.mp hp1).2, fld_none hk hm, h σ H1 k1 _ fun ws H2 s2 k2 r2 => ?_⟩
    rw [List.append_nil]
    refine ⟨ad F O', a, k2.hx.adom, by rw [← e]; exact .cons (show SlOk _ (some v) (.val _ x) from ⟨v, rfl, (yO C ns sl).mono s2.same r1⟩) r2, hp, fun b' e v H' s r => ?_, fun e => ?_⟩
    · rw [hv] at e
      cases e
      exact q v H' ((s1.trans s2).grow s) (k2.grow s) r
    · rw [hv] at e
      cases e
theorem b_retMO {C : Addr} {m : Str} {ns : List Str} {sl : γ → List Sl} {args : A → List Sl} {pre : A → Prop} {cls : Value} {f : A → Option β} {tr : TA} {sls : List Sl} {E : XK} {x : γ} (a : A) (he : Ev F O l te (yO C ns sl) x O1) (hm : m ∉ ns) (h : EvA F O1 l tr sls O') (e : Sl.val (yO C ns sl) x :: sls = args a) (hp : pre a)
    (hv : P r → ∀ b, f a = some b → Rt F O' u b D.rt) (hx : P r → f a = none → Rx F cls E) : Bd F O l (tRet (tMeth C m (spO args pre u cls f) [] E te tr)) D P r := fun hr σ H k =>
  he σ H k _ fun v H1 s1 k1 r1 => by
    obtain ⟨p, dx, vs, e1, hp1, hk⟩ := id r1
    refine ⟨p, dx, vs, e1, (bar_some.mp hp1).2, fld_none hk hm, h σ H1 k1 _ fun ws H2 s2 k2 r2 => ?_⟩
    rw [List.append_nil]
    exact ⟨ad F O', a, k2.hx.adom, by rw [← e]; exact .cons (show SlOk _ (some v) (.val _ x) from ⟨v, rfl, (yO C ns sl).mono s2.same r1⟩) r2, hp, fun b' e v H' s r => hv hr b' e l σ v H' (k2.grow s) r, fun e H' s => hx hr e O' l σ H' (k2.grow s)⟩
/-- C(..): an object that stays -/
theorem ev_make {C : Addr} {args : Addr → A → List Sl} {cc : S → Cell} {pre : A → Prop} {m : A → Unit × S} {tr : TA} {sls : List Sl} {E : XK} {ns : List Str} {sl : γ → List Sl} (a : A) (x : γ) (h : EvA F O l tr sls O') (e : ∀ p, Sl.val (yV (.ref p)) () :: sls = args p a) (hp : pre a) (hc : cc (m a).2 = cO C ns (sl x)) :
    Ev F O l (tMake C (spP args (fun _ => cO C [] []) cc pre yN m) [] E tr) (yO C ns sl) x O' := fun σ H k Q q =>
  h σ H k _ fun vs H1 s1 k1 r1 p dx np ndx hne => by
    rw [List.append_nil]
    have s2 : Same H1 (upd (upd H1 dx (.own p)) p (.ins C dx [])) := fun b o hb => by
      rw [upd_ne (ne_of_none hb np), upd_ne (ne_of_none hb ndx)]
      exact hb
    have np' := k1.hx.fresh np
    have k2 := k1.grow s2
    have nb : ∀ b, b ∈ p :: ad F O' ↔ b = p ∨ b ∈ ad F O' := fun b => List.mem_cons
    have sm : Same (br F O' H1) (bar (upd (upd H1 dx (.own p)) p (.ins C dx [])) (p :: ad F O')) := fun b o hb => by
      obtain ⟨h1, h2⟩ := bar_some.mp hb
      exact bar_some.mpr ⟨fun z => ((nb b).mp z).elim (ne_of_none h2 np) h1, s2 _ _ h2⟩
    refine ⟨ad F O', p, a, _, np', fun b hb z => ?_, upd_same, ⟨dx, [], rfl, rfl, .nil⟩, ?_, hp, fun v H' o' fr ho hok hv => ⟨hv, ?_⟩⟩
    · exact k2.hx.adom b hb z
    · rw [← e p]
      exact .cons (show SlOk _ (some (.ref p)) (.val (yV (.ref p)) ()) from ⟨_, rfl, rfl⟩) (r1.imp fun _ _ z => z.mono sm)
    · have s3 : Same H1 H' := fun b o hb => fr b o (s2 b o hb) fun z => ne_of_none hb np (List.mem_singleton.mp z)
      rw [hc] at hok
      obtain ⟨dx', vs', e1, hk⟩ := hok
      subst e1
      refine q _ H' (s1.grow s3) (k1.grow s3) ⟨p, dx', vs', rfl, bar_some.mpr ⟨np', ho⟩, hk.mono (bar_mono fun b hb => List.mem_cons_of_mem _ hb)⟩

/-! ### isinstance -/
theorem ev_cb2 {rl : List V → Hp → VK → Prop} (ha : Ev F O l ta t a O1) (hb : Ev F O1 l tb u b O2)
    (hr : ∀ H x y, Hx F O2 H → t.rp (br F O2 H) x a → u.rp (br F O2 H) y b → ∀ Q : VK, (∀ v H', Same H H' → w.rp (br F O2 H') v c → Q v H') → rl [x, y] H Q) : Ev F O l (tCB rl (tCons ta (tCons tb tNil))) w c O2 := fun σ H k Q q =>
  ha σ H k _ fun x H1 s1 k1 r1 => hb σ H1 k1 _ fun y H2 s2 k2 r2 => hr H2 x y k2.hx (t.mono s2.same r1) r2 Q fun v H3 s3 r3 => q v H3 ((s1.trans s2).grow s3) (k2.grow s3) r3
/-- what type the values of t have -/
class HasTy (t : Ty α) (K : PySem.W.Frag) (c : outParam Value) : Prop where
  ty : ∀ {B H : Hp} {v : V} {a : α}, Same B H → t.rp B v a → TyX K H v c
instance : HasTy yI K (.type "int") := ⟨fun _ h => by rw [show _ = _ from h]; exact .base (.int _)⟩
instance : HasTy yB K (.type "bool") := ⟨fun _ h => by rw [show _ = _ from h]; exact .base (.bl _)⟩
instance : HasTy yS K (.type "str") := ⟨fun _ h => by rw [show _ = _ from h.1]; exact .base (.str _)⟩
instance : HasTy yN K (.type "NoneType") := ⟨fun _ h => by rw [show _ = _ from h]; exact .base .non⟩
instance : HasTy (yL t) K (.type "list") := ⟨fun s ⟨p, vs, e, h, _⟩ => by rw [e]; exact .base (.lst (s _ _ h))⟩
instance : HasTy (yT t) K (.type "tuple") := ⟨fun s ⟨p, vs, e, h, _⟩ => by rw [e]; exact .base (.tup (s _ _ h))⟩
instance : HasTy (yP t u) K (.type "tuple") := ⟨fun s ⟨p, x, y, e, h, _⟩ => by rw [e]; exact .base (.tup (s _ _ h))⟩
theorem ev_isi {ct : Value} [hT : HasTy t K ct] {n : String} {bb : Bool} (ha : Ev F O l ta t a O1) (h : PySem.W.kitOne K ct (.type n) = some bb) : Ev F O l (tCB (rIsi K) (tCons ta (tCons (tC (.ty n)) tNil))) yB bb O1 :=
  ev_cb2 ha ev_val fun H x y hx r1 r2 Q q => ⟨x, y, ct, .type n, bb, rfl, by rw [show y = _ from r2]; exact .ty n, hT.ty bar_sub r1, h, q _ H (same_refl _) rfl⟩
theorem ev_isiC {ct : Value} [hT : HasTy t K ct] {C : Addr} {bb : Bool} (ha : Ev F O l ta t a O1) (h : PySem.W.kitOne K ct (.ref C) = some bb) : Ev F O l (tCB (rIsi K) (tCons ta (tCons (tC (.ref C)) tNil))) yB bb O1 :=
  ev_cb2 ha ev_val fun H x y hx r1 r2 Q q => ⟨x, y, ct, .ref C, bb, rfl, by rw [show y = _ from r2]; exact .own C, hT.ty bar_sub r1, h, q _ H (same_refl _) rfl⟩

/-! ### == of data -/
class Dat (t : Ty α) (K : PySem.W.Frag) [DecidableEq α] where
  toD : α → PyData
  dp : ∀ {B H : Hp} {v : V} {a : α}, Same B H → t.rp B v a → Dp K H v (toD a)
  dep : Nat
  sh : ∀ {B : Hp} {v : V} {a : α}, t.rp B v a → (toD a).canLay0 = true ∧ (toD a).depth ≤ dep
  eq : ∀ a b, PyData.eqv (toD a) (toD b) = decide (a = b)
theorem ev_eqD [DecidableEq α] [d : Dat t K] {b : α} (ha : Ev F O l ta t a O1) (hb : Ev F O1 l tb t b O2) (hd : d.dep ≤ 64 := by exact Nat.le_of_ble_eq_true rfl) : Ev F O l (tOp (rEqD K) ta tb) yB (decide (a = b)) O2 :=
  ev_op ha hb fun H x y _ e1 e2 Q q => ⟨_, _, d.dp bar_sub e1, d.dp bar_sub e2, Bool.and_eq_true_iff.mpr ⟨(d.sh e1).1, decide_eq_true (Nat.le_trans (d.sh e1).2 hd)⟩, Bool.and_eq_true_iff.mpr ⟨(d.sh e2).1, decide_eq_true (Nat.le_trans (d.sh e2).2 hd)⟩, by rw [d.eq]; exact q _ H (same_refl _) rfl⟩
theorem ev_neD [DecidableEq α] [d : Dat t K] {b : α} (ha : Ev F O l ta t a O1) (hb : Ev F O1 l tb t b O2) (hd : d.dep ≤ 64 := by exact Nat.le_of_ble_eq_true rfl) : Ev F O l (tOp (rNeD K) ta tb) yB (!decide (a = b)) O2 :=
  ev_op ha hb fun H x y _ e1 e2 Q q => ⟨_, _, d.dp bar_sub e1, d.dp bar_sub e2, Bool.and_eq_true_iff.mpr ⟨(d.sh e1).1, decide_eq_true (Nat.le_trans (d.sh e1).2 hd)⟩, Bool.and_eq_true_iff.mpr ⟨(d.sh e2).1, decide_eq_true (Nat.le_trans (d.sh e2).2 hd)⟩, by rw [d.eq]; exact q _ H (same_refl _) rfl⟩
end
end TL
/-! super().__init__(..) as the first statement of a method -/
namespace TL
open PySem L2

structure ScS (N ps : List Str) (sc : Scope) (me : Str) : Prop where
  kind : sc.kind = .function
  co : sc.isCoroutine = false
  gen : sc.isGenerator = false
  nd : N.Nodup
  pre : N.take ps.length = ps
  par : ∀ x ∈ ps, sc.names.lookup x = some .local
  nocell : ∀ y ∈ sc.names, y.2 ≠ .cell
  free : ∀ y ∈ sc.names, y.2 = .free → y.1 = ("__class__" : Str)
  sup : sc.names.lookup ("super" : Str) = some .globalImplicit
  cls : sc.names.lookup ("__class__" : Str) = some .free
  first : ps[0]? = some me
/-- the def, its code object and its class cell as they stand in K -/
structure SupF (P : Program) (K : PySem.W.Frag) (cda cc D : Addr) : Prop where
  code : ∃ ccl cdd vs ccs file tf, K.lookup cda = some ⟨ccl, cdd, .fields vs, ccs⟩ ∧ vs[2]? = some (.str file tf) ∧ ((P.main.file : Str) == file) = true
  cell : ∃ cl cld csl, K.lookup cc = some ⟨cl, cld, .cell (some (.ref D)), csl⟩
  clsD : (PySem.W.clsIn K D).isSome = true
  top : (P.main.scope.names.lookup ("super" : Str)).isSome = false
/-- of the class C of the object: what its super is asked -/
structure SupC (K : PySem.W.Frag) (C D : Addr) (m : Str) (f2 : Addr) : Prop where
  sub : PySem.W.mroIn K C (.ref D) = some true
  find : PySem.W.ks_superIn K C D m = some (some (.ref f2))
  ty : PySem.W.typeIn K (.ref f2) = some (.type "function")
  fn : PySem.W.fnIn K f2 = true
  stat : PySem.W.nsIn K cStatics "thirdparty.any" = some none

abbrev envS (qual : Str) (sc : Scope) (L f cda cc : Addr) : Env := PySem.W.envX qual sc L f (.ref cda) [("__class__", cc)]
def cxS (CX : CXT) (P : Program) (w : World) (K : PySem.W.Frag) (mg : Str → Option Value) (base : Heap) (N : List Str) (qual : Str) (sc : Scope) (f cda cc : Addr) (A : Around) (outer : List Env) (s : Shared) (H : Hp) (E : XK) : Cx where
  prog := P
  w := w
  K := K
  mg := mg
  base := base
  A := A.deeper (envS qual sc s.heap.objs.size f cda cc)
  N := N
  s_0 := s
  H_0 := H
  env := envS qual sc s.heap.objs.size f cda cc
  outer := outer
  stack := envS qual sc s.heap.objs.size f cda cc :: outer
  ex := []
  calm := true
  fn := fun _ => false
  pn := []
  xe := fun e s' => wpAny (model P w) (A.deeper (envS qual sc s.heap.objs.size f cda cc)) (leaving (envS qual sc s.heap.objs.size f cda cc) e) (fun _ s'' => CX outer H s E e s'') (fun e' s'' => CX outer H s E e' s'') s'

section
variable {CX : CXT} {P : Program} {w : World} {K : PySem.W.Frag} {mg : Str → Option Value} {base : Heap} {N ps : List Str} {name qual me : Str} {params : Arguments} {sc : Scope} {f cda cc D : Addr} {A : Around} {outer : List Env} {s : Shared} {H : Hp} {E : XK} {us : List Value} {vs : List V}
theorem inv_startS {h₁ : Heap} {tk : Nat} (S : ScS N ps sc me) (hd : A.handled = none) (e0 : Env0 P w K mg base A outer s H) (hl : vs.length = ps.length) (r : Vals vs us) (C : ∃ cl cld csl v, K.lookup cc = some ⟨cl, cld, .cell v, csl⟩) (hns : h₁.Ns s.heap.objs.size fun y => (ps.zip us).reverse.lookup y)
    (kp : ∀ b o, s.heap.get? b = some o → h₁.get? b = some o) : Inv (cxS CX P w K mg base N qual sc f cda cc A outer s H E) [] (L2.start N vs) H { s with heap := h₁, toks := tk } := by
  obtain ⟨cl, cld, csl, cv, hcc⟩ := C
  have hpl : ps.length ≤ N.length := by have := congrArg List.length S.pre; rw [List.length_take] at this; omega
  have noA : ∀ b : Addr, b ∉ (cxS CX P w K mg base N qual sc f cda cc A outer s H E).ex := fun b z => absurd (show b ∈ ([] : List Addr) from z) (by simp)
  have hcb := e0.mod.kin _ _ hcc
  have one : ∀ x c, ([("__class__", cc)] : List (Str × Addr)).lookup x = some c → x = "__class__" ∧ c = cc := fun x c h => by
    rw [List.lookup_cons] at h
    split at h
    · rename_i q
      exact ⟨beq_iff_eq.mp q, (Option.some.inj h).symm⟩
    · cases h
  refine ⟨⟨e0.mod, S.kind, rfl, rfl, Nat.le_refl _, fun x y c h1 h2 => (one x c h1).1.trans (one y c h2).1.symm, fun y hy => ?_, fun y c z _ => ?_, fun _ => hd, Around.frames_deeper e0.frames, .inr ⟨rfl, rfl⟩, fun b z => absurd z (noA b), e0.bs, e0.bsz, fun b _ _ => noA b,
      fun b z => absurd z (noA b), e0.funs, e0.frf⟩,
    rfl, e0.bare, Un.kept kp, ⟨_, hns, fun i y v e1 e2 e3 => ?_⟩, fun y c e => ?_, e0.hok.fresh (Nat.le_refl _), fun y c e => ?_, fun q hq => absurd (show q ∈ ([] : List (Addr × Obj)) ++ [] from hq) (by simp), e0.hok.kept kp, ?_⟩
  · have hy : sc.names.lookup y = some .cell ∨ sc.names.lookup y = some .free := hy
    rcases hy with hy | hy
    · exact absurd rfl (S.nocell _ (PySem.mem_of_lookup hy))
    · have e : y = "__class__" := S.free _ (PySem.mem_of_lookup hy) rfl
      subst e
      exact ⟨cc, by show List.lookup ("__class__" : Str) ([(("__class__" : Str), cc)] : List (Str × Addr)) = some cc; rw [List.lookup_cons_self]⟩
  · cases (show false = true from z)
  · have e1 : N[i]? = some y := e1
    unfold L2.start at e2
    by_cases h1 : i < ps.length
    · have hq : ps[i]? = some y := by
        rw [← S.pre, List.getElem?_take_of_lt (by omega)]
        exact e1
      rw [List.getElem?_append_left (by rw [List.length_map]; omega), List.getElem?_map] at e2
      have ha : vs[i]? = some v := by
        cases e : vs[i]? with
        | none => rw [e] at e2; cases e2
        | some a => rw [e] at e2; cases e2; rfl
      obtain ⟨u, hu, rv⟩ := r.get ha
      have ndP : ps.Nodup := by
        have q := S.nd.sublist (List.take_sublist ps.length N)
        rw [S.pre] at q
        exact q
      exact ⟨u, rv, .inl ⟨S.par y (List.mem_of_getElem? hq), NdefX.zip_look ndP hq hu⟩⟩
    · rw [List.getElem?_append_right (by rw [List.length_map]; omega), List.getElem?_replicate] at e2
      split at e2 <;> cases e2
  · obtain ⟨_, e2⟩ := one y c e
    subst e2
    exact ⟨cv, _, kp _ _ (e0.bs _ _ hcb).1, rfl⟩
  · obtain ⟨_, e2⟩ := one y c e
    subst e2
    exact (e0.bs _ _ hcb).2
  · unfold L2.start
    show _ = N.length
    rw [List.length_append, List.length_map, List.length_replicate]
    omega

theorem fn_super {k k2 : Nat} {body rest : List Stmt} {dV kV doc pm ct oc : Value} {an od : Option Addr} {osl : Array (Option Value)} {p0 p1 apos cpos epos : Pos} {e : Expr} {es : List Expr} {m : Str} {sp sp2 : Sp} {ar : Arg} {pl : Env → Sem Bool}
    (lk : K.lookup f = some ⟨oc, od, .func (PySem.W.fnX name qual params body sc [("__class__", cc)] dV kV doc pm an (.ref cda) ct), osl⟩) (hcd : PySem.W.codeIn K (.ref cda) qual = true) (S : ScS N ps sc me) (SF : SupF P K cda cc D)
    (hp : (params.posonlyargs ++ params.args).head? = some ar) (har : ar.arg = me) (hsup : mg "super" = none) (hm : (m == ("__class__" : Str)) = false)
    (hbd : body = .Expr (.Call (.Attribute (.Call (.Name "super" p0) [] [] p1) m apos) (e :: es) [] cpos) epos :: rest)
    (he : ∀ env : Env, eval (.Call (.Attribute (.Call (.Name "super" p0) [] [] p1) m apos) (e :: es) [] cpos) env = (do
      let ov ← attributeBase (.Call (.Name "super" p0) [] [] p1) m env (eval (.Call (.Name "super" p0) [] [] p1) env)
      standAt apos.atName
      let (f, first) ← holding [ov] (getMethod ov m (pl env))
      callWith cpos f first (backTo cpos (starEach (e :: es) env)) []))
    (hst : ∀ env : Env, starEach (e :: es) env = (false, eval e env) :: starEach es env) (hpl : ∀ env : Env, (backTo cpos (starEach es env)).any (·.1) = false)
    (len : ∀ vs H Q E, sp vs H Q E → vs.length = ps.length)
    (hbody : ∀ (A : Around) (outer : List Env) (s : Shared) (H : Hp) (vs : List V) (Q : VK) (E : XK), Room k (A.deeper (envS qual sc s.heap.objs.size f cda cc)) → sp vs H Q E →
      ∃ (x C dx f2 : Addr) (fs : List (Str × V)) (fd2 : FuncData) (ps2 : List Str) (tA : TA) (t : TS), vs[0]? = some (.ref x) ∧ H x = some (.ins C dx fs) ∧ SupC K C D m f2 ∧ FnOk P w K mg base CX k2 f2 fd2 ps2 sp2 ∧ k2 ≤ k ∧ Binds K fd2 ps2 [] ∧
        PA (cxS CX P w K mg base N qual sc f cda cc A outer s H E) (e :: es) tA ∧ PSs (cxS CX P w K mg base N qual sc f cda cc A outer s H E) rest t ∧ Passes CX (cxS CX P w K mg base N qual sc f cda cc A outer s H E) E0 ∧
        ∀ q, H q = none → tA (L2.start N vs) (upd H q (.met f2 x)) fun ws H1 => H1 q = some (.met f2 x) ∧ sp2 (.ref x :: ws) H1 (fun _ H2 => t { nx := fun _ H' => Q .non H', rt := Q } (L2.start N vs) H2) E0) :
    FnOk P w K mg base CX (k + 1) f (PySem.W.fnX name qual params body sc [("__class__", cc)] dV kV doc pm an (.ref cda) ct) ps sp := by
  refine ⟨len, fun A outer s H args us vs Q E hr e0 hb r hsp => ?_⟩
  have hl := len _ _ _ _ hsp
  have KX : K.In s.heap := e0.mod.kin.keeps fun b o e => (e0.bs b o e).1
  have lim : s.heap.NoLimit := e0.mod.nolimit.keeps fun b o e => (e0.bs b o e).1
  obtain ⟨x, C, dx, f2, fs, fd2, ps2, tA, t, hv0, hx, SC, F2, hk2, b2, hA, hR, hps, hq⟩ := hbody A outer s H vs Q E (hr.deeper _) hsp
  refine ks_codeAny_call_defAt (fd := PySem.W.fnX name qual params body sc [("__class__", cc)] dV kV doc pm an (.ref cda) ct) hr.depth (KX _ _ lk) rfl lim (PySem.W.codeRec_of KX hcd) rfl hb S.nocell (fun y hy => S.par y.1 (List.of_mem_zip hy).1) (fun h₀ hns kp => ?_) S.co S.gen S.kind
  have I : Inv (cxS CX P w K mg base N qual sc f cda cc A outer s H E) [] (L2.start N vs) H { s with heap := h₀, toks := s.toks + (ps.zip us).length } := by
    obtain ⟨cl, cld, csl, hc⟩ := SF.cell
    exact inv_startS S hr.hd e0 hl r ⟨cl, cld, csl, _, hc⟩ hns kp
  subst hbd
  have fin : ∀ {σ' : St} {H' : Hp} {v : V} {u : Value} {s' : Shared}, Inv (cxS CX P w K mg base N qual sc f cda cc A outer s H E) [] σ' H' s' → RelV v u → Q v H' → CE outer P w H s Q u s' :=
    fun {σ' H' v u s'} J rv q => ⟨v, H', J.os, J.bare, J.base, J.hok, rv, q⟩
  have X0 : K.In h₀ := KX.keeps kp
  obtain ⟨ccl, cdd, vs2, ccs, file, tf, hcode, hvs2, hfile⟩ := SF.code
  obtain ⟨cl, cld, csl, hcell⟩ := SF.cell
  obtain ⟨cdD, hcD⟩ := Option.isSome_iff_exists.mp SF.clsD
  obtain ⟨oD, hD1, hD2⟩ : ∃ oD, h₀.get? D = some oD ∧ oD.data = .cls cdD := by
    unfold PySem.W.clsIn at hcD
    split at hcD
    · rename_i c d cd' sl ho
      cases hcD
      exact ⟨_, X0 _ _ ho, rfl⟩
    · cases hcD
  refine ks_wpAt_execs_cons (ks_wpAt_Expr_any (ks_wpAt_MethodCall ?_ (he _)) I.quiet rfl)
  have hself : (ps.zip us).reverse.lookup me = some (.ref x) := by
    obtain ⟨u, hu, ru⟩ := r.get hv0
    have ndP : ps.Nodup := by
      have q := S.nd.sublist (List.take_sublist ps.length N)
      rw [S.pre] at q
      exact q
    have e := NdefX.zip_look ndP S.first hu
    rw [show u = .ref x from ru] at e
    exact e
  obtain ⟨mA, O0, _⟩ := ins_get I.hok hx
  obtain ⟨od0, J0, _⟩ := O0.look
  have hC' : x ≠ C := by
    rintro rfl
    cases hc : PySem.W.clsIn K x with
    | none =>
      have z := SC.sub
      unfold PySem.W.mroIn at z
      rw [hc] at z
      cases z
    | some cd => exact PySem.W.ks_ne I.kIn J0 hc rfl
  refine ks_wpAt_super_base (env := envS qual sc s.heap.objs.size f cda cc) (ar := ar) S.sup S.cls hm rfl (X0 _ _ lk) rfl hp rfl (X0 _ _ hcode) rfl hvs2 hfile SF.top ?_
  obtain ⟨mb, hb1, hb2⟩ := I.mod.blt
  refine PySem.W.ks_loadName_global S.kind S.sup (Calls.loadGlobal_builtin (env := envS qual sc s.heap.objs.size f cda cc) (I.mod.glob.keeps I.bk) hsup (hb1.keeps I.bk) ((hb2 _ (by decide +kernel)).trans (by decide +kernel)) ⟨rfl, ?_⟩)
  refine wpAny_loadName_free S.kind S.cls rfl ⟨_, X0 _ _ hcell, rfl⟩ ?_
  rw [har]
  refine wpAny_loadName_local S.kind (S.par _ (List.mem_of_getElem? S.first)) hns hself ?_
  refine ks_wpAny_isType_cls hD1 hD2 ⟨rfl, ?_⟩
  refine ks_wpAny_call_super hD1 hD2 J0.at_ J0.cls (fun c e => ?_) (PySem.W.looks_mroIn X0 SC.sub) (fun h' e k => ?_)
  · have := J0.no
    unfold PySem.W.notCls at this
    rw [e] at this
    exact Bool.noConfusion this
  have I1 := I.kept (h' := h') (t' := s.toks + (ps.zip us).length) k
  have X1 : K.In h' := X0.keeps k
  obtain ⟨of2, hof2, hofc⟩ : ∃ of, h'.get? f2 = some of ∧ of.cls = .type "function" := by
    have ht' : (K.lookup f2).map (·.cls) = some (.type "function") := SC.ty
    cases z : K.lookup f2 with
    | none => rw [z] at ht'; cases ht'
    | some of => rw [z] at ht'; exact ⟨of, X1 _ _ z, Option.some.inj ht'⟩
  cases hc : PySem.W.clsIn K C with
  | none =>
    have z := SC.find
    unfold PySem.W.ks_superIn at z
    rw [hc] at z
    cases z
  | some cd =>
  have hfind := SC.find
  unfold PySem.W.ks_superIn at hfind
  rw [hc] at hfind
  refine ks_wpAny_getMethod_super e (PySem.W.looks_opaque X1 SC.stat) (l₀ := cd.mro) ?_ rfl X1 hfind hof2 hofc hC' hm ?_
  · exact fun A Q E s k q => wpAny_bind ((PySem.W.looks_clsIn X1 hc) A _ E s k (wpAny_pure q))
  have nq : H h'.objs.size = none := I1.hok.fresh (Nat.le_refl _)
  have I2 := I1.laid (t' := s.toks + (ps.zip us).length + 1) (a := h'.objs.size) (o := .met f2 x) (h' := h'.push (PySem.W.methodObj (.ref f2) (.ref x))) (fun b u z => Heap.get?_push_of_some _ z) (Nat.le_refl _)
    (show (h'.push (PySem.W.methodObj (.ref f2) (.ref x))).get? h'.objs.size = some (PySem.W.methodObj (.ref f2) (.ref x)) from Heap.get?_push_size h' rfl)
  refine callwith_met (X := cxS CX P w K mg base N qual sc f cda cc A outer s H E) (g := f2) (a := x) (by rw [hst]; show ((false || (backTo cpos (starEach es _)).any (·.1)) || false) = false; rw [hpl]; rfl) SC.fn ?_
  have hAr := hA.run cpos [] _ _ _ _ I2 (hq _ nq)
  rw [hst] at hAr ⊢
  refine Calls.evalArgs_plain ?_
  refine thn hAr fun us3 s3 ⟨ws, H3, I3, r3, hm3, hsp2⟩ => ⟨met_P I3 hm3, ?_⟩
  refine wpAny_call (PySem.W.method_call (met_P I3 hm3).1 ?_)
  have r4 : Vals (.ref x :: ws) (.ref x :: us3) := .cons rfl r3
  have hl4 : (Value.ref x :: us3).length = ps2.length := by rw [← r4.length]; exact F2.len _ _ _ _ hsp2
  have bb := b2 s3 (.ref x :: us3) I3.kIn (by rw [List.append_nil]; exact hl4)
  rw [List.append_nil] at bb
  refine codeAny_mono (F2.run _ _ s3 H3 _ _ _ _ E0 ((hr.deeper _).mono hk2) I3.env0 bb r4 hsp2) fun r5 s5 hq5 => ?_
  cases r5 with
  | error e5 => exact hps [] _ H3 s3 e5 s5 I3 hq5
  | ok fl5 =>
    cases fl5 with
    | ret u5 =>
      obtain ⟨v5, H5, I5, rv5, q5⟩ := I3.after hq5
      refine wpAt_of_wpAny (wpAny_mono (hR.run [] s5 _ H5 _ I5 q5) (fun fl s6 h6 => ?_) fun e6 s6 h6 => h6)
      cases fl with
      | ret u =>
        obtain ⟨v6, σ6, H6, J6, rv6, q6⟩ := h6
        exact fin J6 rv6 q6
      | next =>
        obtain ⟨σ6, H6, J6, q6⟩ := h6
        exact fin (v := V.non) (u := Value.none) J6 rfl q6
      | brk =>
        obtain ⟨_, _, _, q6⟩ := h6
        exact False.elim q6
      | cont =>
        obtain ⟨_, _, _, q6⟩ := h6
        exact False.elim q6
    | next => exact False.elim hq5
    | brk => exact False.elim hq5
    | cont => exact False.elim hq5
end
end TL
namespace TL
open PySem L2 PyProof.Rows

/-! ### a name for a value -/
def bnd {α : Type u} {β : Type v} (a : α) (k : α → β) : β := k a
section
variable {F : Fx} {O O1 O2 O3 O' : Own} {l l' : Lc} {α β γ ρ S T A : Type} {K : PySem.W.Frag}
  {ta tb tc te : TE} {t : Ty α} {u : Ty β} {w : Ty γ} {a : α} {b : β} {c : γ} {D : Ends} {P : ρ → Prop} {r : ρ}
theorem b_gen {ts : TS} {x : α} {k : α → ρ} (h : ∀ y, y = x → Bd F O l ts D P (k y)) : Bd F O l ts D P (bnd x k) := h x rfl
theorem b_let {ts : TS} {i : Nat} {k : α → ρ} (he : Ev F O l te t a O1) (h : ∀ x, x = a → Bd F O1 (l.set i (.val t x)) ts D P (k x)) : Bd F O l (tSeq (tAsg te (gName i)) ts) D P (bnd a k) := b_set he (h a rfl)
theorem b_letG {ts : TS} {g : TG} {up : α → Lc → Lc} {is : List Nat} {k : α → ρ} (he : Ev F O l te t a O1) (hg : Tg g t up is) (h : ∀ x, x = a → Bd F O1 (up x l) ts D P (k x)) : Bd F O l (tSeq (tAsg te g) ts) D P (bnd a k) := b_asg he hg (h a rfl)
theorem b_letO {ts : TS} {i : Nat} {xs : List α} {k : List α → ρ} (he : EvL F O l te t xs O1) (h : ∀ (p : Addr) x, x = xs → Bd F (O1 ++ [(p, cL t x)]) (l.set i (.val (yV (.ref p)) ())) ts D P (k x)) : Bd F O l (tSeq (tAsg te (gName i)) ts) D P (bnd xs k) := b_own he fun p => h p xs rfl
theorem b_letP {ts : TS} {i j : Nat} {tr : TA} {k : α × β → ρ} (he : EvA F O l tr [.val t a, .val u b] O1) (h : ∀ x, x = (a, b) → Bd F O1 ((l.set i (.val t x.1)).set j (.val u x.2)) ts D P (k x)) : Bd F O l (tSeq (tPar i j tr) ts) D P (bnd (a, b) k) := b_par he (h (a, b) rfl)
/-- an if that falls through on both ways: the slots by a value -/
def Sx (F : Fx) (O : Own) (l : Lc) (ts : TS) (O' : Own) (l' : Lc) : Prop := ∀ D σ H, Ok F O l σ H → Nx F O' l' D.nx → ts D σ H
theorem b_sx {t1 ts : TS} (h1 : Sx F O l t1 O1 l') (h : Bd F O1 l' ts D P r) : Bd F O l (tSeq t1 ts) D P r := fun hr σ H k => h1 _ σ H k (h hr)
theorem sx_next : Sx F O l tNext O l := fun D σ H k n => n σ H k
theorem sx_set {ts : TS} {i : Nat} (he : Ev F O l te t a O1) (h : Sx F O1 (l.set i (.val t a)) ts O2 l') : Sx F O l (tSeq (tAsg te (gName i)) ts) O2 l' := fun D σ H k n =>
  he σ H k _ fun v H1 s k1 r1 => h _ _ H1 (k1.set i r1) n
theorem sx_drop {ts : TS} (he : Ev F O l te t a O1) (h : Sx F O1 l ts O2 l') : Sx F O l (tSeq (tDrop te) ts) O2 l' := fun D σ H k n =>
  he σ H k _ fun v H1 s k1 r1 => h _ _ H1 k1 n
theorem sx_if {tt : TT} {t1 t2 : TS} {p : Prop} [Decidable p] {G : T → Lc} {OG : T → Own} {x1 x2 : T} (ht : Tt F O l tt p O1) (h1 : p → Sx F O1 l t1 (OG x1) (G x1)) (h2 : ¬ p → Sx F O1 l t2 (OG x2) (G x2)) : Sx F O l (tIfS tt t1 t2) (OG (if p then x1 else x2)) (G (if p then x1 else x2)) := fun D σ H k n =>
  ht σ H k _ fun b H1 i s k1 => by
    cases b with
    | true =>
      have hp := i.mp rfl
      rw [if_pos hp] at n
      exact h1 hp D σ H1 k1 n
    | false =>
      have hp : ¬ p := fun y => by cases i.mpr y
      rw [if_neg hp] at n
      exact h2 hp D σ H1 k1 n
theorem sx_wk {ts : TS} {l2 : Lc} (h : Sx F O l ts O1 l') (hw : Wk l' l2) : Sx F O l ts O1 l2 := fun D σ H k n => h D σ H k (n.wk hw)
/-- if c: x = e, joined: G tells the slots of the value -/
theorem b_join {tt : TT} {t1 t2 ts : TS} {p : Prop} [Decidable p] {x1 x2 : T} {k : T → ρ} (G : T → Lc) (OG : T → Own) (ht : Tt F O l tt p O1) (h1 : p → Sx F O1 l t1 (OG x1) (G x1)) (h2 : ¬ p → Sx F O1 l t2 (OG x2) (G x2)) (h : ∀ x, x = (if p then x1 else x2) → Bd F (OG x) (G x) ts D P (k x)) :
    Bd F O l (tSeq (tIfS tt t1 t2) ts) D P (bnd (if p then x1 else x2) k) := b_sx (sx_if ht h1 h2) (h _ rfl)
end

/-! ### data that is compared -/
section
variable {α β : Type} {K : PySem.W.Frag} {t : Ty α} {u : Ty β}
theorem eqv_int (a b : Int) : PyData.eqv (.int a) (.int b) = decide (a = b) := by
  simp [PyData.eqv, Bool.beq_eq_decide_eq]
instance : Dat yI K := { toD := .int, dp := fun _ h => by rw [show _ = _ from h]; exact .int _, dep := 1, sh := fun _ => ⟨by simp [PyData.canLay0], by simp [PyData.depth]⟩, eq := eqv_int }
instance : Dat yB K := { toD := .bool, dp := fun _ h => by rw [show _ = _ from h]; exact .bl _, dep := 1, sh := fun _ => ⟨by simp [PyData.canLay0], by simp [PyData.depth]⟩, eq := fun a b => by cases a <;> cases b <;> rfl }
theorem dpAll [DecidableEq α] (d : Dat t K) {B H : Hp} (s : Same B H) : ∀ {vs : List V} {xs : List α}, A2 (t.rp B) vs xs → DpAll K H vs (xs.map d.toD)
  | _, _, .nil => .nil
  | _, _, .cons r h => .cons (d.dp s r) (dpAll d s h)
theorem shAll [DecidableEq α] (d : Dat t K) {B : Hp} : ∀ {vs : List V} {xs : List α}, A2 (t.rp B) vs xs → PyData.canLayAll0 (xs.map d.toD) = true ∧ PyData.depthAll (xs.map d.toD) ≤ d.dep
  | _, _, .nil => ⟨by simp [PyData.canLayAll0], by simp [PyData.depthAll]⟩
  | _, _, .cons r h => by
    have h1 := d.sh r
    have h2 := shAll d h
    refine ⟨?_, ?_⟩
    · rw [List.map_cons]
      show (PyData.canLay0 _ && PyData.canLayAll0 _) = true
      rw [h1.1, h2.1]
      rfl
    · rw [List.map_cons]
      show max (PyData.depth _) (PyData.depthAll _) ≤ _
      exact Nat.max_le.mpr ⟨h1.2, h2.2⟩
theorem eqAll [DecidableEq α] (d : Dat t K) : ∀ xs ys : List α, PyData.eqvAll (xs.map d.toD) (ys.map d.toD) = decide (xs = ys)
  | [], [] => by simp [PyData.eqvAll]
  | [], _ :: _ => by simp [PyData.eqvAll]
  | _ :: _, [] => by simp [PyData.eqvAll]
  | x :: xs, y :: ys => by
    rw [List.map_cons, List.map_cons]
    show (PyData.eqv _ _ && PyData.eqvAll _ _) = _
    rw [d.eq, eqAll d xs ys]
    by_cases h1 : x = y <;> by_cases h2 : xs = ys <;> simp [h1, h2]
instance [DecidableEq α] [d : Dat t K] : Dat (yL t) K := {
  toD := fun xs => .list (xs.map d.toD)
  dp := fun s ⟨p, vs, e, h, _, r⟩ => by rw [e]; exact .lst (SqL.of (s _ _ h)) (dpAll d s r)
  dep := d.dep + 1
  sh := fun ⟨_, _, _, _, _, r⟩ => ⟨(shAll d r).1, Nat.succ_le_succ (shAll d r).2⟩
  eq := fun xs ys => eqAll d xs ys }
instance [DecidableEq α] [d : Dat t K] : Dat (yT t) K := {
  toD := fun xs => .tuple (xs.map d.toD)
  dp := fun s ⟨p, vs, e, h, _, r⟩ => by rw [e]; exact .tup (SqT.of (s _ _ h)) (dpAll d s r)
  dep := d.dep + 1
  sh := fun ⟨_, _, _, _, _, r⟩ => ⟨(shAll d r).1, Nat.succ_le_succ (shAll d r).2⟩
  eq := fun xs ys => eqAll d xs ys }
instance [DecidableEq α] [DecidableEq β] [d : Dat t K] [f : Dat u K] : Dat (yP t u) K := {
  toD := fun x => .tuple [d.toD x.1, f.toD x.2]
  dp := fun s ⟨p, v, w, e, h, r1, r2⟩ => by rw [e]; exact .tup (SqT.of (s _ _ h)) (.cons (d.dp s r1) (.cons (f.dp s r2) .nil))
  dep := max d.dep f.dep + 1
  sh := fun ⟨_, _, _, _, _, r1, r2⟩ => by
    have h1 := d.sh r1
    have h2 := f.sh r2
    refine ⟨?_, ?_⟩
    · show (PyData.canLay0 _ && (PyData.canLay0 _ && true)) = true
      rw [h1.1, h2.1]
      rfl
    · show max (PyData.depth _) (max (PyData.depth _) 0) + 1 ≤ _
      have := h1.2
      have := h2.2
      omega
  eq := fun x y => by
    show (PyData.eqv _ _ && (PyData.eqv _ _ && true)) = _
    rw [d.eq, f.eq]
    obtain ⟨a, b⟩ := x
    obtain ⟨a', b'⟩ := y
    by_cases h1 : a = a' <;> by_cases h2 : b = b' <;> simp [h1, h2] }
end

/-! ### defs of the text by their bundles -/
section
variable {P : Program} {w : World} {K : PySem.W.Frag} {mg : Str → Option Value} {base : Heap}
structure Cl (P : Program) (w : World) (K : PySem.W.Frag) (mg : Str → Option Value) (base : Heap) (k : Nat) (x : Str) (sp : Sp) : Prop where
  ex : ∃ (f : Addr) (fd : FuncData) (ps : List Str), FnOk P w K mg base (L2.CX P w) k f fd ps sp ∧ mg x = some (.ref f) ∧ PySem.W.keepIn K (.ref f) = true ∧ Binds K fd ps []
structure Mt (P : Program) (w : World) (K : PySem.W.Frag) (mg : Str → Option Value) (base : Heap) (k : Nat) (C : Addr) (m : Str) (sp : Sp) : Prop where
  ex : ∃ (f : Addr) (fd : FuncData) (ps : List Str), Cls K C ∧ Meth K C m f ∧ FnOk P w K mg base (L2.CX P w) k f fd ps sp ∧ Binds K fd ps []
structure Mkr (P : Program) (w : World) (K : PySem.W.Frag) (mg : Str → Option Value) (base : Heap) (k : Nat) (x : Str) (C : Addr) (sp : Sp) : Prop where
  ex : ∃ (f : Addr) (fd : FuncData) (ps : List Str), Mk K C f ∧ FnOk P w K mg base (L2.CX P w) k f fd ps sp ∧ mg x = some (.ref C) ∧ Binds K fd ps []
/-- a def's body keeps its promise -/
theorem FunD.okC {x qual : Str} {params : Arguments} {body : List Stmt} {scope : Scope} {dvs : List V} {kws : List (Str × V)} {f : Addr} {fd : FuncData} {N ps : List Str} {k : Nat} {sp : Sp} (F : FunD K x qual params body scope dvs kws f fd) (S : FnScope N ps scope) (len : ∀ vs H Q E, sp vs H Q E → vs.length = ps.length)
    (hbody : ∀ (cdv : Value) (A : Around) (outer : List Env) (s : Shared) (H : Hp) (E : XK), Room k (A.deeper (envOfC qual scope s.heap.objs.size f cdv)) →
      ∃ t, PSs (cxOf (L2.CX P w) P w K mg base N qual scope f cdv A outer s H E) body t ∧ ∀ vs Q, sp vs H Q E → t (ends Q) (L2.start N vs) H) : FnOk P w K mg base (L2.CX P w) (k + 1) f fd ps sp :=
  F.ok S len fun cdv A outer s H vs Q E hr h => let ⟨t, a, b⟩ := hbody cdv A outer s H E hr; ⟨t, a, b vs Q h⟩
theorem lenF {A β : Type} {args : A → List Sl} {pre : A → Prop} {u : Ty β} {f : A → β} {n : Nat} (h : ∀ a, (args a).length = n) : ∀ vs H Q E, spF args pre u f vs H Q E → vs.length = n := fun vs H Q E ⟨_, a, _, hA, _⟩ => (A2.length hA).trans (h a)
theorem lenP {A β S : Type} {args : Addr → A → List Sl} {c : A → Cell} {cc : S → Cell} {pre : A → Prop} {u : Ty β} {m : A → β × S} {n : Nat} (h : ∀ p a, (args p a).length = n) : ∀ vs H Q E, spP args c cc pre u m vs H Q E → vs.length = n := fun vs H Q E ⟨_, p, a, _, _, _, _, _, hA, _⟩ => (A2.length hA).trans (h p a)
theorem lenO {A β : Type} {args : A → List Sl} {pre : A → Prop} {u : Ty β} {cls : Value} {f : A → Option β} {n : Nat} (h : ∀ a, (args a).length = n) : ∀ vs H Q E, spO args pre u cls f vs H Q E → vs.length = n := fun vs H Q E ⟨_, a, _, hA, _⟩ => (A2.length hA).trans (h a)
theorem passO {X : Cx} {W : WX} (tk : Takes X W) {E : XK} (hW : ∀ cls d σ H, E cls d H → W cls d σ H) : Passes (L2.CX X.prog X.w) X E := passes_call tk hW
end
section
variable {X : Cx} {k j : Nat} {C : Addr} {x m : Str} {sp : Sp} {p pos apos : Pos} {e o : Expr} {es : List Expr} {ta : TE} {t : TA} {E : XK}
theorem pe_cl (c : Cl X.prog X.w X.K X.mg X.base k x sp) (hr : Room j X.A) (hk : k ≤ j) (hg : Gl X x) (hx : Passes (L2.CX X.prog X.w) X E) (ha : PA X (e :: es) t)
    (hdb : (x == ("__debug__" : Str)) = false := by decide) (he : starEach (e :: es) X.env = (false, eval e X.env) :: starEach es X.env := by rfl) (hpl : (backTo pos (starEach es X.env)).any (·.1) = false := by rfl) :
    PE X (.Call (.Name x p) (e :: es) [] pos) (tCall sp [] E t) := by
  obtain ⟨f, fd, ps, F, hm, kp, b⟩ := c.ex
  exact pe_call F (hr.mono hk) hg hm kp b .nil hx ha hdb he hpl
theorem pe_cl0 (c : Cl X.prog X.w X.K X.mg X.base k x sp) (hr : Room j X.A) (hk : k ≤ j) (hg : Gl X x) (hx : Passes (L2.CX X.prog X.w) X E)
    (hdb : (x == ("__debug__" : Str)) = false := by decide) : PE X (.Call (.Name x p) [] [] pos) (tCall sp [] E tNil) := by
  obtain ⟨f, fd, ps, F, hm, kp, b⟩ := c.ex
  exact pe_call0 F (hr.mono hk) hg hm kp b .nil hx hdb
theorem pe_clS {W : WX} (c : Cl X.prog X.w X.K X.mg X.base k x sp) (hr : Room j X.A) (hk : k ≤ j) (hg : Gl X x) (tk : Takes X W) (ha : PA X (e :: es) t)
    (hdb : (x == ("__debug__" : Str)) = false := by decide) (he : starEach (e :: es) X.env = (false, eval e X.env) :: starEach es X.env := by rfl) (hpl : (backTo pos (starEach es X.env)).any (·.1) = false := by rfl) :
    PE X (.Call (.Name x p) (e :: es) [] pos) (tCallS sp (WE W) t) := by
  obtain ⟨f, fd, ps, F, hm, kp, b⟩ := c.ex
  exact pe_callS F (hr.mono hk) hg hm kp b (fun σ => passAt tk σ) ha hdb he hpl
theorem pe_mkr (c : Mkr X.prog X.w X.K X.mg X.base k x C sp) (hr : Room j X.A) (hk : k + 1 ≤ j) (hg : Gl X x) (hx : Passes (L2.CX X.prog X.w) X E) (ha : PA X (e :: es) t)
    (hdb : (x == ("__debug__" : Str)) = false := by decide) (he : starEach (e :: es) X.env = (false, eval e X.env) :: starEach es X.env := by rfl) (hpl : (backTo pos (starEach es X.env)).any (·.1) = false := by rfl) :
    PE X (.Call (.Name x p) (e :: es) [] pos) (tMake C sp [] E t) := by
  obtain ⟨f, fd, ps, M, F, hm, b⟩ := c.ex
  exact pe_make M F (hr.mono hk) hg hm b .nil hx ha hdb he hpl
theorem pe_mkr0 (c : Mkr X.prog X.w X.K X.mg X.base k x C sp) (hr : Room j X.A) (hk : k + 1 ≤ j) (hg : Gl X x) (hx : Passes (L2.CX X.prog X.w) X E)
    (hdb : (x == ("__debug__" : Str)) = false := by decide) : PE X (.Call (.Name x p) [] [] pos) (tMake C sp [] E tNil) := by
  obtain ⟨f, fd, ps, M, F, hm, b⟩ := c.ex
  exact pe_make0 M F (hr.mono hk) hg hm b .nil hx hdb
theorem pe_mth {pl : Sem Bool} (c : Mt X.prog X.w X.K X.mg X.base k C m sp) (hr : Room j X.A) (hk : k ≤ j) (hx : Passes (L2.CX X.prog X.w) X E) (he : PE X o ta) (ha : PA X (e :: es) t)
    (hst : starEach (e :: es) X.env = (false, eval e X.env) :: starEach es X.env := by rfl) (hpl : (backTo pos (starEach es X.env)).any (·.1) = false := by rfl)
    (ht : eval (.Call (.Attribute o m apos) (e :: es) [] pos) X.env = (do
      let ov ← eval o X.env
      standAt apos.atName
      let (f, first) ← holding [ov] (getMethod ov m pl)
      callWith pos f first (backTo pos (starEach (e :: es) X.env)) (backToKw pos (keywordEach [] X.env))) := by rfl) :
    PE X (.Call (.Attribute o m apos) (e :: es) [] pos) (tMeth C m sp [] E ta t) := by
  obtain ⟨f, fd, ps, hc, hm, F, b⟩ := c.ex
  exact pe_meth (pl := pl) he hc hm F (hr.mono hk) b .nil hx ha hst hpl ht
theorem pe_mth0 {pl : Sem Bool} (c : Mt X.prog X.w X.K X.mg X.base k C m sp) (hr : Room j X.A) (hk : k ≤ j) (hx : Passes (L2.CX X.prog X.w) X E) (he : PE X o ta)
    (ht : eval (.Call (.Attribute o m apos) [] [] pos) X.env = (do
      let ov ← eval o X.env
      standAt apos.atName
      let (f, first) ← holding [ov] (getMethod ov m pl)
      callWith pos f first (backTo pos (starEach [] X.env)) (backToKw pos (keywordEach [] X.env))) := by rfl) :
    PE X (.Call (.Attribute o m apos) [] [] pos) (tMeth C m sp [] E ta tNil) := by
  obtain ⟨f, fd, ps, hc, hm, F, b⟩ := c.ex
  exact pe_meth0 (pl := pl) he hc hm F (hr.mono hk) b .nil hx ht
/-- X() of an own error class without own __init__ -/
theorem pmk_own0 {bmB : List Value} {B newId initId : String} (F : ExcBaseFacts B newId initId bmB) (q : PySem.W.excIn X.K C bmB newId = true) (gC : X.mg x = some (.ref C)) (kC : PySem.W.keepIn X.K (.ref C) = true) (r : Raises X (.ref C)) (hg : Gl X x)
    (hdb : (x == ("__debug__" : Str)) = false := by decide) : PMk X (.Call (.Name x p) [] [] pos) (fun _ H Q => Q (.ref C) none H) := by
  intro pins s σ H Q I h
  refine wpAny_Call_Name_kw (ld_glob I hg gC ?_ hdb)
  refine PySem.W.callWith_K0 I.kIn kC ?_
  show wpAny _ _ (call (.ref C) []) _ _ _
  obtain ⟨bm, N, nm, qn, bs, hdct, sn, sub, ab, col, dd, k0, k1, k2, k3, k5, mN, hC, hN, hni, T⟩ := exc_obj I.kIn q
  refine wpAny_call_exc_subT F T hC hN hni (fun h' e hm => ?_) (Nat.zero_le _)
  exact mk_of I hm r h (I.hok.gone hm.new)
end
end TL
namespace TL
open PySem L2 PyProof.Rows

section
variable {F : Fx} {O O1 O2 O3 O' : Own} {l l' : Lc} {α β γ ρ S T A : Type} {K : PySem.W.Frag}
  {ta tb tc te : TE} {t : Ty α} {u : Ty β} {w : Ty γ} {a : α} {b : β} {c : γ} {D : Ends} {P : ρ → Prop} {r : ρ}

/-! ### defs that return a new list -/
def spL (args : A → List Sl) (pre : A → Prop) (t : Ty β) (f : A → List β) : Sp := fun vs H Q _ =>
  ∃ (M : List Addr) (a : A), (∀ m ∈ M, H m ≠ none) ∧ AOk (bar H M) vs (args a) ∧ pre a ∧ ∀ p vs' H', Same H H' → H p = none → H' p = none → vs'.length ≤ sizeLine → A2 (t.rp (bar H' M)) vs' (f a) → Q (.ref p) (upd H' p (.lst vs'))
theorem ev_callL {args : A → List Sl} {pre : A → Prop} {f : A → List β} {tr : TA} {sls : List Sl} {E : XK} (a : A) (h : EvA F O l tr sls O') (e : sls = args a) (hp : pre a) : EvL F O l (tCall (spL args pre u f) [] E tr) u (f a) O' := fun σ H k Q q =>
  h σ H k _ fun vs H1 s1 k1 r1 => by
    subst e
    rw [List.append_nil]
    exact ⟨ad F O', a, k1.hx.adom, r1, hp, fun p vs' H' s n0 n1 hl hA => q p vs' H' (s1.grow s) (k1.grow s) n1 (k1.hx.fresh0 n0) hl hA⟩
theorem lenL {args : A → List Sl} {pre : A → Prop} {u : Ty β} {f : A → List β} {n : Nat} (h : ∀ a, (args a).length = n) : ∀ vs H Q E, spL args pre u f vs H Q E → vs.length = n := fun vs H Q E ⟨_, a, _, hA, _⟩ => (A2.length hA).trans (h a)
def OutsL (F : Fx) (t : Ty α) (rt : VK) (xs : List α) : Prop := F.W = [] ∧ ∀ p vs H', Frm F.W F.H0 H' → F.H0 p = none → H' p = none → vs.length ≤ sizeLine → A2 (t.rp (bar H' F.M)) vs xs → rt (.ref p) (upd H' p (.lst vs))
theorem run_L {args : A → List Sl} {pre : A → Prop} {u : Ty β} {f : A → List β} {N : List Str} {tf : TS}
    (hb : ∀ F a rt, pre a → Bd F [] (slots (args a) N.length) tf (ends rt) (OutsL F u rt) (f a)) : ∀ vs H Q E, spL args pre u f vs H Q E → tf (ends Q) (L2.start N vs) H := by
  rintro vs H Q E ⟨M, a, hM, hA, hp, hQ⟩
  refine hb ⟨H, [], M⟩ a Q hp ⟨rfl, fun p vs' H' fr n0 n1 hl hr => hQ p vs' H' (fun b o h => fr b o h List.not_mem_nil) n0 n1 hl hr⟩ _ H ⟨?_, ⟨[], .nil⟩, ?_⟩
  · exact start_ok hA
  · exact ⟨fun q hq => (by cases hq), List.nodup_nil, fun q hq => (by cases hq), fun q hq => (by cases hq), fun b hb => hM b (hb.elim (fun z => by cases z) id), Frm.refl⟩
theorem b_retL {xs : List α} (he : EvL F O l te t xs O1) (h : P r → OutsL F t D.rt xs) : Bd F O l (tRet te) D P r := fun p σ H k => he σ H k _ fun q vs H1 s k1 np n0 hl hr => (h p).2 q vs H1 k1.hx.keep n0 np hl (hr.imp fun _ _ z => t.mono (bar_mono fun b hb => List.mem_append_right _ hb) z)
theorem b_retOwn {xs : List α} {p : Addr} (k : Nat) (he : Ev F O l te (yV (.ref p)) () O1) (hk : O1[k]? = some (p, cL t xs)) (h : P r → OutsL F t D.rt xs) : Bd F O l (tRet te) D P r := fun hr σ H kk =>
  he σ H kk _ fun v H1 s1 k1 r1 => by
    obtain ⟨o, ho, vs, e, hl, rr⟩ := own_at k1.hx hk
    subst e
    have r1' : v = .ref p := r1
    subst r1'
    obtain ⟨hW, hR⟩ := h hr
    have hm := List.mem_of_getElem? hk
    have n0 : F.H0 p = none := (k1.hx.acc _ hm).elim (fun z => by rw [hW] at z; cases z) id
    have := hR p vs (cut H1 p) (fun b ob hb hw => by rw [cut_ne (fun z => by rw [z, n0] at hb; cases hb)]; exact k1.hx.keep b ob hb hw) n0 cut_same hl
      (rr.imp fun _ _ z => t.mono (fun b ob hb => by
        obtain ⟨h1, h2⟩ := bar_some.mp hb
        refine bar_some.mpr ⟨fun z => h1 (List.mem_append_right _ z), ?_⟩
        rw [cut_ne (fun z => h1 (List.mem_append_left _ (by rw [z]; exact List.mem_map_of_mem hm)))]
        exact h2) z)
    rwa [upd_cut ho] at this

/-! ### two unlike things in a list -/
def yQ (t : Ty α) (u : Ty β) : Ty (α × β) :=
  ⟨fun H v x => ∃ a p q, v = .ref a ∧ H a = some (.lst [p, q]) ∧ t.rp H p x.1 ∧ u.rp H q x.2,
   fun s ⟨a, p, q, e, h, l, r⟩ => ⟨a, p, q, e, s _ _ h, t.mono s l, u.mono s r⟩⟩
theorem ev_two {tr : TA} (h : EvA F O l tr [.val t a, .val u b] O') : Ev F O l (tLst tr) (yQ t u) (a, b) O' := fun σ H k Q q =>
  h σ H k _ fun vs H1 s1 k1 r1 => by
    cases r1 with
    | cons r1 r2 =>
      cases r2 with
      | cons r2 r3 =>
        cases r3
        rename_i x y
        refine ⟨(by show 2 ≤ sizeLine; decide), fun p hp => ?_⟩
        have np := k1.hx.fresh hp
        refine q _ _ (s1.grow (Same.new hp)) (k1.grow (Same.new hp)) ⟨p, x, y, rfl, bar_some.mpr ⟨np, upd_same⟩, t.mono (bar_same (Same.new hp)) (slv r1), u.mono (bar_same (Same.new hp)) (slv r2)⟩
theorem ev_fstQ {x : α × β} (ha : Ev F O l ta (yQ t u) x O1) : Ev F O l (tOp (rIxL K) ta (tC (.int 0))) t x.1 O1 :=
  ev_op ha ev_int fun H z y hx e1 e2 Q q => by
    obtain ⟨p, v1, v2, e, hp, r1, r2⟩ := e1
    exact ⟨p, _, 0, v1, e, e2, SqL.of (bar_some.mp hp).2, rfl, q v1 H (same_refl _) r1⟩
theorem ev_sndQ {x : α × β} (ha : Ev F O l ta (yQ t u) x O1) : Ev F O l (tOp (rIxL K) ta (tC (.int 1))) u x.2 O1 :=
  ev_op ha ev_int fun H z y hx e1 e2 Q q => by
    obtain ⟨p, v1, v2, e, hp, r1, r2⟩ := e1
    exact ⟨p, _, 1, v2, e, e2, SqL.of (bar_some.mp hp).2, rfl, q v2 H (same_refl _) r2⟩
instance : HasTy (yQ t u) K (.type "list") := ⟨fun s ⟨p, x, y, e, h, _⟩ => by rw [e]; exact .base (.lst (s _ _ h))⟩
instance [DecidableEq α] [DecidableEq β] [d : Dat t K] [f : Dat u K] : Dat (yQ t u) K := {
  toD := fun x => .list [d.toD x.1, f.toD x.2]
  dp := fun s ⟨p, v, w, e, h, r1, r2⟩ => by rw [e]; exact .lst (SqL.of (s _ _ h)) (.cons (d.dp s r1) (.cons (f.dp s r2) .nil))
  dep := max d.dep f.dep + 1
  sh := fun ⟨_, _, _, _, _, r1, r2⟩ => by
    have h1 := d.sh r1
    have h2 := f.sh r2
    refine ⟨?_, ?_⟩
    · show (PyData.canLay0 _ && (PyData.canLay0 _ && true)) = true
      rw [h1.1, h2.1]
      rfl
    · show max (PyData.depth _) (max (PyData.depth _) 0) + 1 ≤ _
      have := h1.2
      have := h2.2
      omega
  eq := fun x y => by
    show (PyData.eqv _ _ && (PyData.eqv _ _ && true)) = _
    rw [d.eq, f.eq]
    obtain ⟨a, b⟩ := x
    obtain ⟨a', b'⟩ := y
    by_cases h1 : a = a' <;> by_cases h2 : b = b' <;> simp [h1, h2] }

/-! ### one of two -/
def oul {α β : Type} [Inhabited α] : α ⊕ β → α
  | .inl a => a
  | .inr _ => default
def our {α β : Type} [Inhabited β] : α ⊕ β → β
  | .inl _ => default
  | .inr b => b
theorem ev_inl (h : Ev F O l te t a O') : Ev F O l te (ySum t u) (.inl a) O' := h
theorem ev_inr (h : Ev F O l te u b O') : Ev F O l te (ySum t u) (.inr b) O' := h
theorem ev_outl [Inhabited α] {x : α ⊕ β} (h : Ev F O l te (ySum t u) x O') (hx : x.isLeft = true) : Ev F O l te t (oul x) O' := by
  cases x with
  | inl a => exact h
  | inr b => cases hx
theorem ev_outr [Inhabited β] {x : α ⊕ β} (h : Ev F O l te (ySum t u) x O') (hx : x.isLeft = false) : Ev F O l te u (our x) O' := by
  cases x with
  | inl a => cases hx
  | inr b => exact h
class Apart (t : Ty α) (u : Ty β) (K : PySem.W.Frag) [DecidableEq α] [DecidableEq β] [d : Dat t K] [f : Dat u K] : Prop where
  ne : ∀ a b, PyData.eqv (d.toD a) (f.toD b) = false ∧ PyData.eqv (f.toD b) (d.toD a) = false
instance [DecidableEq α] [DecidableEq β] [DecidableEq γ] [d : Dat t K] [f : Dat u K] [g : Dat w K] : Apart (yL t) (yP u w) K := ⟨fun a b => ⟨by show PyData.eqv (.list _) (.tuple _) = false; simp [PyData.eqv], by show PyData.eqv (.tuple _) (.list _) = false; simp [PyData.eqv]⟩⟩
instance [DecidableEq α] [DecidableEq β] [d : Dat t K] [f : Dat u K] [ap : Apart t u K] : Dat (ySum t u) K := {
  toD := fun x => match x with | .inl a => d.toD a | .inr b => f.toD b
  dp := fun {_ _ _ x} s h => match x, h with | .inl _, h => d.dp s h | .inr _, h => f.dp s h
  dep := max d.dep f.dep
  sh := fun {_ _ x} h => match x, h with
    | .inl a, h => ⟨(d.sh h).1, Nat.le_trans (d.sh h).2 (Nat.le_max_left _ _)⟩
    | .inr b, h => ⟨(f.sh h).1, Nat.le_trans (f.sh h).2 (Nat.le_max_right _ _)⟩
  eq := fun x y => match x, y with
    | .inl a, .inl b => by rw [d.eq]; by_cases h : a = b <;> simp [h]
    | .inr a, .inr b => by rw [f.eq]; by_cases h : a = b <;> simp [h]
    | .inl a, .inr b => by rw [(ap.ne a b).1]; simp
    | .inr a, .inl b => by rw [(ap.ne b a).2]; simp }
instance : Dat yS K := { toD := .str, dp := fun _ h => by rw [show _ = _ from h.1]; exact .str _, dep := 1, sh := fun h => ⟨by show PyData.canLay0 (.str _) = true; simp only [PyData.canLay0]; exact h.2, by simp [PyData.depth]⟩, eq := fun a b => by simp [PyData.eqv, Bool.beq_eq_decide_eq] }

/-! ### powers, slices, list(..), tuple(..), pop, op= -/
theorem ev_powc {i j c : Int} (ha : Ev F O l ta yI i O1) (hb : Ev F O1 l tb yI j O2) (hc : CPow i j) (e : i ^ j.toNat = c) : Ev F O l (tOp oPow ta tb) yI c O2 := (ev_pow ha hb hc).to e
theorem a2_take {R : V → α → Prop} : ∀ {vs : List V} {xs : List α} (n : Nat), A2 R vs xs → A2 R (vs.take n) (xs.take n)
  | _, _, _, .nil => by rw [List.take_nil, List.take_nil]; exact .nil
  | _, _, 0, .cons _ _ => .nil
  | _, _, n + 1, .cons r h => .cons r (a2_take n h)
theorem a2_dropV {R : V → α → Prop} : ∀ {vs : List V} {xs : List α} (n : Nat), A2 R vs xs → A2 R (vs.drop n) (xs.drop n)
  | _, _, _, .nil => by rw [List.drop_nil, List.drop_nil]; exact .nil
  | _, _, 0, .cons r h => .cons r h
  | _, _, n + 1, .cons _ h => a2_dropV n h
theorem evl_upto {xs : List α} {n : Int} (ha : Ev F O l ta (yL t) xs O1) (hb : Ev F O1 l tb yI n O2) (hn : 0 ≤ n) : EvL F O l (tSl (rSlL K) ta tNoPart (tPart tb)) t (xs.take n.toNat) O2 := fun σ H k Q q =>
  ha σ H k _ fun x H1 s1 k1 r1 => hb σ H1 k1 _ fun y H2 s2 k2 r2 => by
    obtain ⟨p, vs, e, hp, hl, r⟩ := (yL t).mono s2.same r1
    refine ⟨n, r2, p, vs, e, SqL.of (bar_some.mp hp).2, fun z hz => ?_⟩
    have e2 : L2.cutV vs none (some n) = vs.take n.toNat := by
      unfold L2.cutV
      rw [HT.sIx_none, show n = (n.toNat : Int) by omega, HT.sIx_nat, List.drop_zero, Nat.sub_zero, Int.toNat_natCast]
      rcases Nat.le_total n.toNat vs.length with h | h
      · rw [Nat.min_eq_left h]
      · rw [Nat.min_eq_right h, List.take_length, List.take_of_length_le h]
    rw [e2]
    exact q z _ H2 (s1.trans s2) k2 hz (k2.hx.fresh0 hz) (by rw [List.length_take]; omega) (a2_take _ r)
theorem evl_from {xs : List α} {n : Int} (ha : Ev F O l ta (yL t) xs O1) (hb : Ev F O1 l tb yI n O2) (hn : 0 ≤ n) : EvL F O l (tSl (rSlL K) ta (tPart tb) tNoPart) t (xs.drop n.toNat) O2 := fun σ H k Q q =>
  ha σ H k _ fun x H1 s1 k1 r1 => hb σ H1 k1 _ fun y H2 s2 k2 r2 => by
    obtain ⟨p, vs, e, hp, hl, r⟩ := (yL t).mono s2.same r1
    refine ⟨n, r2, p, vs, e, SqL.of (bar_some.mp hp).2, fun z hz => ?_⟩
    have e2 : L2.cutV vs (some n) none = vs.drop n.toNat := by
      unfold L2.cutV
      rw [HT.sIx_none, show n = (n.toNat : Int) by omega, HT.sIx_nat, Int.toNat_natCast]
      rcases Nat.le_total n.toNat vs.length with h | h
      · rw [Nat.min_eq_left h, List.take_of_length_le (by rw [List.length_drop]; omega)]
      · rw [Nat.min_eq_right h, List.drop_eq_nil_of_le h, List.drop_eq_nil_of_le (Nat.le_refl _), List.take_nil]
    rw [e2]
    exact q z _ H2 (s1.trans s2) k2 hz (k2.hx.fresh0 hz) (by rw [List.length_drop]; omega) (a2_dropV _ r)
def rListS (K : PySem.W.Frag) : List V → Hp → VK → Prop := fun xs H Q => ∃ p ys, xs = [.ref p] ∧ (SqL K H p ys ∨ SqT K H p ys) ∧ ∀ l, H l = none → Q (.ref l) (upd H l (.lst ys))
theorem evl_listL {xs : List α} (ha : Ev F O l ta (yL t) xs O1) : EvL F O l (tCB (rListS K) (tCons ta tNil)) t xs O1 := fun σ H k Q q =>
  ha σ H k _ fun x H1 s1 k1 r1 => by
    obtain ⟨p, vs, e, hp, hl, r⟩ := r1
    exact ⟨p, vs, by rw [e], .inl (SqL.of (bar_some.mp hp).2), fun z hz => q z vs H1 s1 k1 hz (k1.hx.fresh0 hz) hl r⟩
theorem evl_listT {xs : List α} (ha : Ev F O l ta (yT t) xs O1) : EvL F O l (tCB (rListS K) (tCons ta tNil)) t xs O1 := fun σ H k Q q =>
  ha σ H k _ fun x H1 s1 k1 r1 => by
    obtain ⟨p, vs, e, hp, hl, r⟩ := r1
    exact ⟨p, vs, by rw [e], .inr (SqT.of (bar_some.mp hp).2), fun z hz => q z vs H1 s1 k1 hz (k1.hx.fresh0 hz) hl r⟩
theorem evl_listO {xs : List α} {p : Addr} (k : Nat) (ha : Ev F O l ta (yV (.ref p)) () O1) (hk : O1[k]? = some (p, cL t xs) := by rfl) : EvL F O l (tCB (rListS K) (tCons ta tNil)) t xs O1 := fun σ H kk Q q =>
  ha σ H kk _ fun x H1 s1 k1 r1 => by
    obtain ⟨o, ho, vs, e, hl, r⟩ := own_at k1.hx hk
    subst e
    exact ⟨p, vs, by rw [show x = _ from r1], .inl (SqL.of ho), fun z hz => q z vs H1 s1 k1 hz (k1.hx.fresh0 hz) hl r⟩
def rTupS (K : PySem.W.Frag) : List V → Hp → VK → Prop := fun xs H Q => ∃ p ys, xs = [.ref p] ∧ ((SqL K H p ys ∧ ∀ l, H l = none → Q (.ref l) (upd H l (.tup ys))) ∨ (SqT K H p ys ∧ Q (.ref p) H))
theorem ev_tupleL {xs : List α} (ha : Ev F O l ta (yL t) xs O1) : Ev F O l (tCB (rTupS K) (tCons ta tNil)) (yT t) xs O1 := fun σ H k Q q =>
  ha σ H k _ fun x H1 s1 k1 r1 => by
    obtain ⟨p, vs, e, hp, hl, r⟩ := r1
    refine ⟨p, vs, by rw [e], .inl ⟨SqL.of (bar_some.mp hp).2, fun z hz => ?_⟩⟩
    exact q _ _ (s1.grow (Same.new hz)) (k1.grow (Same.new hz)) ⟨z, vs, rfl, bar_some.mpr ⟨k1.hx.fresh hz, upd_same⟩, hl, r.imp fun _ _ y => t.mono (bar_same (Same.new hz)) y⟩
theorem ix0_cons [Inhabited α] (x : α) (xs : List α) : ix (x :: xs) 0 = x := ix_of (by simp [atI, ixN])
theorem ev_pop0T [Inhabited α] {xs : List α} {p : Addr} (k : Nat) (he : Ev F O l te (yV (.ref p)) () O1) (hn : xs ≠ []) (hk : O1[k]? = some (p, cL t xs) := by rfl) : Ev F O l (tBM K "list" rPopAt te (tCons (tC (.int 0)) tNil)) t (ix xs 0) (O1.set k (p, cL t xs.tail)) := by
  cases xs with
  | nil => exact absurd rfl hn
  | cons x xs =>
    rw [ix0_cons]
    exact ev_pop0 k he hk
theorem ix_last [Inhabited α] (xs : List α) (x : α) : ix (xs ++ [x]) (-1) = x := ix_of (by
  unfold atI ixN
  rw [if_neg (by omega), if_pos (by rw [List.length_append, List.length_singleton]; omega)]
  show (xs ++ [x])[_]? = _
  rw [show (-1 + ((xs ++ [x]).length : Int)).toNat = xs.length by rw [List.length_append, List.length_singleton]; omega]
  simp)
theorem ev_popT [Inhabited α] {xs : List α} {p : Addr} (k : Nat) (he : Ev F O l te (yV (.ref p)) () O1) (hn : xs ≠ []) (hk : O1[k]? = some (p, cL t xs) := by rfl) : Ev F O l (tBM0 K "list" rPop te) t (ix xs (-1)) (O1.set k (p, cL t xs.dropLast)) := by
  obtain ⟨ys, y, rfl⟩ : ∃ ys y, xs = ys ++ [y] := ⟨xs.dropLast, xs.getLast hn, (List.dropLast_concat_getLast hn).symm⟩
  rw [ix_last, List.dropLast_concat]
  exact ev_pop k he hk
theorem b_augA {ts : TS} {i : Nat} {m n : Int} {k : Int → ρ} (hi : l.s[i]? = some (.val yI m)) (he : Ev F O l te yI n O1) (h : ∀ x, x = m + n → Bd F O1 (l.set i (.val yI x)) ts D P (k x)) : Bd F O l (tSeq (tAug i te (ipI fun i j => i + j)) ts) D P (bnd (m + n) k) := fun hr σ H kk => by
  obtain ⟨o, e, v, e2, r⟩ := slot_of (σ := []) (i := 0) kk.sl hi
  subst e2
  exact ⟨v, e, he σ H kk _ fun y H1 s1 k1 r1 => ⟨m, n, r, r1, h _ rfl hr _ H1 (k1.set (t := yI) (a := m + n) i rfl)⟩⟩
theorem b_augS {ts : TS} {i : Nat} {m n : Int} {k : Int → ρ} (hi : l.s[i]? = some (.val yI m)) (he : Ev F O l te yI n O1) (h : ∀ x, x = m - n → Bd F O1 (l.set i (.val yI x)) ts D P (k x)) : Bd F O l (tSeq (tAug i te (ipI fun i j => i - j)) ts) D P (bnd (m - n) k) := fun hr σ H kk => by
  obtain ⟨o, e, v, e2, r⟩ := slot_of (σ := []) (i := 0) kk.sl hi
  subst e2
  exact ⟨v, e, he σ H kk _ fun y H1 s1 k1 r1 => ⟨m, n, r, r1, h _ rfl hr _ H1 (k1.set (t := yI) (a := m - n) i rfl)⟩⟩
theorem sx_augA {ts : TS} {i : Nat} {m n : Int} (hi : l.s[i]? = some (.val yI m)) (he : Ev F O l te yI n O1) (h : Sx F O1 (l.set i (.val yI (m + n))) ts O2 l') : Sx F O l (tSeq (tAug i te (ipI fun i j => i + j)) ts) O2 l' := fun D σ H kk nx => by
  obtain ⟨o, e, v, e2, r⟩ := slot_of (σ := []) (i := 0) kk.sl hi
  subst e2
  exact ⟨v, e, he σ H kk _ fun y H1 s1 k1 r1 => ⟨m, n, r, r1, h _ _ H1 (k1.set (t := yI) (a := m + n) i rfl) nx⟩⟩
theorem sx_augS {ts : TS} {i : Nat} {m n : Int} (hi : l.s[i]? = some (.val yI m)) (he : Ev F O l te yI n O1) (h : Sx F O1 (l.set i (.val yI (m - n))) ts O2 l') : Sx F O l (tSeq (tAug i te (ipI fun i j => i - j)) ts) O2 l' := fun D σ H kk nx => by
  obtain ⟨o, e, v, e2, r⟩ := slot_of (σ := []) (i := 0) kk.sl hi
  subst e2
  exact ⟨v, e, he σ H kk _ fun y H1 s1 k1 r1 => ⟨m, n, r, r1, h _ _ H1 (k1.set (t := yI) (a := m - n) i rfl) nx⟩⟩
theorem b_pass {ts : TS} (h : Bd F O l ts D P r) : Bd F O l (tSeq tNext ts) D P r := fun hr σ H k => h hr σ H k
theorem lc_stY {g : TG} {wi : TI} {up : α → Lc → Lc} {is vs : List Nat} {xs : List α} {f : S → α → β × S} {s0 : S} {y : List β × S} (hy : y = mapS f xs s0) (Os : S → Own) (J : List α → S → Prop) (hI : Iv F O l wi t xs O1) (hg : Tg g t up is) (hw : ∀ i ∈ is, i ∈ vs) (hO : Os s0 = O1) (hn : xs.length ≤ sizeLine)
    (hJ0 : J [] s0) (hJ : ∀ pre x post s, xs = pre ++ x :: post → J pre s → J (pre ++ [x]) (f s x).2)
    (he : ∀ D gs pre x post s, xs = pre ++ x :: post → J pre s → Ev (F.more D) (Os s) (up x ((l.push gs).wipe vs)) te u (f s x).1 (Os (f s x).2)) : EvL F O l (tLc wi g tYes te vs) u y.1 (Os y.2) := by
  subst hy
  exact lc_st f Os s0 J hI hg hw hO hn hJ0 hJ he

/-! ### calls that may raise -/
def oget [Inhabited α] (o : Option α) : α := o.getD default
theorem oget_of [Inhabited α] {o : Option α} (h : o.isSome = true) : o = some (oget o) := by
  cases o with
  | none => cases h
  | some a => rfl
def oel (o : Option α) (n : β) (s : α → β) : β := match o with
  | none => n
  | some a => s a
theorem b_tryO {args : A → List Sl} {pre : A → Prop} {cls c : Value} {f : A → Option β} {tr : TA} {sls : List Sl} {i j : Nat} {ts : Addr → Value → Option Addr → TS} {Wout : WX} {k : β → ρ} {r0 : ρ} {rest : TS} (a : A) (h : EvA F O l tr sls O') (e : sls = args a) (hp : pre a)
    (hc : PySem.W.exmOne K cls c = some true) (h1 : ∀ b, f a = some b → Bd F O' (l.set j (.val u b)) rest D P (k b))
    (h2 : f a = none → ∀ (aa : Addr) (N B C : L2.St → Hp → Prop), Bd F O' (l.set i (.val (yV (.ref aa)) ())) (ts aa cls none) ⟨N, D.rt, B, C⟩ P r0) :
    Bd F O l (tSeq (fun D σ H => tSeq (tAsg (tCallS (spO args pre u cls f) (WE (wAs K c i ts Wout D)) tr) (gName j)) tNext D σ H) rest) D P (oel (f a) r0 k) := fun hr σ H kk =>
  h σ H kk _ fun vs H1 s1 k1 r1 => by
    subst e
    refine ⟨ad F O', a, k1.hx.adom, r1, hp, fun b hb v H' s r => ?_, fun hn H' s => ?_⟩
    · rw [hb] at hr
      exact h1 b hb hr _ H' ((k1.grow s).set j r)
    · rw [hn] at hr
      exact ⟨true, hc, fun _ aa haa => h2 hn aa _ _ _ hr _ H' ((k1.grow s).set (t := yV (.ref aa)) (a := ()) i rfl), fun z => nomatch z⟩
theorem nx_wk {nx : L2.St → Hp → Prop} (n : Nx F O l' nx) (h : Wk l l') : Nx F O l nx := n.wk h
theorem lit_len {xs : List α} (n : Nat) (h : xs.length = n) (k : n ≤ sizeLine) : xs.length ≤ sizeLine := h ▸ k
theorem inb0 {xs : List α} (h : xs ≠ []) : Inb xs 0 := by
  cases xs with
  | nil => exact absurd rfl h
  | cons a xs => exact ⟨by omega, by rw [List.length_cons]; omega⟩
theorem inbl {xs : List α} (h : xs ≠ []) : Inb xs (-1) := by
  cases xs with
  | nil => exact absurd rfl h
  | cons a xs => exact ⟨by rw [List.length_cons]; omega, by omega⟩
theorem b_fall {ts : TS} (h : Bd F O l ts D P r) : Bd F O l tNext { D with nx := ts D } P r := fun p σ H k => h p σ H k
theorem b_dead {ts : TS} (h : False) : Bd F O l ts D P r := h.elim
theorem tk_never {X : Cx} : Takes X (fun _ _ _ _ => False) := fun _ _ ⟨_, _, _, _, _, _, _, _, _, _, _, _, _, _, _, _, w⟩ => w.elim
/-- isinstance(e, C) in the suite of 'except .. as e' -/
def rIsX (K : PySem.W.Frag) (cls : Value) (d : Option Addr) (a : Addr) : List V → Hp → VK → Prop := fun xs H Q => ∃ D, cls = .ref D ∧ d = none ∧ ExcC K D ∧ rIsE K D a xs H Q
theorem call_isX {X : Cx} {a : Addr} {oe : Obj} {pn : List (Addr × Obj)} {cls : Value} {d : Option Addr} (hz : Zc cls d oe) (hf : ∃ vs, oe.data = .fields vs) : CallR (X.suite a ((a, oe) :: pn)) (.builtin "isinstance") (rIsX X.K cls d a) := by
  rintro pins s σ H xs us Q I r ⟨D, rfl, rfl, hC, h⟩
  exact call_isE hC hz hf pins s σ H xs us Q I r h
theorem ev_isX {C E : Addr} {aa : Addr} {bb : Bool} (hC : ExcC K E) (he : Ev F O l te (yV (.ref aa)) () O1) (h : PySem.W.kitOne K (.ref E) (.ref C) = some bb) : Ev F O l (tCB (rIsX K (.ref E) none aa) (tCons te (tCons (tC (.ref C)) tNil))) yB bb O1 :=
  ev_cb2 he ev_val fun H x y hx r1 r2 Q q => ⟨E, rfl, rfl, hC, .ref C, .ref C, bb, by rw [show x = _ from r1, show y = _ from r2], fun u hu => hu, h, q _ H (same_refl _) rfl⟩

/-! ### an owned list that is lent -/
class Flat (u : Ty β) : Prop where
  ind : ∀ {B B' : Hp} {v : V} {b : β}, u.rp B v b → u.rp B' v b
instance : Flat yI := ⟨fun h => h⟩
instance : Flat yB := ⟨fun h => h⟩
instance : Flat yS := ⟨fun h => h⟩
instance : Flat yN := ⟨fun h => h⟩
def Bw (F : Fx) (O : Own) (l l' : Lc) : Prop := ∀ σ H, Ok F O l σ H → Ok F [] l' σ H
theorem bw_all : Bw F O l l := fun σ H k => by
  have sub : ∀ b ∈ ad F [], b ∈ ad F O := fun b hb => List.mem_append_right _ hb
  obtain ⟨ws, hw⟩ := k.gh
  exact ⟨k.sl.imp fun _ _ z => z.mono (bar_mono sub), ⟨ws, hw.imp fun _ _ z => z.mono (bar_mono sub)⟩, ⟨fun q hq => (nomatch hq), List.nodup_nil, fun q hq => (nomatch hq), fun q hq => (nomatch hq), k.hx.dom, k.hx.keep⟩⟩
theorem bw_at {p : Addr} {xs : List α} (i k : Nat) (h : Bw F O l l') (hi : l.s[i]? = some (.val (yV (.ref p)) ()) := by rfl) (hk : O[k]? = some (p, cL t xs) := by rfl) : Bw F O l (l'.set i (.val (yL t) xs)) := fun σ H kk => by
  have k2 := h σ H kk
  obtain ⟨o, ho, vs, e, hl, rr⟩ := own_at kk.hx hk
  subst e
  obtain ⟨o, e1, v, e2, rv⟩ := slot_of (σ := []) (i := 0) kk.sl hi
  have sub : ∀ b ∈ ad F [], b ∈ ad F O := fun b hb => List.mem_append_right _ hb
  have np : p ∉ ad F [] := fun z => kk.hx.ndM _ (List.mem_of_getElem? hk) z
  have k3 := k2.set (t := yL t) (a := xs) (v := .ref p) i ⟨p, vs, rfl, bar_some.mpr ⟨np, ho⟩, hl, rr.imp fun _ _ z => t.mono (bar_mono sub) z⟩
  have e3 : σ.set i (some (.ref p)) = σ := by
    have rv' : v = .ref p := rv
    subst e2 rv'
    obtain ⟨hlt, e4⟩ := List.getElem?_eq_some_iff.mp e1
    rw [← e4]
    exact List.set_getElem_self hlt
  rw [e3] at k3
  exact k3
theorem ev_bor [fl : Flat u] (hb : Bw F O l l') (he : Ev F [] l' te u b []) : Ev F O l te u b O := fun σ H k Q q =>
  he σ H (hb σ H k) _ fun v H1 s1 k1 r1 => by
    have s : Same H H1 := fun a o h => s1.frm a o h List.not_mem_nil
    exact q v H1 (Mv.refl.grow s) (k.grow s) (fl.ind r1)
end
end TL
/-! plain mathematics: sizes, loops -/
namespace TL
open PySem L2

/-! ### sizes -/
def Sz (n : Nat) (x : Int) : Prop := x.natAbs < 2 ^ n
theorem sz_mono {m n : Nat} {x : Int} (h : Sz m x) (hm : m ≤ n) : Sz n x := Nat.lt_of_lt_of_le h (Nat.pow_le_pow_right (by decide) hm)
theorem sz_mul {m n : Nat} {x y : Int} (h : Sz m x) (k : Sz n y) : Sz (m + n) (x * y) := by
  unfold Sz at *
  rw [Int.natAbs_mul, Nat.pow_add]
  exact Nat.mul_lt_mul'' h k
theorem sz_add {n : Nat} {x y : Int} (h : Sz n x) (k : Sz n y) : Sz (n + 1) (x + y) := by
  unfold Sz at *
  rw [Nat.pow_succ]
  have := Int.natAbs_add_le x y
  omega
theorem sz_sub {n : Nat} {x y : Int} (h : Sz n x) (k : Sz n y) : Sz (n + 1) (x - y) := by
  unfold Sz at *
  rw [Nat.pow_succ]
  have := Int.natAbs_sub_le x y
  omega
theorem sz_neg {n : Nat} {x : Int} (h : Sz n x) : Sz n (-x) := by
  unfold Sz at *
  rwa [Int.natAbs_neg]
theorem sz_log {n : Nat} {x : Int} (h : Sz n x) (hn : 0 < n) : x.natAbs.log2 < n := by
  by_cases h0 : x.natAbs = 0
  · rw [h0]
    simpa using hn
  · exact (Nat.log2_lt h0).mpr h
theorem sz_mulW {m n : Nat} {x y : Int} (h : Sz m x) (k : Sz n y) (hm : 0 < m := by decide) (hn : 0 < n := by decide) (hs : m + n < 1000000 := by decide) : CMulW x y := by
  have h1 := sz_log h hm
  have h2 := sz_log k hn
  unfold CMulW
  omega
theorem sz_le {n : Nat} {x y : Int} (h : Sz n x) (k : y.natAbs ≤ x.natAbs) : Sz n y := Nat.lt_of_le_of_lt k h
theorem sz_divW {n : Nat} {x y : Int} (h : Sz n y) (h0 : 0 < y) (hn : 0 < n := by decide) (hs : n ≤ 9000 := by decide) : CDivW x y := ⟨h0, by have := sz_log h hn; omega⟩
theorem sz_divZ {n : Nat} {x y : Int} (h : Sz n y) (h0 : y ≠ 0) (hn : 0 < n := by decide) (hs : n ≤ 9000 := by decide) : CDivZ x y := ⟨h0, by have := sz_log h hn; omega⟩
theorem sz_lit {n : Nat} {x : Int} (h : decide (x.natAbs < 2 ^ n) = true) : Sz n x := by
  unfold Sz
  exact of_decide_eq_true h

theorem bnd_eq {α : Type u} {β : Type v} {a : α} {k : α → β} {r : β} (h : ∀ y, y = a → k y = r) : bnd a k = r := h a rfl
/-! ### loops -/
section
variable {S ρ α β : Type}
theorem whileL_inv {c : S → Prop} [DecidablePred c] {f : S → Stp S ρ} (J : S → Prop) (hf : ∀ s, J s → c s → ∃ s', f s = .go s' ∧ J s') : ∀ (n : Nat) (s : S), J s → ∃ s', whileL c f n s = .go s' ∧ J s'
  | 0, s, h => ⟨s, rfl, h⟩
  | n + 1, s, h => by
    show ∃ s', (if c s then (f s).bnd (whileL c f n) else .go s) = .go s' ∧ J s'
    by_cases hc : c s
    · rw [if_pos hc]
      obtain ⟨s1, e, h1⟩ := hf s h hc
      rw [e]
      exact whileL_inv J hf n s1 h1
    · rw [if_neg hc]
      exact ⟨s, rfl, h⟩
/-- .. with the test false at the end -/
theorem whileL_end {c : S → Prop} [DecidablePred c] {f : S → Stp S ρ} (J : S → Prop) (μ : S → Nat) (hf : ∀ s, J s → c s → ∃ s', f s = .go s' ∧ J s' ∧ μ s' < μ s) : ∀ (n : Nat) (s : S), J s → μ s < n → ∃ s', whileL c f n s = .go s' ∧ J s' ∧ ¬ c s'
  | 0, s, h, hn => absurd hn (Nat.not_lt_zero _)
  | n + 1, s, h, hn => by
    show ∃ s', (if c s then (f s).bnd (whileL c f n) else .go s) = .go s' ∧ J s' ∧ ¬ c s'
    by_cases hc : c s
    · rw [if_pos hc]
      obtain ⟨s1, e, h1, h2⟩ := hf s h hc
      rw [e]
      exact whileL_end J μ hf n s1 h1 (by omega)
    · rw [if_neg hc]
      exact ⟨s, rfl, h, hc⟩
/-- a loop that never returns keeps what its turns keep -/
theorem forL_go {f : S → α → Stp S ρ} (J : List α → S → Prop) : ∀ (xs pre : List α) (s : S), J pre s → (∀ p x q s, pre ++ xs = p ++ x :: q → J p s → ∃ s', f s x = .go s' ∧ J (p ++ [x]) s') → ∃ s', forL f xs s = .go s' ∧ J (pre ++ xs) s'
  | [], pre, s, h, _ => ⟨s, rfl, by rw [List.append_nil]; exact h⟩
  | x :: xs, pre, s, h, hf => by
    obtain ⟨s1, e, h1⟩ := hf pre x xs s rfl h
    obtain ⟨s2, e2, h2⟩ := forL_go J xs (pre ++ [x]) s1 h1 (fun p y q s e3 => hf p y q s (by rw [← e3, List.append_assoc]; rfl))
    refine ⟨s2, ?_, by rw [List.append_assoc] at h2; exact h2⟩
    show (f s x).bnd (forL f xs) = _
    rw [e]
    exact e2
theorem forL_go0 {f : S → α → Stp S ρ} (J : List α → S → Prop) {xs : List α} {s : S} (h : J [] s) (hf : ∀ p x q s, xs = p ++ x :: q → J p s → ∃ s', f s x = .go s' ∧ J (p ++ [x]) s') : ∃ s', forL f xs s = .go s' ∧ J xs s' := forL_go J xs [] s h hf
/-- every turn goes on: nothing is changed -/
theorem forL_unit {f : Unit → α → Stp Unit ρ} {xs : List α} (h : ∀ x ∈ xs, f () x = .go ()) : forL f xs () = .go () := by
  obtain ⟨s, e, _⟩ := forL_go (f := f) (fun _ _ => True) xs [] () trivial (fun p x q s e _ => ⟨(), h x (by rw [show xs = p ++ x :: q from e]; simp), trivial⟩)
  exact e
theorem mapS_inv {f : S → α → β × S} (J : S → Prop) (R : β → Prop) (hf : ∀ s x, J s → R (f s x).1 ∧ J (f s x).2) : ∀ (xs : List α) (s : S), J s → (∀ y ∈ (mapS f xs s).1, R y) ∧ J (mapS f xs s).2 ∧ (mapS f xs s).1.length = xs.length
  | [], s, h => ⟨fun _ z => (nomatch z), h, rfl⟩
  | x :: xs, s, h => by
    obtain ⟨h1, h2⟩ := hf s x h
    obtain ⟨h3, h4, h5⟩ := mapS_inv J R hf xs _ h2
    refine ⟨fun y hy => ?_, h4, congrArg Nat.succ h5⟩
    rcases List.mem_cons.mp hy with e | e
    · rw [e]; exact h1
    · exact h3 y e
theorem mem_rng {lo x : Int} {n : Nat} (h : x ∈ rng lo n) : lo ≤ x ∧ x < lo + n := by
  unfold rng at h
  obtain ⟨i, hi, e⟩ := List.mem_map.mp h
  have := List.mem_range.mp hi
  omega
theorem ix_mem {α : Type} [Inhabited α] {xs : List α} {i : Int} (h : Inb xs i) : ix xs i ∈ xs := by
  obtain ⟨j, e, hj⟩ := ixN_of h
  have : atI xs i = xs[j]? := by unfold atI; rw [e]; rfl
  rw [ix_of (x := xs[j]) (by rw [this]; exact List.getElem?_eq_getElem hj)]
  exact List.getElem_mem hj
end

/-! ### the greatest common divisor -/
theorem fmod_abs_lt (a : Int) {b : Int} (h : b ≠ 0) : (a.fmod b).natAbs < b.natAbs := by
  rcases Int.lt_or_lt_of_ne h with hb | hb
  · have h1 : a.fmod b = -((-a).fmod (-b)) := by rw [Int.neg_fmod_neg]; omega
    have h2 := Int.fmod_nonneg_of_pos (-a) (b := -b) (by omega)
    have h3 := Int.fmod_lt_of_pos (-a) (b := -b) (by omega)
    omega
  · have h2 := Int.fmod_nonneg_of_pos a hb
    have h3 := Int.fmod_lt_of_pos a hb
    omega
theorem gcd_fmod (a b : Int) : Int.gcd b (a.fmod b) = Int.gcd a b := by
  rw [Int.fmod_def, Int.gcd_sub_mul_left_right, Int.gcd_comm]
theorem gcd_loop {ρ : Type} {f : Int × Int → Stp (Int × Int) ρ} (hf : ∀ s, f s = .go (s.2, s.1.fmod s.2)) (a b : Int) (n : Nat) (hn : b.natAbs < n) : ∃ g, whileL (fun s : Int × Int => ¬ s.2 = 0) f n (a, b) = .go (g, 0) ∧ g.natAbs = Int.gcd a b ∧ (0 ≤ a → 0 ≤ b → 0 ≤ g) := by
  obtain ⟨s, e, ⟨h1, h2⟩, h3⟩ := whileL_end (c := fun s : Int × Int => ¬ s.2 = 0) (f := f) (fun s => Int.gcd s.1 s.2 = Int.gcd a b ∧ (0 ≤ a → 0 ≤ b → 0 ≤ s.1 ∧ 0 ≤ s.2)) (fun s => s.2.natAbs)
    (fun s hJ hc => ⟨_, hf s, ⟨(gcd_fmod _ _).trans hJ.1, fun ha hb => ⟨(hJ.2 ha hb).2, Int.fmod_nonneg (hJ.2 ha hb).1 (hJ.2 ha hb).2⟩⟩, fmod_abs_lt _ hc⟩) n (a, b) ⟨rfl, fun ha hb => ⟨ha, hb⟩⟩ hn
  obtain ⟨g, z⟩ := s
  have hz : z = 0 := Decidable.of_not_not h3
  subst hz
  exact ⟨g, e, by rw [← h1]; simp, fun ha hb => (h2 ha hb).1⟩
end TL
namespace TL
open PySem L2 PyProof.Rows
section
variable {A A2 S S2 β : Type} {K : PySem.W.Frag}
theorem ok_P {c : A → Cell} {args : Addr → A → List Sl} {H : Hp} {M : List Addr} {p : Addr} {a : A} {o : HO} {vs : List V} {N : List Str} (hpM : p ∉ M) (hM : ∀ m ∈ M, H m ≠ none) (hp0 : H p = some o) (hc : (c a).ok (bar H (p :: M)) o) (hA : AOk (bar H (p :: M)) vs (args p a)) :
    Ok ⟨H, [p], M⟩ [(p, c a)] (slots (args p a) N.length) (L2.start N vs) H := by
  refine ⟨?_, ⟨[], .nil⟩, ?_⟩
  · exact start_ok hA
  · exact ⟨fun q hq => by rw [List.mem_singleton.mp hq]; exact ⟨o, hp0, hc⟩, List.nodup_cons.mpr ⟨List.not_mem_nil, List.nodup_nil⟩, fun q hq => by rw [List.mem_singleton.mp hq]; exact hpM, fun q hq => by rw [List.mem_singleton.mp hq]; exact .inl List.mem_cons_self,
      fun b hb z => hb.elim (fun y => by rw [List.mem_singleton.mp y, hp0] at z; cases z) (fun y => hM b y z), Frm.refl⟩
/-- what fn_super asks of a body: the call of super's method, the rest -/
theorem super_go {C : Addr} {ns : List Str} {sl : A → List Sl} {args : Addr → A → List Sl} {cc : S → Cell} {pre : A → Prop} {u : Ty β} {m : A → β × S} {args2 : Addr → A2 → List Sl} {c2 : A2 → Cell} {cc2 : S2 → Cell} {pre2 : A2 → Prop} {m2 : A2 → Unit × S2} {N : List Str} {tA : TA} {t : TS} {vs : List V} {H : Hp} {Q : VK} {E : XK} {f2 : Addr}
    (h : spP args (fun a => cO C ns (sl a)) cc pre u m vs H Q E) (h0 : ∀ p a, ∃ r, args p a = .val (yV (.ref p)) () :: r)
    (hb : ∀ F p a rt, pre a → ∃ a2 sls, EvA F [(p, cO C ns (sl a))] (slots (args p a) N.length) tA sls [(p, cO C ns (sl a))] ∧ Sl.val (yV (.ref p)) () :: sls = args2 p a2 ∧ cO C ns (sl a) = c2 a2 ∧ pre2 a2 ∧ Bd F [(p, cc2 (m2 a2).2)] (slots (args p a) N.length) t (ends rt) (OutsP F p cc u rt) (m a)) :
    ∃ x dx fs, vs[0]? = some (.ref x) ∧ H x = some (.ins C dx fs) ∧ ∀ q, H q = none → tA (L2.start N vs) (upd H q (.met f2 x)) fun ws H1 => H1 q = some (.met f2 x) ∧ spP args2 c2 cc2 pre2 yN m2 (.ref x :: ws) H1 (fun _ H2 => t (ends Q) (L2.start N vs) H2) E0 := by
  obtain ⟨M, p, a, o, hpM, hM, hp0, hc, hA, hp, hQ⟩ := h
  have k0 : Ok ⟨H, [p], M⟩ [(p, cO C ns (sl a))] (slots (args p a) N.length) (L2.start N vs) H := ok_P (c := fun a => cO C ns (sl a)) (args := args) hpM hM hp0 hc hA
  obtain ⟨dx, vs', eo, hk⟩ := id hc
  obtain ⟨r0, er0⟩ := h0 p a
  have hv0 : vs[0]? = some (.ref p) := by
    have hA' := hA
    rw [er0] at hA'
    cases hA' with
    | cons r _ =>
      obtain ⟨v, e, r⟩ := r
      cases e
      have r' : _ = V.ref p := r
      rw [r']
      rfl
  subst eo
  refine ⟨p, dx, vs', hv0, hp0, fun q hq => ?_⟩
  obtain ⟨a2, sls, hE, e1, e2, hp2, hB⟩ := hb ⟨H, [p], M⟩ p a Q hp
  have hO : OutsP ⟨H, [p], M⟩ p cc u Q (m a) := fun O l σ v H' k r => by
    obtain ⟨o', e, hok⟩ := k.hx.own _ List.mem_cons_self
    have sub : ∀ b ∈ p :: M, b ∈ ad ⟨H, [p], M⟩ ((p, cc (m a).2) :: O) := fun b hb => by
      rcases List.mem_cons.mp hb with z | z
      · rw [z]
        exact List.mem_append_left _ List.mem_cons_self
      · exact List.mem_append_right _ z
    exact hQ v H' o' k.hx.keep e (Cell.mono _ (bar_mono sub) hok) (u.mono (bar_mono sub) r)
  refine hE _ _ (k0.grow (Same.new hq)) _ fun ws H1 mv k2 r2 => ⟨?_, ?_⟩
  · refine mv.frm q _ upd_same fun z => ?_
    rw [List.mem_singleton.mp z] at hq
    rw [hp0] at hq
    cases hq
  · obtain ⟨o2, ho2, hok2⟩ := k2.hx.own _ List.mem_cons_self
    have eb : ∀ H : Hp, bar H (p :: M) = br ⟨H1, [p], M⟩ [(p, cO C ns (sl a))] H := fun H => bar_congr fun b => Iff.rfl
    have eb2 : ∀ H' : Hp, bar H' (p :: M) = br ⟨H, [p], M⟩ [(p, cO C ns (sl a))] H' := fun H' => bar_congr fun b => Iff.rfl
    refine ⟨M, p, a2, o2, hpM, fun b hb => k2.hx.dom b (.inr hb), ho2, ?_, ?_, hp2, fun v H' o' fr ho' hok' hv => ?_⟩
    · rw [← e2, eb2]
      exact hok2
    · rw [← e1, eb2]
      exact .cons (show SlOk _ (some (.ref p)) (.val (yV (.ref p)) ()) from ⟨_, rfl, rfl⟩) r2
    · rw [eb2] at hok'
      obtain ⟨k3, _⟩ := k2.chg (k := 0) (p := p) (ce := cO C ns (sl a)) (ce' := cc2 (m2 a2).2) rfl fr ho' hok'
      exact hB hO _ H' k3
/-- a def that asks super: how it stands in K -/
def SupD (P : Program) (K : PySem.W.Frag) (st : Stmt) (name qual : Str) (f D : Addr) : Prop :=
  ∃ cda cc oc od osl kV doc pm an ct, K.lookup f = some ⟨oc, od, .func (PySem.W.fnX name qual (defArgs st) (defBody st) (defScope st) [("__class__", cc)] .none kV doc pm an (.ref cda) ct), osl⟩ ∧ PySem.W.codeIn K (.ref cda) qual = true ∧ SupF P K cda cc D
end
end TL
/-! the head: facts by names, with defs that ask super -/
namespace TL
open PySem L2 PyProof.Rows
abbrev FnS : Type := Option (Str × Str × Arguments × FuncBody × Scope × Addr × List Str × Value × Addr)
def fnS (K : PySem.W.Frag) (f : Addr) : FnS := match K.lookup f with
  | some ⟨_, _, .func fd, _⟩ => some (fd.name, fd.qualname, fd.params, fd.body, fd.scope, fd.globals, fd.closure.map (·.1), fd.defaults, fd.builtins)
  | _ => none
/-- one def that asks super: its class, its name, its text -/
structure SDf where
  cls : Str
  name : Str
  qual : Str
  st : Stmt
def SDf.ad (K : PySem.W.Frag) (d : SDf) : Addr := He.ma K (He.ga K d.cls) d.name
def SDf.val (d : SDf) : FnS := some (d.name, d.qual, defArgs d.st, .stmts (defBody d.st), defScope d.st, mainGlobals, ["__class__"], .none, builtinsNs)
def supOk (P : Program) (K : PySem.W.Frag) (f D : Addr) (qual : Str) : Bool := match K.lookup f with
  | some ⟨_, _, .func fd, _⟩ => (match fd.closure with
    | [(_, cc)] => (match K.lookup cc with
      | some ⟨_, _, .cell (some (.ref E)), _⟩ => E == D
      | _ => false)
    | _ => false) && (PySem.W.codeIn K fd.code qual && ((match fd.code with
    | .ref cda => (match K.lookup cda with
      | some ⟨_, _, .fields vs, _⟩ => (match (vs[2]? : Option Value) with
        | some (Value.str file _) => (P.main.file : Str) == file
        | _ => false)
      | _ => false)
    | _ => false) && ((PySem.W.clsIn K D).isSome && !(P.main.scope.names.lookup ("super" : Str)).isSome)))
  | _ => false
theorem supD_of {P : Program} {K : PySem.W.Frag} {d : SDf} (e : fnS K (d.ad K) = d.val) (c : supOk P K (d.ad K) (He.ga K d.cls) d.qual = true) : SupD P K d.st d.name d.qual (d.ad K) (He.ga K d.cls) := by
  unfold fnS at e
  unfold supOk at c
  cases q : K.lookup (d.ad K) with
  | none =>
    rw [q] at c
    cases c
  | some o =>
    obtain ⟨oc, od, dt, osl⟩ := o
    rw [q] at c e
    cases dt with
    | func fd =>
      obtain ⟨n1, n2, n3, n4, n5, n6, n7, n8, n9, n10, n11, n12, n13, n14, n15⟩ := fd
      have e2 : (some (n1, n2, n3, n4, n5, n6, n7.map (·.1), n8, n15) : FnS) = d.val := e
      unfold SDf.val at e2
      simp only [Option.some.injEq, Prod.mk.injEq] at e2
      obtain ⟨h1, h2, h3, h4, h5, h6, h7, h8, h9⟩ := e2
      subst h1 h2 h3 h4 h5 h6 h8 h9
      obtain ⟨c1, c2⟩ := He.ba c
      obtain ⟨c3, c4⟩ := He.ba c2
      obtain ⟨c5, c6⟩ := He.ba c4
      obtain ⟨c7, c8⟩ := He.ba c6
      cases n7 with
      | nil => cases h7
      | cons p r =>
        obtain ⟨nm, cc⟩ := p
        cases r with
        | cons p2 r2 => cases h7
        | nil =>
          have hnm : nm = "__class__" := (List.cons.inj h7).1
          subst hnm
          cases q2 : K.lookup cc with
          | none =>
            simp only [q2] at c1
            cases c1
          | some oo =>
            obtain ⟨cl, cld, cdt, csl⟩ := oo
            simp only [q2] at c1
            cases cdt with
            | cell v =>
              cases v with
              | none => cases c1
              | some v =>
                cases v with
                | ref E =>
                  have hE : E = He.ga K d.cls := beq_iff_eq.mp c1
                  subst hE
                  cases n13 with
                  | ref cda =>
                    simp only at c5
                    cases q3 : K.lookup cda with
                    | none =>
                      rw [q3] at c5
                      cases c5
                    | some ooo =>
                      obtain ⟨ccl, cdd, ddt, ccs⟩ := ooo
                      rw [q3] at c5
                      cases ddt with
                      | fields vs =>
                        simp only at c5
                        cases q4 : vs[2]? with
                        | none =>
                          rw [q4] at c5
                          cases c5
                        | some fv =>
                          rw [q4] at c5
                          cases fv with
                          | str file tf =>
                            refine ⟨cda, cc, oc, od, osl, n9, n10, n11, n12, n14, q, c3, ⟨_, _, vs, _, file, tf, q3, q4, c5⟩, ⟨_, _, _, q2⟩, c7, ?_⟩
                            cases hh : (P.main.scope.names.lookup ("super" : Str)).isSome with
                            | true =>
                              rw [hh] at c8
                              cases c8
                            | false => rfl
                          | _ => cases c5
                      | _ => cases c5
                  | _ => cases c5
                | _ => cases c1
            | _ => cases c1
    | _ => cases c
abbrev AlQ : Type := He.AlD × List FnS × Bool
def obsQ (fa : List He.Fa) (fn : List He.DefD) (sd : List SDf) (ex : PySem.W.Frag → List Bool) (K : PySem.W.Frag) : AlQ := (He.obsD fa fn K, sd.map (fun d => fnS K (d.ad K)), (ex K).all id)
def valQ (fn : List He.DefD) (sd : List SDf) : AlQ := (He.valD fn, sd.map SDf.val, true)
def obsQG (n : Nat) (fa : List He.Fa) (fn : List He.DefD) (sd : List SDf) (ex : PySem.W.Frag → List Bool) (g : Addr → Option Obj) : AlQ := obsQ fa fn sd ex (He.frG g (cStatics :: He.asD g n))
def SaysQ (fa : List He.Fa) (fn : List He.DefD) (sd : List SDf) (ex : PySem.W.Frag → List Bool) (K : PySem.W.Frag) : Prop := obsQ fa fn sd ex K = valQ fn sd
def hookQ (n : Nat) (fa : List He.Fa) (fn : List He.DefD) (sd : List SDf) (ex : PySem.W.Frag → List Bool) : PySem.W.Hook where
  α := AlQ
  obs := fun s => obsQG n fa fn sd ex s.heap.get?
  val := fun _ => valQ fn sd
  says := fun _ h => ∃ K : PySem.W.Frag, K.In h ∧ SaysQ fa fn sd ex K
  of := fun _ _ e => ⟨_, He.frG_in, e⟩
  keeps := fun _ _ _ ⟨K, hK, c⟩ k => ⟨K, PySem.W.Frag.In.keeps hK k, c⟩
theorem obsQG_eq {n : Nat} {fa : List He.Fa} {fn : List He.DefD} {sd : List SDf} {ex : PySem.W.Frag → List Bool} {g : Addr → Option Obj} {s : Shared} (h : ∀ a, g a = s.heap.get? a) : obsQG n fa fn sd ex g = (hookQ n fa fn sd ex).obs s := by
  have e : g = s.heap.get? := funext h
  rw [e] <;> rfl
section
variable {fa : List He.Fa} {fn : List He.DefD} {sd : List SDf} {ex : PySem.W.Frag → List Bool} {K : PySem.W.Frag}
theorem SaysQ.d (c : SaysQ fa fn sd ex K) : He.SaysD fa fn K := congrArg (fun z : AlQ => z.1) c
theorem SaysQ.more (c : SaysQ fa fn sd ex K) (i : Nat) {b : Bool} (h : (ex K)[i]? = some b) : b = true := by
  have e : (ex K).all id = true := congrArg (fun z : AlQ => z.2.2) c
  exact List.all_eq_true.mp e b (List.mem_of_getElem? h)
theorem SaysQ.sup (c : SaysQ fa fn sd ex K) (i : Nat) {d : SDf} (h : sd[i]? = some d) : fnS K (d.ad K) = d.val := by
  have e : sd.map (fun d => fnS K (d.ad K)) = sd.map SDf.val := congrArg (fun z : AlQ => z.2.1) c
  have e2 : (sd.map (fun d => fnS K (d.ad K)))[i]? = (sd.map SDf.val)[i]? := by rw [e]
  rw [List.getElem?_map, List.getElem?_map, h] at e2
  exact Option.some.inj e2
end
theorem of_dec {p : Prop} [Decidable p] {b : Bool} (h : b = true) (e : b = decide p) : p := of_decide_eq_true (e ▸ h)

/-! ### the script -/
def yF {α : Type} (K : PySem.W.Frag) (t : Ty α) : Ty (List α) :=
  ⟨fun H v xs => ∃ a vs, v = .ref a ∧ SqL K H a vs ∧ vs.length ≤ sizeLine ∧ A2 (t.rp H) vs xs, fun s ⟨a, vs, e, h, l, p⟩ => ⟨a, vs, e, by
    rcases h with (h | ⟨o, h⟩) | h
    · exact .inl (.inl (s _ _ h))
    · exact .inl (.inr ⟨o, s _ _ h⟩)
    · exact .inr h, l, p.imp fun _ _ z => t.mono s z⟩⟩
theorem sqL_sub {K : PySem.W.Frag} {B H : Hp} {a : Addr} {vs : List V} (s : Same B H) (h : SqL K B a vs) : SqL K H a vs := by
  rcases h with (h | ⟨o, h⟩) | h
  · exact .inl (.inl (s _ _ h))
  · exact .inl (.inr ⟨o, s _ _ h⟩)
  · exact .inr h
theorem evl_uptoF {α : Type} {F : Fx} {O O1 O2 : Own} {l : Lc} {K : PySem.W.Frag} {ta tb : TE} {t : Ty α} {xs : List α} {n : Int} (ha : Ev F O l ta (yF K t) xs O1) (hb : Ev F O1 l tb yI n O2) (hn : 0 ≤ n) : EvL F O l (tSl (rSlL K) ta tNoPart (tPart tb)) t (xs.take n.toNat) O2 := fun σ H k Q q =>
  ha σ H k _ fun x H1 s1 k1 r1 => hb σ H1 k1 _ fun y H2 s2 k2 r2 => by
    obtain ⟨p, vs, e, hp, hl, r⟩ := (yF K t).mono s2.same r1
    refine ⟨n, r2, p, vs, e, sqL_sub bar_sub hp, fun z hz => ?_⟩
    have e2 : L2.cutV vs none (some n) = vs.take n.toNat := by
      unfold L2.cutV
      rw [HT.sIx_none, show n = (n.toNat : Int) by omega, HT.sIx_nat, List.drop_zero, Nat.sub_zero, Int.toNat_natCast]
      rcases Nat.le_total n.toNat vs.length with h | h
      · rw [Nat.min_eq_left h]
      · rw [Nat.min_eq_right h, List.take_length, List.take_of_length_le h]
    rw [e2]
    exact q z _ H2 (s1.trans s2) k2 hz (k2.hx.fresh0 hz) (by rw [List.length_take]; omega) (a2_take _ r)
theorem a2_ofInts {B : Hp} : ∀ ns : List Int, A2 (yI.rp B) (ns.map V.int) ns
  | [] => .nil
  | n :: ns => .cons rfl (a2_ofInts ns)
/-- the law's def, asked of a script -/
theorem law_sp {K : PySem.W.Frag} {f : List Int → Bool} {H : Hp} {a : Addr} {ns : List Int} {E : XK} (pre : List Int → Prop) (hp : pre ns) (hn : ns.length ≤ 63) (h : SqL K H a (ns.map V.int)) (ht : f ns = true) :
    spF (fun a : List Int => [.val (yF K yI) a]) pre yB f [.ref a] H (fun v _ => v = .bl true) E := by
  refine ⟨[], ns, fun _ z => (nomatch z), ?_, hp, fun v H' _ r => ?_⟩
  · refine .cons (show SlOk _ (some (.ref a)) (.val (yF K yI) ns) from ⟨_, rfl, a, ns.map V.int, rfl, ?_, ?_, a2_ofInts ns⟩) .nil
    · have e : bar H [] = H := by
        funext b
        unfold bar
        rw [if_neg List.not_mem_nil]
      rw [e]
      exact h
    · rw [List.length_map]
      exact Nat.le_trans hn (by decide)
  · rw [show v = _ from r, ht]
theorem cx_never {P : Program} {w : World} {H : Hp} {s : Shared} {e : Value} {s' : Shared} (h : L2.CX P w [] H s (fun _ _ _ => False) e s') : False := by
  obtain ⟨_, _, _, _, _, _, _, _, _, _, _, _, h⟩ := h
  exact h
end TL
set_option maxHeartbeats 1000000
namespace K04
open PySem L2 TL PyProof.Rows
def top (i : Nat) : Stmt := PySem.Challenge.pw_closefigures_k04_fractions_field.main.body.getD i (.Pass ⟨0, 0, 0, 0⟩)
def sub (i j : Nat) : Stmt := match top i with | .ClassDef _ _ _ b _ _ _ _ _ _ _ => b.getD j (.Pass ⟨0, 0, 0, 0⟩) | s => s
abbrev s_SizeError___init__ : Stmt := sub 2 0
abbrev s_NumberError___init__ : Stmt := sub 3 0
abbrev s_Ring___init__ : Stmt := sub 6 0
abbrev s_Ring_of : Stmt := sub 6 1
abbrev s_Ring_plus : Stmt := sub 6 2
abbrev s_Ring_minus : Stmt := sub 6 3
abbrev s_Ring_negated : Stmt := sub 6 4
abbrev s_Ring_times : Stmt := sub 6 5
abbrev s_Ring_is_zero : Stmt := sub 6 6
abbrev s_Field___init__ : Stmt := sub 7 0
abbrev s_Field_inv : Stmt := sub 7 1
abbrev s_Field_over : Stmt := sub 7 2
abbrev s_Whole___init__ : Stmt := sub 8 0
abbrev s_Whole_of : Stmt := sub 8 1
abbrev s_Whole_plus : Stmt := sub 8 2
abbrev s_Whole_minus : Stmt := sub 8 3
abbrev s_Whole_negated : Stmt := sub 8 4
abbrev s_Whole_times : Stmt := sub 8 5
abbrev s_Whole_is_zero : Stmt := sub 8 6
abbrev s_gcd_pair : Stmt := top 10
abbrev s_Fractions___init__ : Stmt := sub 12 0
abbrev s_Fractions_fraction : Stmt := sub 12 1
abbrev s_Fractions_of : Stmt := sub 12 2
abbrev s_Fractions_plus : Stmt := sub 12 3
abbrev s_Fractions_minus : Stmt := sub 12 4
abbrev s_Fractions_negated : Stmt := sub 12 5
abbrev s_Fractions_times : Stmt := sub 12 6
abbrev s_Fractions_is_zero : Stmt := sub 12 7
abbrev s_Fractions_inv : Stmt := sub 12 8
abbrev s_Fractions_over : Stmt := sub 12 9
abbrev s_law_start : Stmt := top 14
abbrev s_law_draw : Stmt := top 15
abbrev s_law_integer : Stmt := top 16
abbrev s_law_terms : Stmt := top 17
abbrev s_law_lowest : Stmt := top 18
abbrev s_law_is_integer : Stmt := top 19
abbrev s_law_is_fraction : Stmt := top 20
abbrev s_law_operated : Stmt := top 21
abbrev s_law_asked : Stmt := top 22
abbrev s_law_due : Stmt := top 23
abbrev s_law_is_answer : Stmt := top 24
abbrev s_law_made : Stmt := top 25
abbrev s_law_is_operated : Stmt := top 26
abbrev s_law_grown : Stmt := top 27
abbrev s_law_is_whole : Stmt := top 28
abbrev s_law_is_field : Stmt := top 29
abbrev s_law : Stmt := top 30
structure Tx (P : Program) (K : PySem.W.Frag) (mg : Str → Option Value) : Prop where
  g_gcd_pair : ∃ f fd, mg "gcd_pair" = some (.ref f) ∧ FunD K "gcd_pair" "gcd_pair" (defArgs s_gcd_pair) (defBody s_gcd_pair) (defScope s_gcd_pair) [] [] f fd
  g_law_start : ∃ f fd, mg "_law_start" = some (.ref f) ∧ FunD K "_law_start" "_law_start" (defArgs s_law_start) (defBody s_law_start) (defScope s_law_start) [] [] f fd
  g_law_draw : ∃ f fd, mg "_law_draw" = some (.ref f) ∧ FunD K "_law_draw" "_law_draw" (defArgs s_law_draw) (defBody s_law_draw) (defScope s_law_draw) [] [] f fd
  g_law_integer : ∃ f fd, mg "_law_integer" = some (.ref f) ∧ FunD K "_law_integer" "_law_integer" (defArgs s_law_integer) (defBody s_law_integer) (defScope s_law_integer) [] [] f fd
  g_law_terms : ∃ f fd, mg "_law_terms" = some (.ref f) ∧ FunD K "_law_terms" "_law_terms" (defArgs s_law_terms) (defBody s_law_terms) (defScope s_law_terms) [] [] f fd
  g_law_lowest : ∃ f fd, mg "_law_lowest" = some (.ref f) ∧ FunD K "_law_lowest" "_law_lowest" (defArgs s_law_lowest) (defBody s_law_lowest) (defScope s_law_lowest) [] [] f fd
  g_law_is_integer : ∃ f fd, mg "_law_is_integer" = some (.ref f) ∧ FunD K "_law_is_integer" "_law_is_integer" (defArgs s_law_is_integer) (defBody s_law_is_integer) (defScope s_law_is_integer) [] [] f fd
  g_law_is_fraction : ∃ f fd, mg "_law_is_fraction" = some (.ref f) ∧ FunD K "_law_is_fraction" "_law_is_fraction" (defArgs s_law_is_fraction) (defBody s_law_is_fraction) (defScope s_law_is_fraction) [] [] f fd
  g_law_operated : ∃ f fd, mg "_law_operated" = some (.ref f) ∧ FunD K "_law_operated" "_law_operated" (defArgs s_law_operated) (defBody s_law_operated) (defScope s_law_operated) [] [] f fd
  g_law_asked : ∃ f fd, mg "_law_asked" = some (.ref f) ∧ FunD K "_law_asked" "_law_asked" (defArgs s_law_asked) (defBody s_law_asked) (defScope s_law_asked) [] [] f fd
  g_law_due : ∃ f fd, mg "_law_due" = some (.ref f) ∧ FunD K "_law_due" "_law_due" (defArgs s_law_due) (defBody s_law_due) (defScope s_law_due) [] [] f fd
  g_law_is_answer : ∃ f fd, mg "_law_is_answer" = some (.ref f) ∧ FunD K "_law_is_answer" "_law_is_answer" (defArgs s_law_is_answer) (defBody s_law_is_answer) (defScope s_law_is_answer) [] [] f fd
  g_law_made : ∃ f fd, mg "_law_made" = some (.ref f) ∧ FunD K "_law_made" "_law_made" (defArgs s_law_made) (defBody s_law_made) (defScope s_law_made) [] [] f fd
  g_law_is_operated : ∃ f fd, mg "_law_is_operated" = some (.ref f) ∧ FunD K "_law_is_operated" "_law_is_operated" (defArgs s_law_is_operated) (defBody s_law_is_operated) (defScope s_law_is_operated) [] [] f fd
  g_law_grown : ∃ f fd, mg "_law_grown" = some (.ref f) ∧ FunD K "_law_grown" "_law_grown" (defArgs s_law_grown) (defBody s_law_grown) (defScope s_law_grown) [] [] f fd
  g_law_is_whole : ∃ f fd, mg "_law_is_whole" = some (.ref f) ∧ FunD K "_law_is_whole" "_law_is_whole" (defArgs s_law_is_whole) (defBody s_law_is_whole) (defScope s_law_is_whole) [] [] f fd
  g_law_is_field : ∃ f fd, mg "_law_is_field" = some (.ref f) ∧ FunD K "_law_is_field" "_law_is_field" (defArgs s_law_is_field) (defBody s_law_is_field) (defScope s_law_is_field) [] [] f fd
  g_law : ∃ f fd, mg "law" = some (.ref f) ∧ FunD K "law" "law" (defArgs s_law) (defBody s_law) (defScope s_law) [] [] f fd
  me_Fractions_fraction : ∃ f fd, Meth K (He.ga K "Fractions") "fraction" f ∧ FunD K "fraction" "Fractions.fraction" (defArgs s_Fractions_fraction) (defBody s_Fractions_fraction) (defScope s_Fractions_fraction) [] [] f fd
  me_Fractions_inv : ∃ f fd, Meth K (He.ga K "Fractions") "inv" f ∧ FunD K "inv" "Fractions.inv" (defArgs s_Fractions_inv) (defBody s_Fractions_inv) (defScope s_Fractions_inv) [] [] f fd
  me_Fractions_is_zero : ∃ f fd, Meth K (He.ga K "Fractions") "is_zero" f ∧ FunD K "is_zero" "Fractions.is_zero" (defArgs s_Fractions_is_zero) (defBody s_Fractions_is_zero) (defScope s_Fractions_is_zero) [] [] f fd
  me_Fractions_minus : ∃ f fd, Meth K (He.ga K "Fractions") "minus" f ∧ FunD K "minus" "Fractions.minus" (defArgs s_Fractions_minus) (defBody s_Fractions_minus) (defScope s_Fractions_minus) [] [] f fd
  me_Fractions_negated : ∃ f fd, Meth K (He.ga K "Fractions") "negated" f ∧ FunD K "negated" "Fractions.negated" (defArgs s_Fractions_negated) (defBody s_Fractions_negated) (defScope s_Fractions_negated) [] [] f fd
  me_Fractions_of : ∃ f fd, Meth K (He.ga K "Fractions") "of" f ∧ FunD K "of" "Fractions.of" (defArgs s_Fractions_of) (defBody s_Fractions_of) (defScope s_Fractions_of) [] [] f fd
  me_Fractions_over : ∃ f fd, Meth K (He.ga K "Fractions") "over" f ∧ FunD K "over" "Fractions.over" (defArgs s_Fractions_over) (defBody s_Fractions_over) (defScope s_Fractions_over) [] [] f fd
  me_Fractions_plus : ∃ f fd, Meth K (He.ga K "Fractions") "plus" f ∧ FunD K "plus" "Fractions.plus" (defArgs s_Fractions_plus) (defBody s_Fractions_plus) (defScope s_Fractions_plus) [] [] f fd
  me_Fractions_times : ∃ f fd, Meth K (He.ga K "Fractions") "times" f ∧ FunD K "times" "Fractions.times" (defArgs s_Fractions_times) (defBody s_Fractions_times) (defScope s_Fractions_times) [] [] f fd
  me_Whole_is_zero : ∃ f fd, Meth K (He.ga K "Whole") "is_zero" f ∧ FunD K "is_zero" "Whole.is_zero" (defArgs s_Whole_is_zero) (defBody s_Whole_is_zero) (defScope s_Whole_is_zero) [] [] f fd
  me_Whole_minus : ∃ f fd, Meth K (He.ga K "Whole") "minus" f ∧ FunD K "minus" "Whole.minus" (defArgs s_Whole_minus) (defBody s_Whole_minus) (defScope s_Whole_minus) [] [] f fd
  me_Whole_negated : ∃ f fd, Meth K (He.ga K "Whole") "negated" f ∧ FunD K "negated" "Whole.negated" (defArgs s_Whole_negated) (defBody s_Whole_negated) (defScope s_Whole_negated) [] [] f fd
  me_Whole_of : ∃ f fd, Meth K (He.ga K "Whole") "of" f ∧ FunD K "of" "Whole.of" (defArgs s_Whole_of) (defBody s_Whole_of) (defScope s_Whole_of) [] [] f fd
  me_Whole_plus : ∃ f fd, Meth K (He.ga K "Whole") "plus" f ∧ FunD K "plus" "Whole.plus" (defArgs s_Whole_plus) (defBody s_Whole_plus) (defScope s_Whole_plus) [] [] f fd
  me_Whole_times : ∃ f fd, Meth K (He.ga K "Whole") "times" f ∧ FunD K "times" "Whole.times" (defArgs s_Whole_times) (defBody s_Whole_times) (defScope s_Whole_times) [] [] f fd
  cl_Fractions : Cls K (He.ga K "Fractions")
  cl_Whole : Cls K (He.ga K "Whole")
  hc_Fractions : PySem.W.findIn K (.ref (He.ga K "Fractions")) "__class__" = some (some (.builtin "object.__class__"))
  hm_Fractions : PySem.W.mroIn K (He.ga K "Fractions") (.type "object") = some true
  hc_Whole : PySem.W.findIn K (.ref (He.ga K "Whole")) "__class__" = some (some (.builtin "object.__class__"))
  hm_Whole : PySem.W.mroIn K (He.ga K "Whole") (.type "object") = some true
  hcn : PySem.W.specialIn K (.builtin "object.__class__") "__get__" = some (some (.builtin "getset_descriptor.__get__"))
  hct : PySem.W.takesIn K (.builtin "object.__class__") = some true
  gc_ClosingError : mg "ClosingError" = some (.ref (He.ga K "ClosingError"))
  gc_Field : mg "Field" = some (.ref (He.ga K "Field"))
  gc_Fractions : mg "Fractions" = some (.ref (He.ga K "Fractions"))
  gc_NumberError : mg "NumberError" = some (.ref (He.ga K "NumberError"))
  gc_Ring : mg "Ring" = some (.ref (He.ga K "Ring"))
  gc_SizeError : mg "SizeError" = some (.ref (He.ga K "SizeError"))
  gc_Whole : mg "Whole" = some (.ref (He.ga K "Whole"))
  gc_ZeroError : mg "ZeroError" = some (.ref (He.ga K "ZeroError"))
  na_Fractions_characteristic : NoAttr K (He.ga K "Fractions") "characteristic"
  na_Fractions_one : NoAttr K (He.ga K "Fractions") "one"
  na_Fractions_size : NoAttr K (He.ga K "Fractions") "size"
  na_Fractions_zero : NoAttr K (He.ga K "Fractions") "zero"
  na_Whole_one : NoAttr K (He.ga K "Whole") "one"
  na_Whole_zero : NoAttr K (He.ga K "Whole") "zero"
  b_abs : mg "abs" = none
  b_bool : mg "bool" = none
  b_int : mg "int" = none
  b_isinstance : mg "isinstance" = none
  b_len : mg "len" = none
  b_list : mg "list" = none
  b_range : mg "range" = none
  b_sum : mg "sum" = none
  b_tuple : mg "tuple" = none
  x_ZeroError : PySem.W.excIn K (He.ga K "ZeroError") He.veBase "ValueError.__new__" = true
  k_ZeroError : PySem.W.keepIn K (.ref (He.ga K "ZeroError")) = true
  xb_ZeroError : PySem.W.subIn K (.ref (He.ga K "ZeroError")) (.type "BaseException") = some true
  xt_ZeroError : PySem.W.typeIn K (.ref (He.ga K "ZeroError")) = some (.type "type")
  em_ZeroError_ClosingError : PySem.W.exmOne K (.ref (He.ga K "ZeroError")) (.ref (He.ga K "ClosingError")) = some true
  ec_ZeroError : ExcC K (He.ga K "ZeroError")
  kx_ZeroError_NumberError : PySem.W.kitOne K (.ref (He.ga K "ZeroError")) (.ref (He.ga K "NumberError")) = some false
  kx_ZeroError_SizeError : PySem.W.kitOne K (.ref (He.ga K "ZeroError")) (.ref (He.ga K "SizeError")) = some false
  kx_ZeroError_ZeroError : PySem.W.kitOne K (.ref (He.ga K "ZeroError")) (.ref (He.ga K "ZeroError")) = some true
  ki_Fractions_Field : PySem.W.kitOne K (.ref (He.ga K "Fractions")) (.ref (He.ga K "Field")) = some true
  ki_Fractions_Ring : PySem.W.kitOne K (.ref (He.ga K "Fractions")) (.ref (He.ga K "Ring")) = some true
  ki_Whole_Ring : PySem.W.kitOne K (.ref (He.ga K "Whole")) (.ref (He.ga K "Ring")) = some true
  ii_Ring : ∃ fd, FunD K "__init__" "Ring.__init__" (defArgs s_Ring___init__) (defBody s_Ring___init__) (defScope s_Ring___init__) [] [] (He.ma K (He.ga K "Ring") "__init__") fd
  b_super : mg "super" = none
  si_Field : SupD P K s_Field___init__ "__init__" "Field.__init__" (He.ma K (He.ga K "Field") "__init__") (He.ga K "Field")
  si_Fractions : SupD P K s_Fractions___init__ "__init__" "Fractions.__init__" (He.ma K (He.ga K "Fractions") "__init__") (He.ga K "Fractions")
  si_Whole : SupD P K s_Whole___init__ "__init__" "Whole.__init__" (He.ma K (He.ga K "Whole") "__init__") (He.ga K "Whole")
  sp_Fractions_Fractions : SupC K (He.ga K "Fractions") (He.ga K "Fractions") "__init__" (He.ma K (He.ga K "Field") "__init__")
  sp_Fractions_Field : SupC K (He.ga K "Fractions") (He.ga K "Field") "__init__" (He.ma K (He.ga K "Ring") "__init__")
  sp_Whole_Whole : SupC K (He.ga K "Whole") (He.ga K "Whole") "__init__" (He.ma K (He.ga K "Ring") "__init__")
  mk_Fractions : Mk K (He.ga K "Fractions") (He.ma K (He.ga K "Fractions") "__init__")
  mk_Whole : Mk K (He.ga K "Whole") (He.ma K (He.ga K "Whole") "__init__")

section
variable {P : Program} {w : World} {K : PySem.W.Frag} {mg : Str → Option Value} {base : Heap}
abbrev ns_Fractions : List Str := ["zero", "one", "characteristic", "size"]
abbrev sl_Fractions (v : Unit) : List Sl := [.val (yP yI yI) ((0, 1) : Int × Int), .val (yP yI yI) ((1, 1) : Int × Int), .val yI (0 : Int), .val yI (0 : Int)]
abbrev y_Fractions (K : PySem.W.Frag) : Ty Unit := yO (He.ga K "Fractions") ns_Fractions sl_Fractions
theorem nd_Fractions : ns_Fractions.Nodup := by decide
theorem nm_Fractions_fraction : ("fraction" : Str) ∉ ns_Fractions := by decide
theorem nm_Fractions_inv : ("inv" : Str) ∉ ns_Fractions := by decide
theorem nm_Fractions_is_zero : ("is_zero" : Str) ∉ ns_Fractions := by decide
theorem nm_Fractions_minus : ("minus" : Str) ∉ ns_Fractions := by decide
theorem nm_Fractions_negated : ("negated" : Str) ∉ ns_Fractions := by decide
theorem nm_Fractions_of : ("of" : Str) ∉ ns_Fractions := by decide
theorem nm_Fractions_over : ("over" : Str) ∉ ns_Fractions := by decide
theorem nm_Fractions_plus : ("plus" : Str) ∉ ns_Fractions := by decide
theorem nm_Fractions_times : ("times" : Str) ∉ ns_Fractions := by decide
theorem ht_Fractions (T : Tx P K mg) : HasTy (y_Fractions K) K (.ref (He.ga K "Fractions")) := ⟨fun s ⟨a, dx, vs, e, h, _⟩ => by rw [e]; exact .base (.ins (s _ _ h) T.cl_Fractions T.hc_Fractions T.hcn T.hct T.hm_Fractions)⟩
abbrev ns_Whole : List Str := ["zero", "one"]
abbrev sl_Whole (v : Unit) : List Sl := [.val yI (0 : Int), .val yI (1 : Int)]
abbrev y_Whole (K : PySem.W.Frag) : Ty Unit := yO (He.ga K "Whole") ns_Whole sl_Whole
theorem nd_Whole : ns_Whole.Nodup := by decide
theorem nm_Whole_is_zero : ("is_zero" : Str) ∉ ns_Whole := by decide
theorem nm_Whole_minus : ("minus" : Str) ∉ ns_Whole := by decide
theorem nm_Whole_negated : ("negated" : Str) ∉ ns_Whole := by decide
theorem nm_Whole_of : ("of" : Str) ∉ ns_Whole := by decide
theorem nm_Whole_plus : ("plus" : Str) ∉ ns_Whole := by decide
theorem nm_Whole_times : ("times" : Str) ∉ ns_Whole := by decide
theorem ht_Whole (T : Tx P K mg) : HasTy (y_Whole K) K (.ref (He.ga K "Whole")) := ⟨fun s ⟨a, dx, vs, e, h, _⟩ => by rw [e]; exact .base (.ins (s _ _ h) T.cl_Whole T.hc_Whole T.hcn T.hct T.hm_Whole)⟩
theorem gcd_mu {s s' : Int × Int} (hc : ¬ s.2 = 0) (e : bnd (s.2, s.1.fmod s.2) (fun x => Stp.go (S := Int × Int) (ρ := Int) (x.1, x.2)) = Stp.go s') : s'.2.natAbs < s.2.natAbs := by
  have e2 := Stp.go.inj e
  rw [← e2]
  exact fmod_abs_lt _ hc
/-- a fraction: no zero below, less than n binary digits -/
def Fr (n : Nat) (x : Int × Int) : Prop := x.2 ≠ 0 ∧ Sz n x.1 ∧ Sz n x.2
theorem Fr.mono {m n : Nat} {x : Int × Int} (h : Fr m x) (hm : m ≤ n) : Fr n x := ⟨h.1, sz_mono h.2.1 hm, sz_mono h.2.2 hm⟩
theorem fr_big {x y : Int × Int} (h : Fr 2000 x) (k : Fr 2000 y) : Sz 4000 x.1 ∧ Sz 4000 x.2 ∧ Sz 4000 y.1 ∧ Sz 4000 y.2 := ⟨sz_mono h.2.1 (by omega), sz_mono h.2.2 (by omega), sz_mono k.2.1 (by omega), sz_mono k.2.2 (by omega)⟩
theorem fr_big1 {x : Int × Int} (h : Fr 2000 x) : Sz 4000 x.1 ∧ Sz 4000 x.2 := ⟨sz_mono h.2.1 (by omega), sz_mono h.2.2 (by omega)⟩
theorem sz_big {x y : Int} (h : Sz 4000 x) (k : Sz 4000 y) : Sz 9000 (x * y) := sz_mono (sz_mul h k) (by omega)
theorem draw_step {ρ : Type} {s s' : List Int} (hc : 1 < (s.length : Int) ∧ ix s 0 = 0) (e : Stp.go (ρ := ρ) (List.tail s) = Stp.go s') : s' ≠ [] ∧ s'.length < s.length := by
  have e2 := Stp.go.inj e
  subst e2
  have h1 := hc.1
  cases s with
  | nil => simp at h1
  | cons a s =>
    cases s with
    | nil => simp at h1
    | cons b s => exact ⟨fun z => (nomatch z), by simp⟩

theorem sc_gcd_pair : FnScope ["a", "b"] ["a", "b"] (defScope s_gcd_pair) := ⟨rfl, rfl, rfl, by decide +kernel, rfl, by decide +kernel, by decide +kernel⟩
def m_gcd_pair (a_a : Int) (a_b : Int) : Int :=
  ((whileL (fun s_1 : Int × Int => (¬ s_1.2 = (0 : Int))) (fun s_1 =>
  bnd (s_1.2, (Int.fmod s_1.1 s_1.2)) fun x_1 =>
  .go (x_1.1, x_1.2)) ((fun s => s.2.natAbs) (a_a, a_b) + 1) (a_a, a_b)).out fun s_1 =>
  ((Int.natAbs s_1.1 : Nat) : Int))
theorem gcd_pair_eq (a b : Int) : m_gcd_pair a b = (Int.gcd a b : Int) := by
  unfold m_gcd_pair
  obtain ⟨g, e, h, _⟩ := gcd_loop (ρ := Int) (f := fun s1 => bnd (s1.2, (Int.fmod s1.1 s1.2)) fun x6 => .go (x6.1, x6.2)) (fun s => rfl) a b (b.natAbs + 1) (Nat.lt_succ_self _)
  show (whileL _ _ (b.natAbs + 1) (a, b)).out _ = _
  rw [e]
  show ((Int.natAbs g : Nat) : Int) = _
  rw [h]


theorem ok_gcd_pair (T : Tx P K mg) : Cl P w K mg base 1 "gcd_pair" (spF (fun a : Int × Int => [.val yI a.1, .val yI a.2]) (fun _ : Int × Int => True) yI (fun a => m_gcd_pair a.1 a.2)) := by
  obtain ⟨f, fd, hg, FD⟩ := T.g_gcd_pair
  refine ⟨f, fd, ["a", "b"], ?_, hg, FD.kp, FD.bindsN fun _ _ _ _ _ _ us hl => match us, hl with | [_, _], _ => rfl⟩
  refine TL.FunD.okC (N := ["a", "b"]) FD sc_gcd_pair (lenF fun _ => rfl) fun cdv A outer s H E hr => ?_
  refine ⟨_, (pss_cons (ps_while (passes_of rfl) (pt_cmpR op_ne (pv 1) pe_int (nomark _)) (pss_cons (ps_par (i := 0) (j := 1) rfl sc_gcd_pair.nd rfl rfl (by decide) rfl rfl (pa_cons (pv 1) (pa_cons (pe_op op_modN (pv 0) (pv 1)) pa_nil)) (by rfl)) pss_nil)) (pss_cons (ps_ret (pe_callB call_abs (by rfl) T.b_abs (by decide +kernel) (pa_cons (pv 0) pa_nil))) pss_nil)), fun vs Q h => run_F (fun F a rt hpre => ?_) vs H Q E h⟩
  show Bd _ _ _ _ _ _ (m_gcd_pair a.1 a.2)
  unfold m_gcd_pair
  refine b_while _ _ (fun (s_1 : Int × Int) => ([] : Own)) (fun (s_1 : Int × Int) => (⟨[.val yI s_1.1, .val yI s_1.2], []⟩ : Lc)) (fun _ => True) (fun s => s.2.natAbs) (a.1, a.2) rfl ⟨(.cons (.inl rfl) (.cons (.inl rfl) .nil)), rfl⟩ trivial (fun s_1 hj_1 => (tt_n (ev_ne ev_var ev_int))) (fun s s' _ hc e => ⟨trivial, gcd_mu hc e⟩) (fun s_1 hj_1 hc_1 N B P' hgo_1 hret_1 => ?_) (fun s_1 hj_1 hc_2 => ?_)
  · refine b_letP (ea_cons ev_var (ea_cons (ev_modN ev_var ev_var (by first | omega | assumption | decide | exact ⟨by omega, by omega⟩)) ea_nil)) fun x_1 hx_1 => ?_
    exact b_next fun h => nx_wk (hgo_1 _ h) ⟨(.cons (.inl rfl) (.cons (.inl rfl) .nil)), rfl⟩
  · exact b_seq (b_ret (ev_abs ev_var) (fun h => h _))

theorem sc_Fractions_fraction : FnScope ["self", "num", "den", "shared"] ["self", "num", "den"] (defScope s_Fractions_fraction) := ⟨rfl, rfl, rfl, by decide +kernel, rfl, by decide +kernel, by decide +kernel⟩
def m_Fractions_fraction (a_self : Unit) (a_num : Int) (a_den : Int) : Option (Int × Int) :=
  (if (a_den = (0 : Int)) then
  none
  else
  bnd (m_gcd_pair a_num a_den) fun shared_1 =>
  bnd (if (a_den < (0 : Int)) then (-shared_1) else shared_1) fun shared_2 =>
  some ((Int.fdiv a_num shared_2), (Int.fdiv a_den shared_2)))
theorem fr_sh {n d s t : Int} (h1 : ¬ d = 0) (e1 : s = m_gcd_pair n d) (e2 : t = if d < 0 then -s else s) : t ≠ 0 ∧ t.natAbs = Int.gcd n d ∧ t.natAbs ≤ d.natAbs := by
  rw [gcd_pair_eq] at e1
  have hg : t.natAbs = Int.gcd n d := by
    rw [e2, e1]
    split <;> simp
  have h0 : Int.gcd n d ≠ 0 := fun z => h1 (Int.gcd_eq_zero_iff.mp z).2
  refine ⟨fun z => h0 (by rw [← hg, z]; rfl), hg, ?_⟩
  rw [hg]
  exact Nat.le_of_dvd (by omega) (by have := Int.gcd_dvd_right n d; exact Int.natAbs_dvd_natAbs.mpr this)
theorem fr_div {n d s t x : Int} (h1 : ¬ d = 0) (hp : Sz 9000 d) (e1 : s = m_gcd_pair n d) (e2 : t = if d < 0 then -s else s) : CDivZ x t := by
  obtain ⟨h2, _, h3⟩ := fr_sh h1 e1 e2
  exact sz_divZ (sz_le hp h3) h2


theorem ok_Fractions_fraction (T : Tx P K mg) : Mt P w K mg base 7 (He.ga K "Fractions") "fraction" (spO (fun a : Unit × Int × Int => [.val (y_Fractions K) a.1, .val yI a.2.1, .val yI a.2.2]) (fun a : Unit × Int × Int => Sz 9000 a.2.2) (yP yI yI) (.ref (He.ga K "ZeroError")) (fun a => m_Fractions_fraction a.1 a.2.1 a.2.2)) := by
  obtain ⟨f, fd, hm, FD⟩ := T.me_Fractions_fraction
  refine ⟨f, fd, ["self", "num", "den"], T.cl_Fractions, hm, ?_, FD.bindsN fun _ _ _ _ _ _ us hl => match us, hl with | [_, _, _], _ => rfl⟩
  refine TL.FunD.okC (N := ["self", "num", "den", "shared"]) FD sc_Fractions_fraction (lenO fun _ => rfl) fun cdv A outer s H E hr => ?_
  refine ⟨_, (pss_cons (ps_if (pt_cmpR op_eq (pv 2) pe_int (nomark _)) (pss_cons (ps_raise rfl (takes_of rfl rfl rfl rfl) (pmk_own0 PySem.F.excBase_ValueError T.x_ZeroError T.gc_ZeroError T.k_ZeroError (raises_own T.xb_ZeroError T.xt_ZeroError) (by rfl))) pss_nil) pss_nil) (pss_cons (ps_set (i := 3) sc_Fractions_fraction.nd rfl (by first | exact .inl rfl | exact .inr rfl) (pe_cl (ok_gcd_pair T) hr (by decide) (by rfl) passL (pa_cons (pv 1) (pa_cons (pv 2) pa_nil)))) (pss_cons (ps_if (pt_cmpR op_lt (pv 2) pe_int (nomark _)) (pss_cons (ps_set (i := 3) sc_Fractions_fraction.nd rfl (by first | exact .inl rfl | exact .inr rfl) (pe_un un_neg (pv 3))) pss_nil) pss_nil) (pss_cons (ps_ret (pe_tup (pa_cons (pe_op op_fdivZ (pv 1) (pv 3)) (pa_cons (pe_op op_fdivZ (pv 2) (pv 3)) pa_nil)))) pss_nil)))), fun vs Q h => run_O (fun F a rt hpre => ?_) vs H Q h⟩
  show Bd _ _ _ _ _ _ (m_Fractions_fraction a.1 a.2.1 a.2.2)
  unfold m_Fractions_fraction
  refine b_seq (b_if (tt_d (ev_eq ev_var ev_int)) (fun h_1 => ?_) (fun h_1 => ?_))
  · exact b_seq (b_raise (fun h => (h).2 rfl))
  · refine b_fall ?_
    refine b_let (ev_call (a.2.1, a.2.2) (ea_cons ev_var (ea_cons ev_var ea_nil)) rfl trivial) fun shared_1 hshared_1 => ?_
    refine b_join (fun (shared_2 : Int) => (⟨[.val (y_Fractions K) a.1, .val yI a.2.1, .val yI a.2.2, .val yI shared_2], []⟩ : Lc)) (fun (shared_2 : Int) => ([] : Own)) (tt_d (ev_lt ev_var ev_int)) (x1 := (-shared_1)) (x2 := shared_1) (fun h_2 => (sx_set (ev_neg ev_var) (sx_wk sx_next ⟨(.cons (.inl rfl) (.cons (.inl rfl) (.cons (.inl rfl) (.cons (.inl rfl) .nil)))), rfl⟩))) (fun h_2 => (sx_wk sx_next ⟨(.cons (.inl rfl) (.cons (.inl rfl) (.cons (.inl rfl) (.cons (.inl rfl) .nil)))), rfl⟩)) fun shared_2 hshared_2 => ?_
    exact b_seq (b_ret (ev_pair (ea_cons (ev_divN ev_var ev_var (by exact fr_div h_1 hpre hshared_1 hshared_2)) (ea_cons (ev_divN ev_var ev_var (by exact fr_div h_1 hpre hshared_1 hshared_2)) ea_nil))) (fun h => h.1 _ rfl _))

theorem sc_Fractions_plus : FnScope ["self", "a", "b"] ["self", "a", "b"] (defScope s_Fractions_plus) := ⟨rfl, rfl, rfl, by decide +kernel, rfl, by decide +kernel, by decide +kernel⟩
def m_Fractions_plus (a_self : Unit) (a_a : (Int × Int)) (a_b : (Int × Int)) : Option (Int × Int) :=
  (m_Fractions_fraction a_self ((a_a.1 * a_b.2) + (a_b.1 * a_a.2)) (a_a.2 * a_b.2))

theorem ok_Fractions_plus (T : Tx P K mg) : Mt P w K mg base 8 (He.ga K "Fractions") "plus" (spO (fun a : Unit × (Int × Int) × (Int × Int) => [.val (y_Fractions K) a.1, .val (yP yI yI) a.2.1, .val (yP yI yI) a.2.2]) (fun a : Unit × (Int × Int) × (Int × Int) => Sz 4000 a.2.1.1 ∧ Sz 4000 a.2.1.2 ∧ Sz 4000 a.2.2.1 ∧ Sz 4000 a.2.2.2) (yP yI yI) (.ref (He.ga K "ZeroError")) (fun a => m_Fractions_plus a.1 a.2.1 a.2.2)) := by
  obtain ⟨f, fd, hm, FD⟩ := T.me_Fractions_plus
  refine ⟨f, fd, ["self", "a", "b"], T.cl_Fractions, hm, ?_, FD.bindsN fun _ _ _ _ _ _ us hl => match us, hl with | [_, _, _], _ => rfl⟩
  refine TL.FunD.okC (N := ["self", "a", "b"]) FD sc_Fractions_plus (lenO fun _ => rfl) fun cdv A outer s H E hr => ?_
  refine ⟨_, (pss_cons (ps_ret (pe_mth (ok_Fractions_fraction T) hr (by decide) (passes_call (takes_of rfl rfl rfl rfl) (fun _ _ _ _ z => z)) (pv 0) (pa_cons (pe_op op_add (pe_op op_mulW (pe_ix ix_tup (pv 1) pe_int (fun _ _ => rfl)) (pe_ix ix_tup (pv 2) pe_int (fun _ _ => rfl))) (pe_op op_mulW (pe_ix ix_tup (pv 2) pe_int (fun _ _ => rfl)) (pe_ix ix_tup (pv 1) pe_int (fun _ _ => rfl)))) (pa_cons (pe_op op_mulW (pe_ix ix_tup (pv 1) pe_int (fun _ _ => rfl)) (pe_ix ix_tup (pv 2) pe_int (fun _ _ => rfl))) pa_nil)))) pss_nil), fun vs Q h => run_O (fun F a rt hpre => ?_) vs H Q h⟩
  obtain ⟨h1, h2, h3, h4⟩ := hpre
  show Bd _ _ _ _ _ _ (m_Fractions_plus a.1 a.2.1 a.2.2)
  unfold m_Fractions_plus
  exact b_seq (b_retMO (m := "fraction") (a.1, ((a.2.1.1 * a.2.2.2) + (a.2.2.1 * a.2.1.2)), (a.2.1.2 * a.2.2.2)) ev_var nm_Fractions_fraction (ea_cons (ev_add (ev_mul (ev_fst (x := a.2.1) ev_var) (ev_snd (x := a.2.2) ev_var) (by first | exact sz_mulW ‹_› ‹_› | exact sz_big ‹_› ‹_›)) (ev_mul (ev_fst (x := a.2.2) ev_var) (ev_snd (x := a.2.1) ev_var) (by first | exact sz_mulW ‹_› ‹_› | exact sz_big ‹_› ‹_›))) (ea_cons (ev_mul (ev_snd (x := a.2.1) ev_var) (ev_snd (x := a.2.2) ev_var) (by first | exact sz_mulW ‹_› ‹_› | exact sz_big ‹_› ‹_›)) ea_nil)) rfl (by first | exact sz_mulW ‹_› ‹_› | exact sz_big ‹_› ‹_›) (fun h b e => (h).1 b e _) (fun h e => (h).2 e))

theorem sc_Fractions_minus : FnScope ["self", "a", "b"] ["self", "a", "b"] (defScope s_Fractions_minus) := ⟨rfl, rfl, rfl, by decide +kernel, rfl, by decide +kernel, by decide +kernel⟩
def m_Fractions_minus (a_self : Unit) (a_a : (Int × Int)) (a_b : (Int × Int)) : Option (Int × Int) :=
  (m_Fractions_fraction a_self ((a_a.1 * a_b.2) - (a_b.1 * a_a.2)) (a_a.2 * a_b.2))

theorem ok_Fractions_minus (T : Tx P K mg) : Mt P w K mg base 8 (He.ga K "Fractions") "minus" (spO (fun a : Unit × (Int × Int) × (Int × Int) => [.val (y_Fractions K) a.1, .val (yP yI yI) a.2.1, .val (yP yI yI) a.2.2]) (fun a : Unit × (Int × Int) × (Int × Int) => Sz 4000 a.2.1.1 ∧ Sz 4000 a.2.1.2 ∧ Sz 4000 a.2.2.1 ∧ Sz 4000 a.2.2.2) (yP yI yI) (.ref (He.ga K "ZeroError")) (fun a => m_Fractions_minus a.1 a.2.1 a.2.2)) := by
  obtain ⟨f, fd, hm, FD⟩ := T.me_Fractions_minus
  refine ⟨f, fd, ["self", "a", "b"], T.cl_Fractions, hm, ?_, FD.bindsN fun _ _ _ _ _ _ us hl => match us, hl with | [_, _, _], _ => rfl⟩
  refine TL.FunD.okC (N := ["self", "a", "b"]) FD sc_Fractions_minus (lenO fun _ => rfl) fun cdv A outer s H E hr => ?_
  refine ⟨_, (pss_cons (ps_ret (pe_mth (ok_Fractions_fraction T) hr (by decide) (passes_call (takes_of rfl rfl rfl rfl) (fun _ _ _ _ z => z)) (pv 0) (pa_cons (pe_op op_sub (pe_op op_mulW (pe_ix ix_tup (pv 1) pe_int (fun _ _ => rfl)) (pe_ix ix_tup (pv 2) pe_int (fun _ _ => rfl))) (pe_op op_mulW (pe_ix ix_tup (pv 2) pe_int (fun _ _ => rfl)) (pe_ix ix_tup (pv 1) pe_int (fun _ _ => rfl)))) (pa_cons (pe_op op_mulW (pe_ix ix_tup (pv 1) pe_int (fun _ _ => rfl)) (pe_ix ix_tup (pv 2) pe_int (fun _ _ => rfl))) pa_nil)))) pss_nil), fun vs Q h => run_O (fun F a rt hpre => ?_) vs H Q h⟩
  obtain ⟨h1, h2, h3, h4⟩ := hpre
  show Bd _ _ _ _ _ _ (m_Fractions_minus a.1 a.2.1 a.2.2)
  unfold m_Fractions_minus
  exact b_seq (b_retMO (m := "fraction") (a.1, ((a.2.1.1 * a.2.2.2) - (a.2.2.1 * a.2.1.2)), (a.2.1.2 * a.2.2.2)) ev_var nm_Fractions_fraction (ea_cons (ev_sub (ev_mul (ev_fst (x := a.2.1) ev_var) (ev_snd (x := a.2.2) ev_var) (by first | exact sz_mulW ‹_› ‹_› | exact sz_big ‹_› ‹_›)) (ev_mul (ev_fst (x := a.2.2) ev_var) (ev_snd (x := a.2.1) ev_var) (by first | exact sz_mulW ‹_› ‹_› | exact sz_big ‹_› ‹_›))) (ea_cons (ev_mul (ev_snd (x := a.2.1) ev_var) (ev_snd (x := a.2.2) ev_var) (by first | exact sz_mulW ‹_› ‹_› | exact sz_big ‹_› ‹_›)) ea_nil)) rfl (by first | exact sz_mulW ‹_› ‹_› | exact sz_big ‹_› ‹_›) (fun h b e => (h).1 b e _) (fun h e => (h).2 e))

theorem sc_Fractions_times : FnScope ["self", "a", "b"] ["self", "a", "b"] (defScope s_Fractions_times) := ⟨rfl, rfl, rfl, by decide +kernel, rfl, by decide +kernel, by decide +kernel⟩
def m_Fractions_times (a_self : Unit) (a_a : (Int × Int)) (a_b : (Int × Int)) : Option (Int × Int) :=
  (m_Fractions_fraction a_self (a_a.1 * a_b.1) (a_a.2 * a_b.2))

theorem ok_Fractions_times (T : Tx P K mg) : Mt P w K mg base 8 (He.ga K "Fractions") "times" (spO (fun a : Unit × (Int × Int) × (Int × Int) => [.val (y_Fractions K) a.1, .val (yP yI yI) a.2.1, .val (yP yI yI) a.2.2]) (fun a : Unit × (Int × Int) × (Int × Int) => Sz 4000 a.2.1.1 ∧ Sz 4000 a.2.1.2 ∧ Sz 4000 a.2.2.1 ∧ Sz 4000 a.2.2.2) (yP yI yI) (.ref (He.ga K "ZeroError")) (fun a => m_Fractions_times a.1 a.2.1 a.2.2)) := by
  obtain ⟨f, fd, hm, FD⟩ := T.me_Fractions_times
  refine ⟨f, fd, ["self", "a", "b"], T.cl_Fractions, hm, ?_, FD.bindsN fun _ _ _ _ _ _ us hl => match us, hl with | [_, _, _], _ => rfl⟩
  refine TL.FunD.okC (N := ["self", "a", "b"]) FD sc_Fractions_times (lenO fun _ => rfl) fun cdv A outer s H E hr => ?_
  refine ⟨_, (pss_cons (ps_ret (pe_mth (ok_Fractions_fraction T) hr (by decide) (passes_call (takes_of rfl rfl rfl rfl) (fun _ _ _ _ z => z)) (pv 0) (pa_cons (pe_op op_mulW (pe_ix ix_tup (pv 1) pe_int (fun _ _ => rfl)) (pe_ix ix_tup (pv 2) pe_int (fun _ _ => rfl))) (pa_cons (pe_op op_mulW (pe_ix ix_tup (pv 1) pe_int (fun _ _ => rfl)) (pe_ix ix_tup (pv 2) pe_int (fun _ _ => rfl))) pa_nil)))) pss_nil), fun vs Q h => run_O (fun F a rt hpre => ?_) vs H Q h⟩
  obtain ⟨h1, h2, h3, h4⟩ := hpre
  show Bd _ _ _ _ _ _ (m_Fractions_times a.1 a.2.1 a.2.2)
  unfold m_Fractions_times
  exact b_seq (b_retMO (m := "fraction") (a.1, (a.2.1.1 * a.2.2.1), (a.2.1.2 * a.2.2.2)) ev_var nm_Fractions_fraction (ea_cons (ev_mul (ev_fst (x := a.2.1) ev_var) (ev_fst (x := a.2.2) ev_var) (by first | exact sz_mulW ‹_› ‹_› | exact sz_big ‹_› ‹_›)) (ea_cons (ev_mul (ev_snd (x := a.2.1) ev_var) (ev_snd (x := a.2.2) ev_var) (by first | exact sz_mulW ‹_› ‹_› | exact sz_big ‹_› ‹_›)) ea_nil)) rfl (by first | exact sz_mulW ‹_› ‹_› | exact sz_big ‹_› ‹_›) (fun h b e => (h).1 b e _) (fun h e => (h).2 e))

theorem sc_Fractions_over : FnScope ["self", "a", "b"] ["self", "a", "b"] (defScope s_Fractions_over) := ⟨rfl, rfl, rfl, by decide +kernel, rfl, by decide +kernel, by decide +kernel⟩
def m_Fractions_over (a_self : Unit) (a_a : (Int × Int)) (a_b : (Int × Int)) : Option (Int × Int) :=
  (m_Fractions_fraction a_self (a_a.1 * a_b.2) (a_a.2 * a_b.1))

theorem ok_Fractions_over (T : Tx P K mg) : Mt P w K mg base 8 (He.ga K "Fractions") "over" (spO (fun a : Unit × (Int × Int) × (Int × Int) => [.val (y_Fractions K) a.1, .val (yP yI yI) a.2.1, .val (yP yI yI) a.2.2]) (fun a : Unit × (Int × Int) × (Int × Int) => Sz 4000 a.2.1.1 ∧ Sz 4000 a.2.1.2 ∧ Sz 4000 a.2.2.1 ∧ Sz 4000 a.2.2.2) (yP yI yI) (.ref (He.ga K "ZeroError")) (fun a => m_Fractions_over a.1 a.2.1 a.2.2)) := by
  obtain ⟨f, fd, hm, FD⟩ := T.me_Fractions_over
  refine ⟨f, fd, ["self", "a", "b"], T.cl_Fractions, hm, ?_, FD.bindsN fun _ _ _ _ _ _ us hl => match us, hl with | [_, _, _], _ => rfl⟩
  refine TL.FunD.okC (N := ["self", "a", "b"]) FD sc_Fractions_over (lenO fun _ => rfl) fun cdv A outer s H E hr => ?_
  refine ⟨_, (pss_cons (ps_ret (pe_mth (ok_Fractions_fraction T) hr (by decide) (passes_call (takes_of rfl rfl rfl rfl) (fun _ _ _ _ z => z)) (pv 0) (pa_cons (pe_op op_mulW (pe_ix ix_tup (pv 1) pe_int (fun _ _ => rfl)) (pe_ix ix_tup (pv 2) pe_int (fun _ _ => rfl))) (pa_cons (pe_op op_mulW (pe_ix ix_tup (pv 1) pe_int (fun _ _ => rfl)) (pe_ix ix_tup (pv 2) pe_int (fun _ _ => rfl))) pa_nil)))) pss_nil), fun vs Q h => run_O (fun F a rt hpre => ?_) vs H Q h⟩
  obtain ⟨h1, h2, h3, h4⟩ := hpre
  show Bd _ _ _ _ _ _ (m_Fractions_over a.1 a.2.1 a.2.2)
  unfold m_Fractions_over
  exact b_seq (b_retMO (m := "fraction") (a.1, (a.2.1.1 * a.2.2.2), (a.2.1.2 * a.2.2.1)) ev_var nm_Fractions_fraction (ea_cons (ev_mul (ev_fst (x := a.2.1) ev_var) (ev_snd (x := a.2.2) ev_var) (by first | exact sz_mulW ‹_› ‹_› | exact sz_big ‹_› ‹_›)) (ea_cons (ev_mul (ev_snd (x := a.2.1) ev_var) (ev_fst (x := a.2.2) ev_var) (by first | exact sz_mulW ‹_› ‹_› | exact sz_big ‹_› ‹_›)) ea_nil)) rfl (by first | exact sz_mulW ‹_› ‹_› | exact sz_big ‹_› ‹_›) (fun h b e => (h).1 b e _) (fun h e => (h).2 e))

theorem sc_Fractions_inv : FnScope ["self", "a"] ["self", "a"] (defScope s_Fractions_inv) := ⟨rfl, rfl, rfl, by decide +kernel, rfl, by decide +kernel, by decide +kernel⟩
def m_Fractions_inv (a_self : Unit) (a_a : (Int × Int)) : Option (Int × Int) :=
  (m_Fractions_fraction a_self a_a.2 a_a.1)

theorem ok_Fractions_inv (T : Tx P K mg) : Mt P w K mg base 8 (He.ga K "Fractions") "inv" (spO (fun a : Unit × (Int × Int) => [.val (y_Fractions K) a.1, .val (yP yI yI) a.2]) (fun a : Unit × (Int × Int) => Sz 4000 a.2.1 ∧ Sz 4000 a.2.2) (yP yI yI) (.ref (He.ga K "ZeroError")) (fun a => m_Fractions_inv a.1 a.2)) := by
  obtain ⟨f, fd, hm, FD⟩ := T.me_Fractions_inv
  refine ⟨f, fd, ["self", "a"], T.cl_Fractions, hm, ?_, FD.bindsN fun _ _ _ _ _ _ us hl => match us, hl with | [_, _], _ => rfl⟩
  refine TL.FunD.okC (N := ["self", "a"]) FD sc_Fractions_inv (lenO fun _ => rfl) fun cdv A outer s H E hr => ?_
  refine ⟨_, (pss_cons (ps_ret (pe_mth (ok_Fractions_fraction T) hr (by decide) (passes_call (takes_of rfl rfl rfl rfl) (fun _ _ _ _ z => z)) (pv 0) (pa_cons (pe_ix ix_tup (pv 1) pe_int (fun _ _ => rfl)) (pa_cons (pe_ix ix_tup (pv 1) pe_int (fun _ _ => rfl)) pa_nil)))) pss_nil), fun vs Q h => run_O (fun F a rt hpre => ?_) vs H Q h⟩
  show Bd _ _ _ _ _ _ (m_Fractions_inv a.1 a.2)
  unfold m_Fractions_inv
  exact b_seq (b_retMO (m := "fraction") (a.1, a.2.2, a.2.1) ev_var nm_Fractions_fraction (ea_cons (ev_snd (x := a.2) ev_var) (ea_cons (ev_fst (x := a.2) ev_var) ea_nil)) rfl (by exact sz_mono hpre.1 (by omega)) (fun h b e => (h).1 b e _) (fun h e => (h).2 e))

theorem sc_Fractions_of : FnScope ["self", "number"] ["self", "number"] (defScope s_Fractions_of) := ⟨rfl, rfl, rfl, by decide +kernel, rfl, by decide +kernel, by decide +kernel⟩
def m_Fractions_of (a_self : Unit) (a_number : Int) : (Int × Int) :=
  (a_number, (1 : Int))

theorem ok_Fractions_of (T : Tx P K mg) : Mt P w K mg base 1 (He.ga K "Fractions") "of" (spF (fun a : Unit × Int => [.val (y_Fractions K) a.1, .val yI a.2]) (fun _ : Unit × Int => True) (yP yI yI) (fun a => m_Fractions_of a.1 a.2)) := by
  obtain ⟨f, fd, hm, FD⟩ := T.me_Fractions_of
  refine ⟨f, fd, ["self", "number"], T.cl_Fractions, hm, ?_, FD.bindsN fun _ _ _ _ _ _ us hl => match us, hl with | [_, _], _ => rfl⟩
  refine TL.FunD.okC (N := ["self", "number"]) FD sc_Fractions_of (lenF fun _ => rfl) fun cdv A outer s H E hr => ?_
  refine ⟨_, (pss_cons (ps_ret (pe_tup (pa_cons (pv 1) (pa_cons pe_int pa_nil)))) pss_nil), fun vs Q h => run_F (fun F a rt hpre => ?_) vs H Q E h⟩
  show Bd _ _ _ _ _ _ (m_Fractions_of a.1 a.2)
  unfold m_Fractions_of
  exact b_seq (b_ret (ev_pair (ea_cons ev_var (ea_cons ev_int ea_nil))) (fun h => h _))

theorem sc_Fractions_negated : FnScope ["self", "a"] ["self", "a"] (defScope s_Fractions_negated) := ⟨rfl, rfl, rfl, by decide +kernel, rfl, by decide +kernel, by decide +kernel⟩
def m_Fractions_negated (a_self : Unit) (a_a : (Int × Int)) : (Int × Int) :=
  ((-a_a.1), a_a.2)

theorem ok_Fractions_negated (T : Tx P K mg) : Mt P w K mg base 1 (He.ga K "Fractions") "negated" (spF (fun a : Unit × (Int × Int) => [.val (y_Fractions K) a.1, .val (yP yI yI) a.2]) (fun _ : Unit × (Int × Int) => True) (yP yI yI) (fun a => m_Fractions_negated a.1 a.2)) := by
  obtain ⟨f, fd, hm, FD⟩ := T.me_Fractions_negated
  refine ⟨f, fd, ["self", "a"], T.cl_Fractions, hm, ?_, FD.bindsN fun _ _ _ _ _ _ us hl => match us, hl with | [_, _], _ => rfl⟩
  refine TL.FunD.okC (N := ["self", "a"]) FD sc_Fractions_negated (lenF fun _ => rfl) fun cdv A outer s H E hr => ?_
  refine ⟨_, (pss_cons (ps_ret (pe_tup (pa_cons (pe_un un_neg (pe_ix ix_tup (pv 1) pe_int (fun _ _ => rfl))) (pa_cons (pe_ix ix_tup (pv 1) pe_int (fun _ _ => rfl)) pa_nil)))) pss_nil), fun vs Q h => run_F (fun F a rt hpre => ?_) vs H Q E h⟩
  show Bd _ _ _ _ _ _ (m_Fractions_negated a.1 a.2)
  unfold m_Fractions_negated
  exact b_seq (b_ret (ev_pair (ea_cons (ev_neg (ev_fst (x := a.2) ev_var)) (ea_cons (ev_snd (x := a.2) ev_var) ea_nil))) (fun h => h _))

theorem sc_Fractions_is_zero : FnScope ["self", "a"] ["self", "a"] (defScope s_Fractions_is_zero) := ⟨rfl, rfl, rfl, by decide +kernel, rfl, by decide +kernel, by decide +kernel⟩
def m_Fractions_is_zero (a_self : Unit) (a_a : (Int × Int)) : Bool :=
  (decide (a_a.1 = (0 : Int)))

theorem ok_Fractions_is_zero (T : Tx P K mg) : Mt P w K mg base 1 (He.ga K "Fractions") "is_zero" (spF (fun a : Unit × (Int × Int) => [.val (y_Fractions K) a.1, .val (yP yI yI) a.2]) (fun _ : Unit × (Int × Int) => True) yB (fun a => m_Fractions_is_zero a.1 a.2)) := by
  obtain ⟨f, fd, hm, FD⟩ := T.me_Fractions_is_zero
  refine ⟨f, fd, ["self", "a"], T.cl_Fractions, hm, ?_, FD.bindsN fun _ _ _ _ _ _ us hl => match us, hl with | [_, _], _ => rfl⟩
  refine TL.FunD.okC (N := ["self", "a"]) FD sc_Fractions_is_zero (lenF fun _ => rfl) fun cdv A outer s H E hr => ?_
  refine ⟨_, (pss_cons (ps_ret (pe_cmpR op_eq (pe_ix ix_tup (pv 1) pe_int (fun _ _ => rfl)) pe_int (nomark _))) pss_nil), fun vs Q h => run_F (fun F a rt hpre => ?_) vs H Q E h⟩
  show Bd _ _ _ _ _ _ (m_Fractions_is_zero a.1 a.2)
  unfold m_Fractions_is_zero
  exact b_seq (b_ret (ev_eq (ev_fst (x := a.2) ev_var) ev_int) (fun h => h _))

theorem sc_Whole_of : FnScope ["self", "number"] ["self", "number"] (defScope s_Whole_of) := ⟨rfl, rfl, rfl, by decide +kernel, rfl, by decide +kernel, by decide +kernel⟩
def m_Whole_of (a_self : Unit) (a_number : Int) : Int :=
  a_number

theorem ok_Whole_of (T : Tx P K mg) : Mt P w K mg base 1 (He.ga K "Whole") "of" (spF (fun a : Unit × Int => [.val (y_Whole K) a.1, .val yI a.2]) (fun _ : Unit × Int => True) yI (fun a => m_Whole_of a.1 a.2)) := by
  obtain ⟨f, fd, hm, FD⟩ := T.me_Whole_of
  refine ⟨f, fd, ["self", "number"], T.cl_Whole, hm, ?_, FD.bindsN fun _ _ _ _ _ _ us hl => match us, hl with | [_, _], _ => rfl⟩
  refine TL.FunD.okC (N := ["self", "number"]) FD sc_Whole_of (lenF fun _ => rfl) fun cdv A outer s H E hr => ?_
  refine ⟨_, (pss_cons (ps_ret (pv 1)) pss_nil), fun vs Q h => run_F (fun F a rt hpre => ?_) vs H Q E h⟩
  show Bd _ _ _ _ _ _ (m_Whole_of a.1 a.2)
  unfold m_Whole_of
  exact b_seq (b_ret ev_var (fun h => h _))

theorem sc_Whole_plus : FnScope ["self", "a", "b"] ["self", "a", "b"] (defScope s_Whole_plus) := ⟨rfl, rfl, rfl, by decide +kernel, rfl, by decide +kernel, by decide +kernel⟩
def m_Whole_plus (a_self : Unit) (a_a : Int) (a_b : Int) : Int :=
  (a_a + a_b)

theorem ok_Whole_plus (T : Tx P K mg) : Mt P w K mg base 1 (He.ga K "Whole") "plus" (spF (fun a : Unit × Int × Int => [.val (y_Whole K) a.1, .val yI a.2.1, .val yI a.2.2]) (fun _ : Unit × Int × Int => True) yI (fun a => m_Whole_plus a.1 a.2.1 a.2.2)) := by
  obtain ⟨f, fd, hm, FD⟩ := T.me_Whole_plus
  refine ⟨f, fd, ["self", "a", "b"], T.cl_Whole, hm, ?_, FD.bindsN fun _ _ _ _ _ _ us hl => match us, hl with | [_, _, _], _ => rfl⟩
  refine TL.FunD.okC (N := ["self", "a", "b"]) FD sc_Whole_plus (lenF fun _ => rfl) fun cdv A outer s H E hr => ?_
  refine ⟨_, (pss_cons (ps_ret (pe_op op_add (pv 1) (pv 2))) pss_nil), fun vs Q h => run_F (fun F a rt hpre => ?_) vs H Q E h⟩
  show Bd _ _ _ _ _ _ (m_Whole_plus a.1 a.2.1 a.2.2)
  unfold m_Whole_plus
  exact b_seq (b_ret (ev_add ev_var ev_var) (fun h => h _))

theorem sc_Whole_minus : FnScope ["self", "a", "b"] ["self", "a", "b"] (defScope s_Whole_minus) := ⟨rfl, rfl, rfl, by decide +kernel, rfl, by decide +kernel, by decide +kernel⟩
def m_Whole_minus (a_self : Unit) (a_a : Int) (a_b : Int) : Int :=
  (a_a - a_b)

theorem ok_Whole_minus (T : Tx P K mg) : Mt P w K mg base 1 (He.ga K "Whole") "minus" (spF (fun a : Unit × Int × Int => [.val (y_Whole K) a.1, .val yI a.2.1, .val yI a.2.2]) (fun _ : Unit × Int × Int => True) yI (fun a => m_Whole_minus a.1 a.2.1 a.2.2)) := by
  obtain ⟨f, fd, hm, FD⟩ := T.me_Whole_minus
  refine ⟨f, fd, ["self", "a", "b"], T.cl_Whole, hm, ?_, FD.bindsN fun _ _ _ _ _ _ us hl => match us, hl with | [_, _, _], _ => rfl⟩
  refine TL.FunD.okC (N := ["self", "a", "b"]) FD sc_Whole_minus (lenF fun _ => rfl) fun cdv A outer s H E hr => ?_
  refine ⟨_, (pss_cons (ps_ret (pe_op op_sub (pv 1) (pv 2))) pss_nil), fun vs Q h => run_F (fun F a rt hpre => ?_) vs H Q E h⟩
  show Bd _ _ _ _ _ _ (m_Whole_minus a.1 a.2.1 a.2.2)
  unfold m_Whole_minus
  exact b_seq (b_ret (ev_sub ev_var ev_var) (fun h => h _))

theorem sc_Whole_negated : FnScope ["self", "a"] ["self", "a"] (defScope s_Whole_negated) := ⟨rfl, rfl, rfl, by decide +kernel, rfl, by decide +kernel, by decide +kernel⟩
def m_Whole_negated (a_self : Unit) (a_a : Int) : Int :=
  (-a_a)

theorem ok_Whole_negated (T : Tx P K mg) : Mt P w K mg base 1 (He.ga K "Whole") "negated" (spF (fun a : Unit × Int => [.val (y_Whole K) a.1, .val yI a.2]) (fun _ : Unit × Int => True) yI (fun a => m_Whole_negated a.1 a.2)) := by
  obtain ⟨f, fd, hm, FD⟩ := T.me_Whole_negated
  refine ⟨f, fd, ["self", "a"], T.cl_Whole, hm, ?_, FD.bindsN fun _ _ _ _ _ _ us hl => match us, hl with | [_, _], _ => rfl⟩
  refine TL.FunD.okC (N := ["self", "a"]) FD sc_Whole_negated (lenF fun _ => rfl) fun cdv A outer s H E hr => ?_
  refine ⟨_, (pss_cons (ps_ret (pe_un un_neg (pv 1))) pss_nil), fun vs Q h => run_F (fun F a rt hpre => ?_) vs H Q E h⟩
  show Bd _ _ _ _ _ _ (m_Whole_negated a.1 a.2)
  unfold m_Whole_negated
  exact b_seq (b_ret (ev_neg ev_var) (fun h => h _))

theorem sc_Whole_times : FnScope ["self", "a", "b"] ["self", "a", "b"] (defScope s_Whole_times) := ⟨rfl, rfl, rfl, by decide +kernel, rfl, by decide +kernel, by decide +kernel⟩
def m_Whole_times (a_self : Unit) (a_a : Int) (a_b : Int) : Int :=
  (a_a * a_b)

theorem ok_Whole_times (T : Tx P K mg) : Mt P w K mg base 1 (He.ga K "Whole") "times" (spF (fun a : Unit × Int × Int => [.val (y_Whole K) a.1, .val yI a.2.1, .val yI a.2.2]) (fun a : Unit × Int × Int => Sz 4000 a.2.1 ∧ Sz 4000 a.2.2) yI (fun a => m_Whole_times a.1 a.2.1 a.2.2)) := by
  obtain ⟨f, fd, hm, FD⟩ := T.me_Whole_times
  refine ⟨f, fd, ["self", "a", "b"], T.cl_Whole, hm, ?_, FD.bindsN fun _ _ _ _ _ _ us hl => match us, hl with | [_, _, _], _ => rfl⟩
  refine TL.FunD.okC (N := ["self", "a", "b"]) FD sc_Whole_times (lenF fun _ => rfl) fun cdv A outer s H E hr => ?_
  refine ⟨_, (pss_cons (ps_ret (pe_op op_mulW (pv 1) (pv 2))) pss_nil), fun vs Q h => run_F (fun F a rt hpre => ?_) vs H Q E h⟩
  show Bd _ _ _ _ _ _ (m_Whole_times a.1 a.2.1 a.2.2)
  unfold m_Whole_times
  exact b_seq (b_ret (ev_mul ev_var ev_var (by exact sz_mulW hpre.1 hpre.2)) (fun h => h _))

theorem sc_Whole_is_zero : FnScope ["self", "a"] ["self", "a"] (defScope s_Whole_is_zero) := ⟨rfl, rfl, rfl, by decide +kernel, rfl, by decide +kernel, by decide +kernel⟩
def m_Whole_is_zero (a_self : Unit) (a_a : Int) : Bool :=
  (decide (a_a = (0 : Int)))

theorem ok_Whole_is_zero (T : Tx P K mg) : Mt P w K mg base 1 (He.ga K "Whole") "is_zero" (spF (fun a : Unit × Int => [.val (y_Whole K) a.1, .val yI a.2]) (fun _ : Unit × Int => True) yB (fun a => m_Whole_is_zero a.1 a.2)) := by
  obtain ⟨f, fd, hm, FD⟩ := T.me_Whole_is_zero
  refine ⟨f, fd, ["self", "a"], T.cl_Whole, hm, ?_, FD.bindsN fun _ _ _ _ _ _ us hl => match us, hl with | [_, _], _ => rfl⟩
  refine TL.FunD.okC (N := ["self", "a"]) FD sc_Whole_is_zero (lenF fun _ => rfl) fun cdv A outer s H E hr => ?_
  refine ⟨_, (pss_cons (ps_ret (pe_cmpR op_eq (pv 1) pe_int (nomark _))) pss_nil), fun vs Q h => run_F (fun F a rt hpre => ?_) vs H Q E h⟩
  show Bd _ _ _ _ _ _ (m_Whole_is_zero a.1 a.2)
  unfold m_Whole_is_zero
  exact b_seq (b_ret (ev_eq ev_var ev_int) (fun h => h _))

theorem sc_law_start : FnScope ["cells", "sizes", "mix", "cell", "k"] ["cells"] (defScope s_law_start) := ⟨rfl, rfl, rfl, by decide +kernel, rfl, by decide +kernel, by decide +kernel⟩
def m_law_start (a_cells : (List Int)) : (List Int) :=
  bnd (List.map (fun cell_1 => ((Int.natAbs cell_1 : Nat) : Int)) a_cells) fun sizes_1 =>
  bnd ((List.sum sizes_1) % (97 : Int)) fun mix_1 =>
  (sizes_1 ++ (List.map (fun k_1 => (((((29 : Int) * k_1) + mix_1) % (97 : Int)) + (2 : Int))) (rng 0 (Int.toNat (80 : Int)))))

theorem ok_law_start (T : Tx P K mg) : Cl P w K mg base 1 "_law_start" (spL (fun a : (List Int) => [.val (yL yI) a]) (fun a : (List Int) => a.length ≤ 63) yI (fun a => m_law_start a)) := by
  obtain ⟨f, fd, hg, FD⟩ := T.g_law_start
  refine ⟨f, fd, ["cells"], ?_, hg, FD.kp, FD.bindsN fun _ _ _ _ _ _ us hl => match us, hl with | [_], _ => rfl⟩
  refine TL.FunD.okC (N := ["cells", "sizes", "mix", "cell", "k"]) FD sc_law_start (lenL fun _ => rfl) fun cdv A outer s H E hr => ?_
  refine ⟨_, (pss_cons (ps_setLc (i := 1) (own := [("cell", 3)]) (tt := tYes) rfl sc_law_start.nd rfl rfl (sw_true rfl rfl rfl (by decide +kernel)) (pi_list (pv 0)) (blkOk_by (N := ["cells", "sizes", "mix", "cell", "k"]) (sc := defScope s_law_start) (by decide +kernel)) (fun _ _ _ _ _ => (pg_name (i := 3) sc_law_start.nd rfl (by first | exact .inl rfl | exact .inr rfl))) (fun _ _ _ _ _ => pts_nil) (fun _ _ _ _ _ => (pe_callB call_abs (by rfl) T.b_abs (by decide +kernel) (pa_cons (pv 3) pa_nil)))) (pss_cons (ps_set (i := 2) sc_law_start.nd rfl (by first | exact .inl rfl | exact .inr rfl) (pe_op op_mod (pe_callB (cr_sum rfl) (by rfl) T.b_sum (by decide +kernel) (pa_cons (pv 1) pa_nil)) pe_int)) (pss_cons (ps_ret (pe_op op_cat (pv 1) (pe_lc (own := [("k", 4)]) (tt := tYes) rfl sc_law_start.nd (pi_range1 (by rfl) T.b_range (pa_cons pe_int pa_nil)) (blkOk_by (N := ["cells", "sizes", "mix", "cell", "k"]) (sc := defScope s_law_start) (by decide +kernel)) (fun _ _ _ _ _ => (pg_name (i := 4) sc_law_start.nd rfl (by first | exact .inl rfl | exact .inr rfl))) (fun _ _ _ _ _ => pts_nil) (fun _ _ _ _ _ => (pe_op op_add (pe_op op_mod (pe_callTy call_int1 (by rfl) T.b_int (by decide +kernel) (pa_cons (pe_op op_add (pe_op op_mulW pe_int (pv 4)) (pv 2)) pa_nil)) pe_int) pe_int))))) pss_nil))), fun vs Q h => run_L (fun F a rt hpre => ?_) vs H Q E h⟩
  show Bd _ _ _ _ _ _ (m_law_start a)
  unfold m_law_start
  refine b_let (ev_l (lc_map (fun cell_1 => ((Int.natAbs cell_1 : Nat) : Int)) (iv_list ev_var) (tg_name 3) (by decide) (by exact Nat.le_trans hpre (by decide)) (fun D gs cell_1 hm_1 => (ev_abs ev_var)))) fun sizes_1 hsizes_1 => ?_
  refine b_let (ev_mod (ev_sum ev_var) ev_int (by first | omega | assumption | decide | exact ⟨by omega, by omega⟩)) fun mix_1 hmix_1 => ?_
  exact b_seq (b_retL (evl_cat ev_var (ev_l (lc_map (fun k_1 => (((((29 : Int) * k_1) + mix_1) % (97 : Int)) + (2 : Int))) (iv_rng1 ev_int (by first | omega | assumption | decide | exact ⟨by omega, by omega⟩) (by first | omega | assumption | decide | exact ⟨by omega, by omega⟩)) (tg_name 4) (by decide) (by rw [rng_length]; decide) (fun D gs k_1 hm_2 => (ev_add (ev_mod (ev_intI (ev_add (ev_mul ev_int ev_var (by exact sz_mulW (m := 5) (n := 7) (sz_lit (by decide +kernel)) (by have := mem_rng ‹_›; unfold Sz; omega))) ev_var)) ev_int (by first | omega | assumption | decide | exact ⟨by omega, by omega⟩)) ev_int)))) (by simp only [hsizes_1, List.length_map, rng_length]; exact Nat.le_trans (m := 200) (by omega) (by decide))) (fun h => h))

theorem sc_law_draw : FnScope ["pool", "many", "digit"] ["pool", "many"] (defScope s_law_draw) := ⟨rfl, rfl, rfl, by decide +kernel, rfl, by decide +kernel, by decide +kernel⟩
def m_law_draw (a_pool : List Int) (a_many : Int) : Int × List Int :=
  ((whileL (fun s_1 : List Int => (((1 : Int) < (s_1.length : Int)) ∧ ((ix s_1 (0 : Int)) = (0 : Int)))) (fun s_1 =>
  .go (List.tail s_1)) ((fun s => s.length) a_pool + 1) a_pool).out fun s_1 =>
  bnd ((ix s_1 (0 : Int)) % a_many) fun digit_1 =>
  (digit_1, (setI s_1 (0 : Int) ((ix s_1 (0 : Int)) / a_many))))

theorem ok_law_draw (T : Tx P K mg) : Cl P w K mg base 1 "_law_draw" (spP (fun (p : Addr) (a : List Int × Int) => [.val (yV (.ref p)) (), .val yI a.2]) (fun a => cL yI a.1) (fun s => cL yI s) (fun a : List Int × Int => a.1 ≠ [] ∧ 0 < a.2 ∧ Sz 200 a.2) yI (fun a => m_law_draw a.1 a.2)) := by
  obtain ⟨f, fd, hg, FD⟩ := T.g_law_draw
  refine ⟨f, fd, ["pool", "many"], ?_, hg, FD.kp, FD.bindsN fun _ _ _ _ _ _ us hl => match us, hl with | [_, _], _ => rfl⟩
  refine TL.FunD.okC (N := ["pool", "many", "digit"]) FD sc_law_draw (lenP fun _ _ => rfl) fun cdv A outer s H E hr => ?_
  refine ⟨_, (pss_cons (ps_while (passes_of rfl) (PW.pt (pw_and (pt_cmpR op_gt (pe_callB call_len_seq (by rfl) T.b_len (by decide +kernel) (pa_cons (pv 0) pa_nil)) pe_int (nomark _)) (pw_and1 (pt_cmpR op_eq (pe_ix ix_list (pv 0) pe_int (fun _ _ => rfl)) pe_int (nomark _))))) (pss_cons (ps_expr (pe_bm PySem.F.plainAttrs_list PySem.F.slot_list_pop PySem.F.type_list_pop mt_popAt (pv 0) (pa_cons pe_int pa_nil))) pss_nil)) (pss_cons (ps_set (i := 2) sc_law_draw.nd rfl (by first | exact .inl rfl | exact .inr rfl) (pe_op op_mod (pe_callTy call_int1 (by rfl) T.b_int (by decide +kernel) (pa_cons (pe_ix ix_list (pv 0) pe_int (fun _ _ => rfl)) pa_nil)) (pv 1))) (pss_cons (ps_asg (pe_op op_fdivW (pe_ix ix_list (pv 0) pe_int (fun _ _ => rfl)) (pv 1)) (pg_sub (pv 0) pe_int set_list)) (pss_cons (ps_ret (pv 2)) pss_nil)))), fun vs Q h => run_P (fun F p a rt hpre => ?_) vs H Q E h⟩
  show Bd _ _ _ _ _ _ (m_law_draw a.1 a.2)
  unfold m_law_draw
  refine b_while _ _ (fun (s_1 : List Int) => ([(p, cL yI s_1)] : Own)) (fun (s_1 : List Int) => (⟨[.val (yV (.ref p)) (), .val yI a.2, .any], []⟩ : Lc)) (fun s => s ≠ []) (fun s => s.length) a.1 rfl ⟨(.cons (.inl rfl) (.cons (.inl rfl) (.cons (.inr rfl) .nil))), rfl⟩ hpre.1 (fun s_1 hj_1 => (tt_and (tt_d (ev_gt (ev_lenO (t := yI) (xs := s_1) 0 ev_var) ev_int)) fun hb_1 => (tt_d (ev_eq (ev_ixO (t := yI) (xs := s_1) 0 ev_var ev_int (by exact inb0 ‹_›)) ev_int)))) (fun s s' _ hc e => draw_step hc e) (fun s_1 hj_1 hc_1 N B P' hgo_1 hret_1 => ?_) (fun s_1 hj_1 hc_2 => ?_)
  · refine b_drop (ev_pop0T (t := yI) (xs := s_1) 0 ev_var (by assumption)) ?_
    exact b_next fun h => nx_wk (hgo_1 _ h) ⟨(.cons (.inl rfl) (.cons (.inl rfl) (.cons (.inr rfl) .nil))), rfl⟩
  · refine b_let (ev_mod (ev_intI (ev_ixO (t := yI) (xs := s_1) 0 ev_var ev_int (by exact inb0 ‹_›))) ev_var (by exact hpre.2.1)) fun digit_1 hdigit_1 => ?_
    refine b_setI (t := yI) (xs := s_1) 0 (ev_div (ev_ixO (t := yI) (xs := s_1) 0 ev_var ev_int (by exact inb0 ‹_›)) ev_var (by exact sz_divW hpre.2.2 hpre.2.1)) ev_var ev_int (by exact inb0 ‹_›) rfl ?_
    exact b_seq (b_ret ev_var (fun h => h _))

theorem setI_ne {α : Type} {xs : List α} {i : Int} {x : α} (h : xs ≠ []) : setI xs i x ≠ [] := by
  unfold setI
  split
  · intro z
    have := congrArg List.length z
    rw [List.length_set, List.length_nil] at this
    exact h (List.length_eq_zero_iff.mp this)
  · exact h
theorem p_draw {pool : List Int} {many : Int} (hp : pool ≠ [] ∧ 0 < many ∧ Sz 200 many) {y : Int × List Int} (hy : y = m_law_draw pool many) : 0 ≤ y.1 ∧ y.1 < many ∧ y.2 ≠ [] := by
  subst hy
  obtain ⟨s, e, hs⟩ := whileL_inv (c := fun s1 : List Int => (((1 : Int) < (s1.length : Int)) ∧ ((ix s1 (0 : Int)) = (0 : Int)))) (f := fun s1 => Stp.go (ρ := Int × List Int) (List.tail s1)) (fun s : List Int => s ≠ []) (fun s hs hc => ⟨_, rfl, (draw_step (ρ := Int) hc rfl).1⟩) (pool.length + 1) pool hp.1
  have e2 : m_law_draw pool many = (.go s : Stp (List Int) (Int × List Int)).out fun s1 => (ix s1 0 % many, setI s1 0 (ix s1 0 / many)) := by
    rw [← e]
    rfl
  rw [e2]
  exact ⟨Int.emod_nonneg _ (by omega), Int.emod_lt_of_pos _ hp.2.1, setI_ne hs⟩

theorem sc_law_integer : FnScope ["pool", "limit", "pick", "number"] ["pool", "limit"] (defScope s_law_integer) := ⟨rfl, rfl, rfl, by decide +kernel, rfl, by decide +kernel, by decide +kernel⟩
def m_law_integer (a_pool : List Int) (a_limit : Int) : Int × List Int :=
  bnd (m_law_draw a_pool (8 : Int)) fun yy_1 =>
  bnd yy_1.1 fun pick_1 =>
  bnd (m_law_draw yy_1.2 (a_limit + (1 : Int))) fun yy_2 =>
  bnd yy_2.1 fun number_1 =>
  bnd (if (pick_1 < (4 : Int)) then (ix [(0 : Int), (1 : Int), a_limit, (a_limit - (1 : Int))] pick_1) else number_1) fun number_2 =>
  bnd (m_law_draw yy_2.2 (2 : Int)) fun yy_3 =>
  bnd (if (yy_3.1 = (1 : Int)) then (-number_2) else number_2) fun number_3 =>
  (number_3, yy_3.2)

theorem ok_law_integer (T : Tx P K mg) : Cl P w K mg base 2 "_law_integer" (spP (fun (p : Addr) (a : List Int × Int) => [.val (yV (.ref p)) (), .val yI a.2]) (fun a => cL yI a.1) (fun s => cL yI s) (fun a : List Int × Int => a.1 ≠ [] ∧ 1 ≤ a.2 ∧ Sz 150 a.2) yI (fun a => m_law_integer a.1 a.2)) := by
  obtain ⟨f, fd, hg, FD⟩ := T.g_law_integer
  refine ⟨f, fd, ["pool", "limit"], ?_, hg, FD.kp, FD.bindsN fun _ _ _ _ _ _ us hl => match us, hl with | [_, _], _ => rfl⟩
  refine TL.FunD.okC (N := ["pool", "limit", "pick", "number"]) FD sc_law_integer (lenP fun _ _ => rfl) fun cdv A outer s H E hr => ?_
  refine ⟨_, (pss_cons (ps_set (i := 2) sc_law_integer.nd rfl (by first | exact .inl rfl | exact .inr rfl) (pe_cl (ok_law_draw T) hr (by decide) (by rfl) passL (pa_cons (pv 0) (pa_cons pe_int pa_nil)))) (pss_cons (ps_set (i := 3) sc_law_integer.nd rfl (by first | exact .inl rfl | exact .inr rfl) (pe_cl (ok_law_draw T) hr (by decide) (by rfl) passL (pa_cons (pv 0) (pa_cons (pe_op op_add (pv 1) pe_int) pa_nil)))) (pss_cons (ps_if (pt_cmpR op_lt (pv 2) pe_int (nomark _)) (pss_cons (ps_set (i := 3) sc_law_integer.nd rfl (by first | exact .inl rfl | exact .inr rfl) (pe_ix ix_list (pe_lst (pa_cons pe_int (pa_cons pe_int (pa_cons (pv 1) (pa_cons (pe_op op_sub (pv 1) pe_int) pa_nil))))) (pv 2) (fun _ _ => rfl))) pss_nil) pss_nil) (pss_cons (ps_if (pt_cmpR op_eq (pe_cl (ok_law_draw T) hr (by decide) (by rfl) passL (pa_cons (pv 0) (pa_cons pe_int pa_nil))) pe_int (nomark _)) (pss_cons (ps_set (i := 3) sc_law_integer.nd rfl (by first | exact .inl rfl | exact .inr rfl) (pe_un un_neg (pv 3))) pss_nil) pss_nil) (pss_cons (ps_ret (pv 3)) pss_nil))))), fun vs Q h => run_P (fun F p a rt hpre => ?_) vs H Q E h⟩
  show Bd _ _ _ _ _ _ (m_law_integer a.1 a.2)
  unfold m_law_integer
  refine b_gen fun yy_1 hyy_1 => ?_
  have qyy_1 : a.1 ≠ [] ∧ 0 < (8 : Int) ∧ Sz 200 (8 : Int) := (by first | exact ⟨hpre.1, by omega, sz_lit (by decide +kernel)⟩ | exact ⟨pyy_1.2.2, by have := hpre.2.1; omega, sz_mono (sz_add hpre.2.2 (sz_lit (n := 150) (by decide +kernel))) (by omega)⟩ | exact ⟨pyy_2.2.2, by omega, sz_lit (by decide +kernel)⟩)
  have pyy_1 := p_draw qyy_1 hyy_1
  refine b_let (ev_callP 0 (a.1, (8 : Int)) hyy_1 (ea_cons ev_var (ea_cons ev_int ea_nil)) rfl rfl rfl qyy_1) fun pick_1 hpick_1 => ?_
  refine b_gen fun yy_2 hyy_2 => ?_
  have qyy_2 : yy_1.2 ≠ [] ∧ 0 < (a.2 + (1 : Int)) ∧ Sz 200 (a.2 + (1 : Int)) := (by first | exact ⟨hpre.1, by omega, sz_lit (by decide +kernel)⟩ | exact ⟨pyy_1.2.2, by have := hpre.2.1; omega, sz_mono (sz_add hpre.2.2 (sz_lit (n := 150) (by decide +kernel))) (by omega)⟩ | exact ⟨pyy_2.2.2, by omega, sz_lit (by decide +kernel)⟩)
  have pyy_2 := p_draw qyy_2 hyy_2
  refine b_let (ev_callP 0 (yy_1.2, (a.2 + (1 : Int))) hyy_2 (ea_cons ev_var (ea_cons (ev_add ev_var ev_int) ea_nil)) rfl rfl rfl qyy_2) fun number_1 hnumber_1 => ?_
  refine b_join (fun (number_2 : Int) => (⟨[.val (yV (.ref p)) (), .val yI a.2, .val yI pick_1, .val yI number_2], []⟩ : Lc)) (fun (number_2 : Int) => ([(p, cL yI yy_2.2)] : Own)) (tt_d (ev_lt ev_var ev_int)) (x1 := (ix [(0 : Int), (1 : Int), a.2, (a.2 - (1 : Int))] pick_1)) (x2 := number_1) (fun h_1 => (sx_set (ev_ixL (ev_l (evl_lst (t := yI) (xs := [(0 : Int), (1 : Int), a.2, (a.2 - (1 : Int))]) (ea_cons ev_int (ea_cons ev_int (ea_cons ev_var (ea_cons (ev_sub ev_var ev_int) ea_nil)))) rfl (lit_len 4 rfl (by decide)))) ev_var (by exact ⟨by show -(4 : Int) ≤ _; omega, by show _ < (4 : Int); omega⟩)) (sx_wk sx_next ⟨(.cons (.inl rfl) (.cons (.inl rfl) (.cons (.inl rfl) (.cons (.inl rfl) .nil)))), rfl⟩))) (fun h_1 => (sx_wk sx_next ⟨(.cons (.inl rfl) (.cons (.inl rfl) (.cons (.inl rfl) (.cons (.inl rfl) .nil)))), rfl⟩)) fun number_2 hnumber_2 => ?_
  refine b_gen fun yy_3 hyy_3 => ?_
  have qyy_3 : yy_2.2 ≠ [] ∧ 0 < (2 : Int) ∧ Sz 200 (2 : Int) := (by first | exact ⟨hpre.1, by omega, sz_lit (by decide +kernel)⟩ | exact ⟨pyy_1.2.2, by have := hpre.2.1; omega, sz_mono (sz_add hpre.2.2 (sz_lit (n := 150) (by decide +kernel))) (by omega)⟩ | exact ⟨pyy_2.2.2, by omega, sz_lit (by decide +kernel)⟩)
  have pyy_3 := p_draw qyy_3 hyy_3
  refine b_join (fun (number_3 : Int) => (⟨[.val (yV (.ref p)) (), .val yI a.2, .val yI pick_1, .val yI number_3], []⟩ : Lc)) (fun (number_3 : Int) => ([(p, cL yI yy_3.2)] : Own)) (tt_d (ev_eq (ev_callP 0 (yy_2.2, (2 : Int)) hyy_3 (ea_cons ev_var (ea_cons ev_int ea_nil)) rfl rfl rfl qyy_3) ev_int)) (x1 := (-number_2)) (x2 := number_2) (fun h_2 => (sx_set (ev_neg ev_var) (sx_wk sx_next ⟨(.cons (.inl rfl) (.cons (.inl rfl) (.cons (.inl rfl) (.cons (.inl rfl) .nil)))), rfl⟩))) (fun h_2 => (sx_wk sx_next ⟨(.cons (.inl rfl) (.cons (.inl rfl) (.cons (.inl rfl) (.cons (.inl rfl) .nil)))), rfl⟩)) fun number_3 hnumber_3 => ?_
  exact b_seq (b_ret ev_var (fun h => h _))

theorem ix4 (a b c d : Int) (i : Int) (h0 : 0 ≤ i) (h1 : i < 4) : ix [a, b, c, d] i = a ∨ ix [a, b, c, d] i = b ∨ ix [a, b, c, d] i = c ∨ ix [a, b, c, d] i = d := by
  have := ix_mem (xs := [a, b, c, d]) (i := i) ⟨by show -(4 : Int) ≤ _; omega, by show _ < (4 : Int); omega⟩
  simpa using this
theorem p_integer {pool : List Int} {limit : Int} (hp : pool ≠ [] ∧ 1 ≤ limit ∧ Sz 150 limit) {y : Int × List Int} (hy : y = m_law_integer pool limit) : y.1.natAbs ≤ limit.natAbs ∧ y.2 ≠ [] := by
  subst hy
  unfold m_law_integer
  simp only [bnd]
  have h1 := p_draw (pool := pool) (many := 8) ⟨hp.1, by omega, sz_lit (by decide +kernel)⟩ rfl
  generalize m_law_draw pool 8 = d1 at *
  have h2 := p_draw (pool := d1.2) (many := limit + 1) ⟨h1.2.2, by omega, sz_mono (sz_add hp.2.2 (sz_lit (n := 150) (by decide +kernel))) (by omega)⟩ rfl
  generalize m_law_draw d1.2 (limit + 1) = d2 at *
  have h3 := p_draw (pool := d2.2) (many := 2) ⟨h2.2.2, by omega, sz_lit (by decide +kernel)⟩ rfl
  generalize m_law_draw d2.2 2 = d3 at *
  refine ⟨?_, h3.2.2⟩
  have key : (if d1.1 < 4 then ix [0, 1, limit, limit - 1] d1.1 else d2.1).natAbs ≤ limit.natAbs := by
    split
    · rename_i h4
      rcases ix4 0 1 limit (limit - 1) d1.1 h1.1 h4 with e | e | e | e <;> rw [e] <;> omega
    · omega
  show (if d3.1 = 1 then _ else _ : Int).natAbs ≤ _
  split
  · rw [Int.natAbs_neg]
    exact key
  · exact key

theorem sc_law_terms : FnScope ["pool", "shared", "limit", "num", "den"] ["pool"] (defScope s_law_terms) := ⟨rfl, rfl, rfl, by decide +kernel, rfl, by decide +kernel, by decide +kernel⟩
def m_law_terms (a_pool : List Int) : (Int × Int) × List Int :=
  bnd (1 : Int) fun shared_1 =>
  bnd (1000000000000000000000000000000 : Int) fun limit_1 =>
  bnd (m_law_draw a_pool (4 : Int)) fun yy_1 =>
  (if ((0 : Int) < yy_1.1) then
  bnd (m_law_draw yy_1.2 (1000000 : Int)) fun yy_2 =>
  bnd ((1 : Int) + yy_2.1) fun shared_2 =>
  bnd (1000000000000000000000000 : Int) fun limit_2 =>
  bnd (m_law_integer yy_2.2 limit_2) fun yy_3 =>
  bnd (yy_3.1 * shared_2) fun num_1 =>
  bnd (m_law_integer yy_3.2 limit_2) fun yy_4 =>
  bnd (yy_4.1 * shared_2) fun den_1 =>
  bnd (if (den_1 = (0 : Int)) then shared_2 else den_1) fun den_2 =>
  ((num_1, den_2), yy_4.2)
  else
  bnd (m_law_integer yy_1.2 limit_1) fun yy_5 =>
  bnd (yy_5.1 * shared_1) fun num_2 =>
  bnd (m_law_integer yy_5.2 limit_1) fun yy_6 =>
  bnd (yy_6.1 * shared_1) fun den_3 =>
  bnd (if (den_3 = (0 : Int)) then shared_1 else den_3) fun den_4 =>
  ((num_2, den_4), yy_6.2))

theorem ok_law_terms (T : Tx P K mg) : Cl P w K mg base 3 "_law_terms" (spP (fun (p : Addr) (a : List Int) => [.val (yV (.ref p)) ()]) (fun a => cL yI a) (fun s => cL yI s) (fun a : List Int => a ≠ []) (yP yI yI) (fun a => m_law_terms a)) := by
  obtain ⟨f, fd, hg, FD⟩ := T.g_law_terms
  refine ⟨f, fd, ["pool"], ?_, hg, FD.kp, FD.bindsN fun _ _ _ _ _ _ us hl => match us, hl with | [_], _ => rfl⟩
  refine TL.FunD.okC (N := ["pool", "shared", "limit", "num", "den"]) FD sc_law_terms (lenP fun _ _ => rfl) fun cdv A outer s H E hr => ?_
  refine ⟨_, (pss_cons (ps_set (i := 1) sc_law_terms.nd rfl (by first | exact .inl rfl | exact .inr rfl) pe_int) (pss_cons (ps_set (i := 2) sc_law_terms.nd rfl (by first | exact .inl rfl | exact .inr rfl) (pe_op op_pow pe_int pe_int)) (pss_cons (ps_if (pt_cmpR op_gt (pe_cl (ok_law_draw T) hr (by decide) (by rfl) passL (pa_cons (pv 0) (pa_cons pe_int pa_nil))) pe_int (nomark _)) (pss_cons (ps_set (i := 1) sc_law_terms.nd rfl (by first | exact .inl rfl | exact .inr rfl) (pe_op op_add pe_int (pe_cl (ok_law_draw T) hr (by decide) (by rfl) passL (pa_cons (pv 0) (pa_cons (pe_op op_pow pe_int pe_int) pa_nil))))) (pss_cons (ps_set (i := 2) sc_law_terms.nd rfl (by first | exact .inl rfl | exact .inr rfl) (pe_op op_pow pe_int pe_int)) pss_nil)) pss_nil) (pss_cons (ps_set (i := 3) sc_law_terms.nd rfl (by first | exact .inl rfl | exact .inr rfl) (pe_op op_mulW (pe_cl (ok_law_integer T) hr (by decide) (by rfl) passL (pa_cons (pv 0) (pa_cons (pv 2) pa_nil))) (pv 1))) (pss_cons (ps_set (i := 4) sc_law_terms.nd rfl (by first | exact .inl rfl | exact .inr rfl) (pe_op op_mulW (pe_cl (ok_law_integer T) hr (by decide) (by rfl) passL (pa_cons (pv 0) (pa_cons (pv 2) pa_nil))) (pv 1))) (pss_cons (ps_if (pt_cmpR op_eq (pv 4) pe_int (nomark _)) (pss_cons (ps_set (i := 4) sc_law_terms.nd rfl (by first | exact .inl rfl | exact .inr rfl) (pv 1)) pss_nil) pss_nil) (pss_cons (ps_ret (pe_tup (pa_cons (pv 3) (pa_cons (pv 4) pa_nil)))) pss_nil))))))), fun vs Q h => run_P (fun F p a rt hpre => ?_) vs H Q E h⟩
  show Bd _ _ _ _ _ _ (m_law_terms a)
  unfold m_law_terms
  refine b_let ev_int fun shared_1 hshared_1 => ?_
  refine b_let (ev_powc ev_int ev_int (show CPow (10 : Int) (30 : Int) from ⟨by decide, by decide, by decide +kernel⟩) (show ((10 : Int) ^ Int.toNat (30 : Int) : Int) = (1000000000000000000000000000000 : Int) by decide +kernel)) fun limit_1 hlimit_1 => ?_
  refine b_gen fun yy_1 hyy_1 => ?_
  have qyy_1 : a ≠ [] ∧ 0 < (4 : Int) ∧ Sz 200 (4 : Int) := (by first | exact ⟨hpre, by omega, sz_lit (by decide +kernel)⟩ | exact ⟨pyy_1.2.2, by omega, sz_lit (by decide +kernel)⟩)
  have pyy_1 := p_draw qyy_1 hyy_1
  refine b_seq (b_if (tt_d (ev_gt (ev_callP 0 (a, (4 : Int)) hyy_1 (ea_cons ev_var (ea_cons ev_int ea_nil)) rfl rfl rfl qyy_1) ev_int)) (fun h_1 => ?_) (fun h_1 => ?_))
  · refine b_gen fun yy_2 hyy_2 => ?_
    have qyy_2 : yy_1.2 ≠ [] ∧ 0 < (1000000 : Int) ∧ Sz 200 (1000000 : Int) := (by first | exact ⟨hpre, by omega, sz_lit (by decide +kernel)⟩ | exact ⟨pyy_1.2.2, by omega, sz_lit (by decide +kernel)⟩)
    have pyy_2 := p_draw qyy_2 hyy_2
    refine b_let (ev_add ev_int (ev_callP 0 (yy_1.2, (1000000 : Int)) hyy_2 (ea_cons ev_var (ea_cons (ev_powc ev_int ev_int (show CPow (10 : Int) (6 : Int) from ⟨by decide, by decide, by decide +kernel⟩) (show ((10 : Int) ^ Int.toNat (6 : Int) : Int) = (1000000 : Int) by decide +kernel)) ea_nil)) rfl rfl rfl qyy_2)) fun shared_2 hshared_2 => ?_
    refine b_let (ev_powc ev_int ev_int (show CPow (10 : Int) (24 : Int) from ⟨by decide, by decide, by decide +kernel⟩) (show ((10 : Int) ^ Int.toNat (24 : Int) : Int) = (1000000000000000000000000 : Int) by decide +kernel)) fun limit_2 hlimit_2 => ?_
    refine b_fall ?_
    refine b_gen fun yy_3 hyy_3 => ?_
    have qyy_3 : yy_2.2 ≠ [] ∧ 1 ≤ limit_2 ∧ Sz 150 limit_2 := (by refine ⟨?_, by omega, ?_⟩ <;> first | exact pyy_2.2.2 | exact pyy_3.2 | exact pyy_5.2 | exact pyy_1.2.2 | (rw [hlimit_2]; exact sz_lit (by decide +kernel)) | (rw [hlimit_1]; exact sz_lit (by decide +kernel)))
    have pyy_3 := p_integer qyy_3 hyy_3
    refine b_let (ev_mul (ev_callP 0 (yy_2.2, limit_2) hyy_3 (ea_cons ev_var (ea_cons ev_var ea_nil)) rfl rfl rfl qyy_3) ev_var (by first | exact sz_mulW (sz_le qyy_3.2.2 pyy_3.1) (show Sz 150 _ by unfold Sz; omega) | exact sz_mulW (sz_le qyy_4.2.2 pyy_4.1) (show Sz 150 _ by unfold Sz; omega) | exact sz_mulW (sz_le qyy_5.2.2 pyy_5.1) (show Sz 150 _ by unfold Sz; omega) | exact sz_mulW (sz_le qyy_6.2.2 pyy_6.1) (show Sz 150 _ by unfold Sz; omega))) fun num_1 hnum_1 => ?_
    refine b_gen fun yy_4 hyy_4 => ?_
    have qyy_4 : yy_3.2 ≠ [] ∧ 1 ≤ limit_2 ∧ Sz 150 limit_2 := (by refine ⟨?_, by omega, ?_⟩ <;> first | exact pyy_2.2.2 | exact pyy_3.2 | exact pyy_5.2 | exact pyy_1.2.2 | (rw [hlimit_2]; exact sz_lit (by decide +kernel)) | (rw [hlimit_1]; exact sz_lit (by decide +kernel)))
    have pyy_4 := p_integer qyy_4 hyy_4
    refine b_let (ev_mul (ev_callP 0 (yy_3.2, limit_2) hyy_4 (ea_cons ev_var (ea_cons ev_var ea_nil)) rfl rfl rfl qyy_4) ev_var (by first | exact sz_mulW (sz_le qyy_3.2.2 pyy_3.1) (show Sz 150 _ by unfold Sz; omega) | exact sz_mulW (sz_le qyy_4.2.2 pyy_4.1) (show Sz 150 _ by unfold Sz; omega) | exact sz_mulW (sz_le qyy_5.2.2 pyy_5.1) (show Sz 150 _ by unfold Sz; omega) | exact sz_mulW (sz_le qyy_6.2.2 pyy_6.1) (show Sz 150 _ by unfold Sz; omega))) fun den_1 hden_1 => ?_
    refine b_join (fun (den_2 : Int) => (⟨[.val (yV (.ref p)) (), .val yI shared_2, .val yI limit_2, .val yI num_1, .val yI den_2], []⟩ : Lc)) (fun (den_2 : Int) => ([(p, cL yI yy_4.2)] : Own)) (tt_d (ev_eq ev_var ev_int)) (x1 := shared_2) (x2 := den_1) (fun h_2 => (sx_set ev_var (sx_wk sx_next ⟨(.cons (.inl rfl) (.cons (.inl rfl) (.cons (.inl rfl) (.cons (.inl rfl) (.cons (.inl rfl) .nil))))), rfl⟩))) (fun h_2 => (sx_wk sx_next ⟨(.cons (.inl rfl) (.cons (.inl rfl) (.cons (.inl rfl) (.cons (.inl rfl) (.cons (.inl rfl) .nil))))), rfl⟩)) fun den_2 hden_2 => ?_
    exact b_seq (b_ret (ev_pair (ea_cons ev_var (ea_cons ev_var ea_nil))) (fun h => h _))
  · refine b_fall ?_
    refine b_gen fun yy_5 hyy_5 => ?_
    have qyy_5 : yy_1.2 ≠ [] ∧ 1 ≤ limit_1 ∧ Sz 150 limit_1 := (by refine ⟨?_, by omega, ?_⟩ <;> first | exact pyy_2.2.2 | exact pyy_3.2 | exact pyy_5.2 | exact pyy_1.2.2 | (rw [hlimit_2]; exact sz_lit (by decide +kernel)) | (rw [hlimit_1]; exact sz_lit (by decide +kernel)))
    have pyy_5 := p_integer qyy_5 hyy_5
    refine b_let (ev_mul (ev_callP 0 (yy_1.2, limit_1) hyy_5 (ea_cons ev_var (ea_cons ev_var ea_nil)) rfl rfl rfl qyy_5) ev_var (by first | exact sz_mulW (sz_le qyy_3.2.2 pyy_3.1) (show Sz 150 _ by unfold Sz; omega) | exact sz_mulW (sz_le qyy_4.2.2 pyy_4.1) (show Sz 150 _ by unfold Sz; omega) | exact sz_mulW (sz_le qyy_5.2.2 pyy_5.1) (show Sz 150 _ by unfold Sz; omega) | exact sz_mulW (sz_le qyy_6.2.2 pyy_6.1) (show Sz 150 _ by unfold Sz; omega))) fun num_2 hnum_2 => ?_
    refine b_gen fun yy_6 hyy_6 => ?_
    have qyy_6 : yy_5.2 ≠ [] ∧ 1 ≤ limit_1 ∧ Sz 150 limit_1 := (by refine ⟨?_, by omega, ?_⟩ <;> first | exact pyy_2.2.2 | exact pyy_3.2 | exact pyy_5.2 | exact pyy_1.2.2 | (rw [hlimit_2]; exact sz_lit (by decide +kernel)) | (rw [hlimit_1]; exact sz_lit (by decide +kernel)))
    have pyy_6 := p_integer qyy_6 hyy_6
    refine b_let (ev_mul (ev_callP 0 (yy_5.2, limit_1) hyy_6 (ea_cons ev_var (ea_cons ev_var ea_nil)) rfl rfl rfl qyy_6) ev_var (by first | exact sz_mulW (sz_le qyy_3.2.2 pyy_3.1) (show Sz 150 _ by unfold Sz; omega) | exact sz_mulW (sz_le qyy_4.2.2 pyy_4.1) (show Sz 150 _ by unfold Sz; omega) | exact sz_mulW (sz_le qyy_5.2.2 pyy_5.1) (show Sz 150 _ by unfold Sz; omega) | exact sz_mulW (sz_le qyy_6.2.2 pyy_6.1) (show Sz 150 _ by unfold Sz; omega))) fun den_3 hden_3 => ?_
    refine b_join (fun (den_4 : Int) => (⟨[.val (yV (.ref p)) (), .val yI shared_1, .val yI limit_1, .val yI num_2, .val yI den_4], []⟩ : Lc)) (fun (den_4 : Int) => ([(p, cL yI yy_6.2)] : Own)) (tt_d (ev_eq ev_var ev_int)) (x1 := shared_1) (x2 := den_3) (fun h_3 => (sx_set ev_var (sx_wk sx_next ⟨(.cons (.inl rfl) (.cons (.inl rfl) (.cons (.inl rfl) (.cons (.inl rfl) (.cons (.inl rfl) .nil))))), rfl⟩))) (fun h_3 => (sx_wk sx_next ⟨(.cons (.inl rfl) (.cons (.inl rfl) (.cons (.inl rfl) (.cons (.inl rfl) (.cons (.inl rfl) .nil))))), rfl⟩)) fun den_4 hden_4 => ?_
    exact b_seq (b_ret (ev_pair (ea_cons ev_var (ea_cons ev_var ea_nil))) (fun h => h _))

theorem fr_terms {a b s l : Int} (ha : a.natAbs ≤ l.natAbs) (hb : b.natAbs ≤ l.natAbs) (hs : 0 < s) (hl0 : 0 < l) (hl : Sz 101 (l * s)) : Fr 101 (a * s, if b * s = 0 then s else b * s) := by
  have m : ∀ x : Int, x.natAbs ≤ l.natAbs → Sz 101 (x * s) := fun x hx => sz_le hl (by rw [Int.natAbs_mul, Int.natAbs_mul]; exact Nat.mul_le_mul_right _ hx)
  refine ⟨?_, m a ha, ?_⟩
  · show (if b * s = 0 then s else b * s) ≠ 0
    split <;> omega
  · show Sz 101 (if b * s = 0 then s else b * s)
    split
    · refine sz_le hl ?_
      rw [Int.natAbs_mul]
      exact Nat.le_mul_of_pos_left _ (by omega)
    · exact m b hb
theorem p_terms {pool : List Int} (hp : pool ≠ []) {y : (Int × Int) × List Int} (hy : y = m_law_terms pool) : Fr 101 y.1 ∧ y.2 ≠ [] := by
  subst hy
  unfold m_law_terms
  simp only [bnd]
  have h1 := p_draw (pool := pool) (many := 4) ⟨hp, by omega, sz_lit (by decide +kernel)⟩ rfl
  generalize m_law_draw pool 4 = d1 at *
  split
  · have h2 := p_draw (pool := d1.2) (many := 1000000) ⟨h1.2.2, by omega, sz_lit (by decide +kernel)⟩ rfl
    generalize m_law_draw d1.2 1000000 = d2 at *
    have h3 := p_integer (pool := d2.2) (limit := 1000000000000000000000000) ⟨h2.2.2, by omega, sz_lit (by decide +kernel)⟩ rfl
    generalize m_law_integer d2.2 1000000000000000000000000 = d3 at *
    have h4 := p_integer (pool := d3.2) (limit := 1000000000000000000000000) ⟨h3.2, by omega, sz_lit (by decide +kernel)⟩ rfl
    generalize m_law_integer d3.2 1000000000000000000000000 = d4 at *
    exact ⟨fr_terms h3.1 h4.1 (by omega) (by omega) (by unfold Sz; omega), h4.2⟩
  · have h3 := p_integer (pool := d1.2) (limit := 1000000000000000000000000000000) ⟨h1.2.2, by omega, sz_lit (by decide +kernel)⟩ rfl
    generalize m_law_integer d1.2 1000000000000000000000000000000 = d3 at *
    have h4 := p_integer (pool := d3.2) (limit := 1000000000000000000000000000000) ⟨h3.2, by omega, sz_lit (by decide +kernel)⟩ rfl
    generalize m_law_integer d3.2 1000000000000000000000000000000 = d4 at *
    exact ⟨fr_terms h3.1 h4.1 (by omega) (by omega) (by unfold Sz; omega), h4.2⟩

theorem sc_law_lowest : FnScope ["num", "den", "a", "b", "rest"] ["num", "den"] (defScope s_law_lowest) := ⟨rfl, rfl, rfl, by decide +kernel, rfl, by decide +kernel, by decide +kernel⟩
def m_law_lowest (a_num : Int) (a_den : Int) : (Int × Int) :=
  bnd ((Int.natAbs a_num : Nat) : Int) fun a_1 =>
  bnd ((Int.natAbs a_den : Nat) : Int) fun b_1 =>
  ((whileL (fun s_1 : Int × Int => (¬ s_1.2 = (0 : Int))) (fun s_1 =>
  bnd (Int.fmod s_1.1 s_1.2) fun rest_1 =>
  bnd s_1.2 fun a_2 =>
  bnd rest_1 fun b_2 =>
  .go (a_2, b_2)) ((fun s => s.2.natAbs) (a_1, b_1) + 1) (a_1, b_1)).out fun s_1 =>
  bnd (if (a_den < (0 : Int)) then (-s_1.1) else s_1.1) fun a_3 =>
  ((Int.fdiv a_num a_3), (Int.fdiv a_den a_3)))
theorem low_mu {ρ : Type} {a1 b2 : Int} {s s' : Int × Int} (hj : Int.gcd s.1 s.2 = Int.gcd a1 b2) (hc : ¬ s.2 = 0) (e : (bnd (Int.fmod s.1 s.2) fun rest8 => bnd s.2 fun a9 => bnd rest8 fun b10 => Stp.go (ρ := ρ) (a9, b10)) = Stp.go s') : Int.gcd s'.1 s'.2 = Int.gcd a1 b2 ∧ s'.2.natAbs < s.2.natAbs := by
  have e2 := Stp.go.inj e
  rw [← e2]
  exact ⟨(gcd_fmod _ _).trans hj, fmod_abs_lt _ hc⟩
theorem low_div {n d a1 b2 t x : Int} {s : Int × Int} (h1 : d ≠ 0) (hp : Sz 9000 d) (e1 : a1 = (n.natAbs : Int)) (e2 : b2 = (d.natAbs : Int)) (hj : Int.gcd s.1 s.2 = Int.gcd a1 b2) (hc : ¬ ¬ s.2 = 0) (e3 : t = if d < 0 then -s.1 else s.1) : CDivZ x t := by
  have hz := Decidable.of_not_not hc
  rw [hz, e1, e2] at hj
  have hg : t.natAbs = Int.gcd n d := by
    rw [e3]
    have : s.1.natAbs = Int.gcd n d := by
      simpa [Int.gcd] using hj
    split <;> omega
  have h0 : Int.gcd n d ≠ 0 := fun z => h1 (Int.gcd_eq_zero_iff.mp z).2
  refine sz_divZ (sz_le hp ?_) fun z => h0 (by rw [← hg, z]; rfl)
  rw [hg]
  exact Nat.le_of_dvd (by omega) (Int.natAbs_dvd_natAbs.mpr (Int.gcd_dvd_right n d))
theorem lowest_eq {n d : Int} (h : d ≠ 0) : m_law_lowest n d = (n.fdiv (if d < 0 then -(Int.gcd n d : Int) else (Int.gcd n d : Int)), d.fdiv (if d < 0 then -(Int.gcd n d : Int) else (Int.gcd n d : Int))) := by
  unfold m_law_lowest
  simp only [bnd]
  obtain ⟨g, e, h1, h2⟩ := gcd_loop (ρ := Int × Int) (f := fun s3 => Stp.go (s3.2, Int.fmod s3.1 s3.2)) (fun s => rfl) (n.natAbs : Int) (d.natAbs : Int) ((d.natAbs : Int).natAbs + 1) (Nat.lt_succ_self _)
  rw [e]
  have h3 := h2 (by omega) (by omega)
  have h4 : g = (Int.gcd n d : Int) := by
    have : (Int.gcd (n.natAbs : Int) (d.natAbs : Int)) = Int.gcd n d := by simp [Int.gcd]
    omega
  subst h4
  rfl
theorem fraction_eq (r : Unit) (n d : Int) : m_Fractions_fraction r n d = if d = 0 then none else some (m_law_lowest n d) := by
  unfold m_Fractions_fraction
  by_cases h : d = 0
  · rw [if_pos h, if_pos h]
  · rw [if_neg h, if_neg h, lowest_eq h]
    simp only [bnd, gcd_pair_eq]
/-- lowest terms: no longer than what was handed in -/
theorem lowest_fr {k : Nat} {n d : Int} (h : d ≠ 0) (hn : Sz k n) (hd : Sz k d) : Fr k (m_law_lowest n d) := by
  rw [lowest_eq h]
  refine ⟨?_, sz_le hn (Int.natAbs_fdiv_le_natAbs _ _), sz_le hd (Int.natAbs_fdiv_le_natAbs _ _)⟩
  show d.fdiv _ ≠ 0
  intro z
  have h1 : ((if d < 0 then -(Int.gcd n d : Int) else (Int.gcd n d : Int)) : Int) ∣ d := by
    split
    · exact Int.neg_dvd.mpr (Int.gcd_dvd_right n d)
    · exact Int.gcd_dvd_right n d
  have h2 := Int.fdiv_mul_cancel h1
  rw [z] at h2
  omega


theorem ok_law_lowest (T : Tx P K mg) : Cl P w K mg base 1 "_law_lowest" (spF (fun a : Int × Int => [.val yI a.1, .val yI a.2]) (fun a : Int × Int => a.2 ≠ 0 ∧ Sz 9000 a.2) (yP yI yI) (fun a => m_law_lowest a.1 a.2)) := by
  obtain ⟨f, fd, hg, FD⟩ := T.g_law_lowest
  refine ⟨f, fd, ["num", "den"], ?_, hg, FD.kp, FD.bindsN fun _ _ _ _ _ _ us hl => match us, hl with | [_, _], _ => rfl⟩
  refine TL.FunD.okC (N := ["num", "den", "a", "b", "rest"]) FD sc_law_lowest (lenF fun _ => rfl) fun cdv A outer s H E hr => ?_
  refine ⟨_, (pss_cons (ps_set (i := 2) sc_law_lowest.nd rfl (by first | exact .inl rfl | exact .inr rfl) (pe_callB call_abs (by rfl) T.b_abs (by decide +kernel) (pa_cons (pv 0) pa_nil))) (pss_cons (ps_set (i := 3) sc_law_lowest.nd rfl (by first | exact .inl rfl | exact .inr rfl) (pe_callB call_abs (by rfl) T.b_abs (by decide +kernel) (pa_cons (pv 1) pa_nil))) (pss_cons (ps_while (passes_of rfl) (pt_cmpR op_ne (pv 3) pe_int (nomark _)) (pss_cons (ps_set (i := 4) sc_law_lowest.nd rfl (by first | exact .inl rfl | exact .inr rfl) (pe_op op_modN (pe_callTy call_int1 (by rfl) T.b_int (by decide +kernel) (pa_cons (pv 2) pa_nil)) (pv 3))) (pss_cons (ps_set (i := 2) sc_law_lowest.nd rfl (by first | exact .inl rfl | exact .inr rfl) (pv 3)) (pss_cons (ps_set (i := 3) sc_law_lowest.nd rfl (by first | exact .inl rfl | exact .inr rfl) (pv 4)) pss_nil)))) (pss_cons (ps_if (pt_cmpR op_lt (pv 1) pe_int (nomark _)) (pss_cons (ps_set (i := 2) sc_law_lowest.nd rfl (by first | exact .inl rfl | exact .inr rfl) (pe_un un_neg (pv 2))) pss_nil) pss_nil) (pss_cons (ps_ret (pe_tup (pa_cons (pe_op op_fdivZ (pv 0) (pv 2)) (pa_cons (pe_op op_fdivZ (pv 1) (pv 2)) pa_nil)))) pss_nil))))), fun vs Q h => run_F (fun F a rt hpre => ?_) vs H Q E h⟩
  show Bd _ _ _ _ _ _ (m_law_lowest a.1 a.2)
  unfold m_law_lowest
  refine b_let (ev_abs ev_var) fun a_1 ha_1 => ?_
  refine b_let (ev_abs ev_var) fun b_1 hb_1 => ?_
  refine b_while _ _ (fun (s_1 : Int × Int) => ([] : Own)) (fun (s_1 : Int × Int) => (⟨[.val yI a.1, .val yI a.2, .val yI s_1.1, .val yI s_1.2, .any], []⟩ : Lc)) (fun s => Int.gcd s.1 s.2 = Int.gcd a_1 b_1) (fun s => s.2.natAbs) (a_1, b_1) rfl ⟨(.cons (.inl rfl) (.cons (.inl rfl) (.cons (.inl rfl) (.cons (.inl rfl) (.cons (.inr rfl) .nil))))), rfl⟩ rfl (fun s_1 hj_1 => (tt_n (ev_ne ev_var ev_int))) (fun s s' hj hc e => low_mu hj hc e) (fun s_1 hj_1 hc_1 N B P' hgo_1 hret_1 => ?_) (fun s_1 hj_1 hc_2 => ?_)
  · refine b_let (ev_modN (ev_intI ev_var) ev_var (by first | omega | assumption | decide | exact ⟨by omega, by omega⟩)) fun rest_1 hrest_1 => ?_
    refine b_let ev_var fun a_2 ha_2 => ?_
    refine b_let ev_var fun b_2 hb_2 => ?_
    exact b_next fun h => nx_wk (hgo_1 _ h) ⟨(.cons (.inl rfl) (.cons (.inl rfl) (.cons (.inl rfl) (.cons (.inl rfl) (.cons (.inr rfl) .nil))))), rfl⟩
  · refine b_join (fun (a_3 : Int) => (⟨[.val yI a.1, .val yI a.2, .val yI a_3, .val yI s_1.2, .any], []⟩ : Lc)) (fun (a_3 : Int) => ([] : Own)) (tt_d (ev_lt ev_var ev_int)) (x1 := (-s_1.1)) (x2 := s_1.1) (fun h_1 => (sx_set (ev_neg ev_var) (sx_wk sx_next ⟨(.cons (.inl rfl) (.cons (.inl rfl) (.cons (.inl rfl) (.cons (.inl rfl) (.cons (.inr rfl) .nil))))), rfl⟩))) (fun h_1 => (sx_wk sx_next ⟨(.cons (.inl rfl) (.cons (.inl rfl) (.cons (.inl rfl) (.cons (.inl rfl) (.cons (.inr rfl) .nil))))), rfl⟩)) fun a_3 ha_3 => ?_
    exact b_seq (b_ret (ev_pair (ea_cons (ev_divN ev_var ev_var (by exact low_div hpre.1 hpre.2 ha_1 hb_1 hj_1 hc_2 ha_3)) (ea_cons (ev_divN ev_var ev_var (by exact low_div hpre.1 hpre.2 ha_1 hb_1 hj_1 hc_2 ha_3)) ea_nil))) (fun h => h _))

theorem sc_law_is_integer : FnScope ["told"] ["told"] (defScope s_law_is_integer) := ⟨rfl, rfl, rfl, by decide +kernel, rfl, by decide +kernel, by decide +kernel⟩
def m_law_is_integer (a_told : Int) : Bool :=
  (true && (!false))

theorem ok_law_is_integer (T : Tx P K mg) : Cl P w K mg base 1 "_law_is_integer" (spF (fun a : Int => [.val yI a]) (fun _ : Int => True) yB (fun a => m_law_is_integer a)) := by
  obtain ⟨f, fd, hg, FD⟩ := T.g_law_is_integer
  refine ⟨f, fd, ["told"], ?_, hg, FD.kp, FD.bindsN fun _ _ _ _ _ _ us hl => match us, hl with | [_], _ => rfl⟩
  refine TL.FunD.okC (N := ["told"]) FD sc_law_is_integer (lenF fun _ => rfl) fun cdv A outer s H E hr => ?_
  refine ⟨_, (pss_cons (ps_ret (pe_and (pe_callB call_isi (by rfl) T.b_isinstance (by decide +kernel) (pa_cons (pv 0) (pa_cons (pe_bltn (v := .ty "int") (by rfl) T.b_int (by decide +kernel) rfl) pa_nil))) (pe_one (pe_not (pe_callB call_isi (by rfl) T.b_isinstance (by decide +kernel) (pa_cons (pv 0) (pa_cons (pe_bltn (v := .ty "bool") (by rfl) T.b_bool (by decide +kernel) rfl) pa_nil))))))) pss_nil), fun vs Q h => run_F (fun F a rt hpre => ?_) vs H Q E h⟩
  show Bd _ _ _ _ _ _ (m_law_is_integer a)
  unfold m_law_is_integer
  exact b_seq (b_ret (ev_andV (ev_isi (ct := .type "int") (bb := true) ev_var (kit_ty (by decide +kernel))) fun hb_1 => (ev_notV (ev_isi (ct := .type "int") (bb := false) ev_var (kit_ty (by decide +kernel))))) (fun h => h _))

theorem sc_law_is_fraction : FnScope ["told", "due"] ["told", "due"] (defScope s_law_is_fraction) := ⟨rfl, rfl, rfl, by decide +kernel, rfl, by decide +kernel, by decide +kernel⟩
def m_law_is_fraction (a_told : (Int × Int)) (a_due : (Int × Int)) : Bool :=
  (if ((¬ (true = true)) ∨ (¬ (2 : Int) = (2 : Int))) then
  false
  else
  (if ((¬ ((m_law_is_integer a_told.1) = true)) ∨ (¬ ((m_law_is_integer a_told.2) = true))) then
  false
  else
  ((decide (a_told.1 = a_due.1)) && (decide (a_told.2 = a_due.2)))))

theorem ok_law_is_fraction (T : Tx P K mg) : Cl P w K mg base 2 "_law_is_fraction" (spF (fun a : (Int × Int) × (Int × Int) => [.val (yP yI yI) a.1, .val (yP yI yI) a.2]) (fun _ : (Int × Int) × (Int × Int) => True) yB (fun a => m_law_is_fraction a.1 a.2)) := by
  obtain ⟨f, fd, hg, FD⟩ := T.g_law_is_fraction
  refine ⟨f, fd, ["told", "due"], ?_, hg, FD.kp, FD.bindsN fun _ _ _ _ _ _ us hl => match us, hl with | [_, _], _ => rfl⟩
  refine TL.FunD.okC (N := ["told", "due"]) FD sc_law_is_fraction (lenF fun _ => rfl) fun cdv A outer s H E hr => ?_
  refine ⟨_, (pss_cons (ps_if (PW.pt (pw_or (pt_not (pt_val (pe_callB call_isi (by rfl) T.b_isinstance (by decide +kernel) (pa_cons (pv 0) (pa_cons (pe_bltn (v := .ty "tuple") (by rfl) T.b_tuple (by decide +kernel) rfl) pa_nil))))) (pw_or1 (pt_cmpR op_ne (pe_callB call_len_seq (by rfl) T.b_len (by decide +kernel) (pa_cons (pv 0) pa_nil)) pe_int (nomark _))))) (pss_cons (ps_ret pe_bl) pss_nil) pss_nil) (pss_cons (ps_if (PW.pt (pw_or (pt_not (pt_val (pe_cl (ok_law_is_integer T) hr (by decide) (by rfl) passL (pa_cons (pe_ix ix_tup (pv 0) pe_int (fun _ _ => rfl)) pa_nil)))) (pw_or1 (pt_not (pt_val (pe_cl (ok_law_is_integer T) hr (by decide) (by rfl) passL (pa_cons (pe_ix ix_tup (pv 0) pe_int (fun _ _ => rfl)) pa_nil))))))) (pss_cons (ps_ret pe_bl) pss_nil) pss_nil) (pss_cons (ps_ret (pe_and (pe_cmpR op_eq (pe_ix ix_tup (pv 0) pe_int (fun _ _ => rfl)) (pe_ix ix_tup (pv 1) pe_int (fun _ _ => rfl)) (nomark _)) (pe_one (pe_cmpR op_eq (pe_ix ix_tup (pv 0) pe_int (fun _ _ => rfl)) (pe_ix ix_tup (pv 1) pe_int (fun _ _ => rfl)) (nomark _))))) pss_nil))), fun vs Q h => run_F (fun F a rt hpre => ?_) vs H Q E h⟩
  show Bd _ _ _ _ _ _ (m_law_is_fraction a.1 a.2)
  unfold m_law_is_fraction
  refine b_seq (b_if (tt_or (tt_not (tt_b (ev_isi (ct := .type "tuple") (bb := true) ev_var (kit_ty (by decide +kernel))))) fun hb_1 => (tt_n (ev_ne (ev_lenP ev_var) ev_int))) (fun h_1 => ?_) (fun h_1 => ?_))
  · exact b_seq (b_ret ev_bl (fun h => h _))
  · refine b_fall ?_
    refine b_seq (b_if (tt_or (tt_not (tt_b (ev_call a.1.1 (ea_cons (ev_fst (x := a.1) ev_var) ea_nil) rfl trivial))) fun hb_2 => (tt_not (tt_b (ev_call a.1.2 (ea_cons (ev_snd (x := a.1) ev_var) ea_nil) rfl trivial)))) (fun h_2 => ?_) (fun h_2 => ?_))
    · exact b_seq (b_ret ev_bl (fun h => h _))
    · refine b_fall ?_
      exact b_seq (b_ret (ev_andV (ev_eq (ev_fst (x := a.1) ev_var) (ev_fst (x := a.2) ev_var)) fun hb_3 => (ev_eq (ev_snd (x := a.1) ev_var) (ev_snd (x := a.2) ev_var))) (fun h => h _))

theorem sc_law_operated : FnScope ["ring", "deed", "x", "y"] ["ring", "deed", "x", "y"] (defScope s_law_operated) := ⟨rfl, rfl, rfl, by decide +kernel, rfl, by decide +kernel, by decide +kernel⟩
def m_law_operated (a_ring : Unit) (a_deed : Int) (a_x : (Int × Int)) (a_y : (Int × Int)) : Option (Int × Int) :=
  (if (a_deed = (0 : Int)) then
  (m_Fractions_plus a_ring a_x a_y)
  else
  (if (a_deed = (1 : Int)) then
  (m_Fractions_minus a_ring a_x a_y)
  else
  (if (a_deed = (2 : Int)) then
  (m_Fractions_times a_ring a_x a_y)
  else
  (if (a_deed = (3 : Int)) then
  some (m_Fractions_negated a_ring a_x)
  else
  (if (a_deed = (4 : Int)) then
  (m_Fractions_inv a_ring a_x)
  else
  (if (a_deed = (5 : Int)) then
  (m_Fractions_over a_ring a_x a_y)
  else
  default))))))

theorem ok_law_operated (T : Tx P K mg) : Cl P w K mg base 9 "_law_operated" (spO (fun a : Unit × Int × (Int × Int) × (Int × Int) => [.val (y_Fractions K) a.1, .val yI a.2.1, .val (yP yI yI) a.2.2.1, .val (yP yI yI) a.2.2.2]) (fun a : Unit × Int × (Int × Int) × (Int × Int) => 0 ≤ a.2.1 ∧ a.2.1 < 6 ∧ Fr 2000 a.2.2.1 ∧ Fr 2000 a.2.2.2) (yP yI yI) (.ref (He.ga K "ZeroError")) (fun a => m_law_operated a.1 a.2.1 a.2.2.1 a.2.2.2)) := by
  obtain ⟨f, fd, hg, FD⟩ := T.g_law_operated
  refine ⟨f, fd, ["ring", "deed", "x", "y"], ?_, hg, FD.kp, FD.bindsN fun _ _ _ _ _ _ us hl => match us, hl with | [_, _, _, _], _ => rfl⟩
  refine TL.FunD.okC (N := ["ring", "deed", "x", "y"]) FD sc_law_operated (lenO fun _ => rfl) fun cdv A outer s H E hr => ?_
  refine ⟨_, (pss_cons (ps_if (pt_cmpR op_eq (pv 1) pe_int (nomark _)) (pss_cons (ps_ret (pe_mth (ok_Fractions_plus T) hr (by decide) (passes_call (takes_of rfl rfl rfl rfl) (fun _ _ _ _ z => z)) (pv 0) (pa_cons (pv 2) (pa_cons (pv 3) pa_nil)))) pss_nil) pss_nil) (pss_cons (ps_if (pt_cmpR op_eq (pv 1) pe_int (nomark _)) (pss_cons (ps_ret (pe_mth (ok_Fractions_minus T) hr (by decide) (passes_call (takes_of rfl rfl rfl rfl) (fun _ _ _ _ z => z)) (pv 0) (pa_cons (pv 2) (pa_cons (pv 3) pa_nil)))) pss_nil) pss_nil) (pss_cons (ps_if (pt_cmpR op_eq (pv 1) pe_int (nomark _)) (pss_cons (ps_ret (pe_mth (ok_Fractions_times T) hr (by decide) (passes_call (takes_of rfl rfl rfl rfl) (fun _ _ _ _ z => z)) (pv 0) (pa_cons (pv 2) (pa_cons (pv 3) pa_nil)))) pss_nil) pss_nil) (pss_cons (ps_if (pt_cmpR op_eq (pv 1) pe_int (nomark _)) (pss_cons (ps_ret (pe_mth (ok_Fractions_negated T) hr (by decide) passL (pv 0) (pa_cons (pv 2) pa_nil))) pss_nil) pss_nil) (pss_cons (ps_if (pt_cmpR op_eq (pv 1) pe_int (nomark _)) (pss_cons (ps_ret (pe_mth (ok_Fractions_inv T) hr (by decide) (passes_call (takes_of rfl rfl rfl rfl) (fun _ _ _ _ z => z)) (pv 0) (pa_cons (pv 2) pa_nil))) pss_nil) pss_nil) (pss_cons (ps_if (pt_cmpR op_eq (pv 1) pe_int (nomark _)) (pss_cons (ps_ret (pe_mth (ok_Fractions_over T) hr (by decide) (passes_call (takes_of rfl rfl rfl rfl) (fun _ _ _ _ z => z)) (pv 0) (pa_cons (pv 2) (pa_cons (pv 3) pa_nil)))) pss_nil) pss_nil) (pss_cons (ps_ret (pe_mth (ok_Fractions_fraction T) hr (by decide) (passes_call (takes_of rfl rfl rfl rfl) (fun _ _ _ _ z => z)) (pv 0) (pa_cons (pv 2) (pa_cons (pv 3) pa_nil)))) pss_nil))))))), fun vs Q h => run_O (fun F a rt hpre => ?_) vs H Q h⟩
  obtain ⟨g1, g2, g3, g4⟩ := hpre
  show Bd _ _ _ _ _ _ (m_law_operated a.1 a.2.1 a.2.2.1 a.2.2.2)
  unfold m_law_operated
  refine b_seq (b_if (tt_d (ev_eq ev_var ev_int)) (fun h_1 => ?_) (fun h_1 => ?_))
  · exact b_seq (b_retMO (m := "plus") (a.1, a.2.2.1, a.2.2.2) ev_var nm_Fractions_plus (ea_cons ev_var (ea_cons ev_var ea_nil)) rfl (by first | omega | exact fr_big ‹_› ‹_› | exact fr_big1 ‹_›) (fun h b e => (h).1 b e _) (fun h e => (h).2 e))
  · refine b_fall ?_
    refine b_seq (b_if (tt_d (ev_eq ev_var ev_int)) (fun h_2 => ?_) (fun h_2 => ?_))
    · exact b_seq (b_retMO (m := "minus") (a.1, a.2.2.1, a.2.2.2) ev_var nm_Fractions_minus (ea_cons ev_var (ea_cons ev_var ea_nil)) rfl (by first | omega | exact fr_big ‹_› ‹_› | exact fr_big1 ‹_›) (fun h b e => (h).1 b e _) (fun h e => (h).2 e))
    · refine b_fall ?_
      refine b_seq (b_if (tt_d (ev_eq ev_var ev_int)) (fun h_3 => ?_) (fun h_3 => ?_))
      · exact b_seq (b_retMO (m := "times") (a.1, a.2.2.1, a.2.2.2) ev_var nm_Fractions_times (ea_cons ev_var (ea_cons ev_var ea_nil)) rfl (by first | omega | exact fr_big ‹_› ‹_› | exact fr_big1 ‹_›) (fun h b e => (h).1 b e _) (fun h e => (h).2 e))
      · refine b_fall ?_
        refine b_seq (b_if (tt_d (ev_eq ev_var ev_int)) (fun h_4 => ?_) (fun h_4 => ?_))
        · exact b_seq (b_ret (ev_meth (m := "negated") (a.1, a.2.2.1) ev_var nm_Fractions_negated (ea_cons ev_var ea_nil) rfl trivial) (fun h => h.1 _ rfl _))
        · refine b_fall ?_
          refine b_seq (b_if (tt_d (ev_eq ev_var ev_int)) (fun h_5 => ?_) (fun h_5 => ?_))
          · exact b_seq (b_retMO (m := "inv") (a.1, a.2.2.1) ev_var nm_Fractions_inv (ea_cons ev_var ea_nil) rfl (by first | omega | exact fr_big ‹_› ‹_› | exact fr_big1 ‹_›) (fun h b e => (h).1 b e _) (fun h e => (h).2 e))
          · refine b_fall ?_
            refine b_seq (b_if (tt_d (ev_eq ev_var ev_int)) (fun h_6 => ?_) (fun h_6 => ?_))
            · exact b_seq (b_retMO (m := "over") (a.1, a.2.2.1, a.2.2.2) ev_var nm_Fractions_over (ea_cons ev_var (ea_cons ev_var ea_nil)) rfl (by first | omega | exact fr_big ‹_› ‹_› | exact fr_big1 ‹_›) (fun h b e => (h).1 b e _) (fun h e => (h).2 e))
            · refine b_fall ?_
              exact b_dead (by first | omega | exact fr_big ‹_› ‹_› | exact fr_big1 ‹_›)

def m_law_operated_6 (a_ring : Unit) (a_deed : Int) (a_x : Int) (a_y : Int) : Option (Int × Int) :=
  (m_Fractions_fraction a_ring a_x a_y)

theorem ok_law_operated_6 (T : Tx P K mg) : Cl P w K mg base 9 "_law_operated" (spO (fun a : Unit × Int × Int × Int => [.val (y_Fractions K) a.1, .val yI a.2.1, .val yI a.2.2.1, .val yI a.2.2.2]) (fun a : Unit × Int × Int × Int => a.2.1 = 6 ∧ Sz 9000 a.2.2.2) (yP yI yI) (.ref (He.ga K "ZeroError")) (fun a => m_law_operated_6 a.1 a.2.1 a.2.2.1 a.2.2.2)) := by
  obtain ⟨f, fd, hg, FD⟩ := T.g_law_operated
  refine ⟨f, fd, ["ring", "deed", "x", "y"], ?_, hg, FD.kp, FD.bindsN fun _ _ _ _ _ _ us hl => match us, hl with | [_, _, _, _], _ => rfl⟩
  refine TL.FunD.okC (N := ["ring", "deed", "x", "y"]) FD sc_law_operated (lenO fun _ => rfl) fun cdv A outer s H E hr => ?_
  refine ⟨_, (pss_cons (ps_if (pt_cmpR op_eq (pv 1) pe_int (nomark _)) (pss_cons (ps_ret (pe_mth (ok_Fractions_plus T) hr (by decide) (passes_call (takes_of rfl rfl rfl rfl) (fun _ _ _ _ z => z)) (pv 0) (pa_cons (pv 2) (pa_cons (pv 3) pa_nil)))) pss_nil) pss_nil) (pss_cons (ps_if (pt_cmpR op_eq (pv 1) pe_int (nomark _)) (pss_cons (ps_ret (pe_mth (ok_Fractions_minus T) hr (by decide) (passes_call (takes_of rfl rfl rfl rfl) (fun _ _ _ _ z => z)) (pv 0) (pa_cons (pv 2) (pa_cons (pv 3) pa_nil)))) pss_nil) pss_nil) (pss_cons (ps_if (pt_cmpR op_eq (pv 1) pe_int (nomark _)) (pss_cons (ps_ret (pe_mth (ok_Fractions_times T) hr (by decide) (passes_call (takes_of rfl rfl rfl rfl) (fun _ _ _ _ z => z)) (pv 0) (pa_cons (pv 2) (pa_cons (pv 3) pa_nil)))) pss_nil) pss_nil) (pss_cons (ps_if (pt_cmpR op_eq (pv 1) pe_int (nomark _)) (pss_cons (ps_ret (pe_mth (ok_Fractions_negated T) hr (by decide) passL (pv 0) (pa_cons (pv 2) pa_nil))) pss_nil) pss_nil) (pss_cons (ps_if (pt_cmpR op_eq (pv 1) pe_int (nomark _)) (pss_cons (ps_ret (pe_mth (ok_Fractions_inv T) hr (by decide) (passes_call (takes_of rfl rfl rfl rfl) (fun _ _ _ _ z => z)) (pv 0) (pa_cons (pv 2) pa_nil))) pss_nil) pss_nil) (pss_cons (ps_if (pt_cmpR op_eq (pv 1) pe_int (nomark _)) (pss_cons (ps_ret (pe_mth (ok_Fractions_over T) hr (by decide) (passes_call (takes_of rfl rfl rfl rfl) (fun _ _ _ _ z => z)) (pv 0) (pa_cons (pv 2) (pa_cons (pv 3) pa_nil)))) pss_nil) pss_nil) (pss_cons (ps_ret (pe_mth (ok_Fractions_fraction T) hr (by decide) (passes_call (takes_of rfl rfl rfl rfl) (fun _ _ _ _ z => z)) (pv 0) (pa_cons (pv 2) (pa_cons (pv 3) pa_nil)))) pss_nil))))))), fun vs Q h => run_O (fun F a rt hpre => ?_) vs H Q h⟩
  obtain ⟨g1, g2⟩ := hpre
  show Bd _ _ _ _ _ _ (m_law_operated_6 a.1 a.2.1 a.2.2.1 a.2.2.2)
  unfold m_law_operated_6
  refine b_seq (b_ifF (tt_d (ev_eq ev_var ev_int)) (by first | omega | assumption) ?_)
  refine b_fall ?_
  refine b_seq (b_ifF (tt_d (ev_eq ev_var ev_int)) (by first | omega | assumption) ?_)
  refine b_fall ?_
  refine b_seq (b_ifF (tt_d (ev_eq ev_var ev_int)) (by first | omega | assumption) ?_)
  refine b_fall ?_
  refine b_seq (b_ifF (tt_d (ev_eq ev_var ev_int)) (by first | omega | assumption) ?_)
  refine b_fall ?_
  refine b_seq (b_ifF (tt_d (ev_eq ev_var ev_int)) (by first | omega | assumption) ?_)
  refine b_fall ?_
  refine b_seq (b_ifF (tt_d (ev_eq ev_var ev_int)) (by first | omega | assumption) ?_)
  refine b_fall ?_
  exact b_seq (b_retMO (m := "fraction") (a.1, a.2.2.1, a.2.2.2) ev_var nm_Fractions_fraction (ea_cons ev_var (ea_cons ev_var ea_nil)) rfl (by first | omega | assumption) (fun h b e => (h).1 b e _) (fun h e => (h).2 e))

theorem sc_law_asked : FnScope ["ring", "deed", "x", "y", "told", "e", "kinds"] ["ring", "deed", "x", "y"] (defScope s_law_asked) := ⟨rfl, rfl, rfl, by decide +kernel, rfl, by decide +kernel, by decide +kernel⟩
def m_law_asked (a_ring : Unit) (a_deed : Int) (a_x : (Int × Int)) (a_y : (Int × Int)) : (Str × ((List Bool) ⊕ (Int × Int))) :=
  (oel (m_law_operated a_ring a_deed a_x a_y) (bnd [true, false, false] fun kinds_1 =>
  (("refused" : Str), (Sum.inl kinds_1))) fun told_1 =>
  (("told" : Str), (Sum.inr told_1)))

theorem ok_law_asked (T : Tx P K mg) : Cl P w K mg base 10 "_law_asked" (spF (fun a : Unit × Int × (Int × Int) × (Int × Int) => [.val (y_Fractions K) a.1, .val yI a.2.1, .val (yP yI yI) a.2.2.1, .val (yP yI yI) a.2.2.2]) (fun a : Unit × Int × (Int × Int) × (Int × Int) => 0 ≤ a.2.1 ∧ a.2.1 < 6 ∧ Fr 2000 a.2.2.1 ∧ Fr 2000 a.2.2.2) (yQ yS (ySum (yL yB) (yP yI yI))) (fun a => m_law_asked a.1 a.2.1 a.2.2.1 a.2.2.2)) := by
  obtain ⟨f, fd, hg, FD⟩ := T.g_law_asked
  refine ⟨f, fd, ["ring", "deed", "x", "y"], ?_, hg, FD.kp, FD.bindsN fun _ _ _ _ _ _ us hl => match us, hl with | [_, _, _, _], _ => rfl⟩
  refine TL.FunD.okC (N := ["ring", "deed", "x", "y", "told", "e", "kinds"]) FD sc_law_asked (lenF fun _ => rfl) fun cdv A outer s H E hr => ?_
  refine ⟨_, (pss_cons (ps_try_as (i := 5) rfl rfl sc_law_asked.nd rfl (by rfl) ⟨by rfl, by decide, .inl T.gc_ClosingError⟩ tk_never (fun W pn xe tkW pas => pss_cons (ps_set (i := 4) sc_law_asked.nd rfl (by first | exact .inl rfl | exact .inr rfl) (pe_clS (ok_law_operated T) hr (by decide) (by rfl) tkW (pa_cons (pv 0) (pa_cons (pv 1) (pa_cons (pv 2) (pa_cons (pv 3) pa_nil)))))) pss_nil) (fun aa oe cls d pn hz hf => (pss_cons (ps_set (i := 6) sc_law_asked.nd rfl (by first | exact .inl rfl | exact .inr rfl) (pe_lst (pa_cons (pe_callB (call_isX hz hf) (by rfl) T.b_isinstance (by decide +kernel) (pa_cons (pv 5) (pa_cons (pe_glob (v := .ref (He.ga K "ZeroError")) (by rfl) T.gc_ZeroError rfl) pa_nil))) (pa_cons (pe_callB (call_isX hz hf) (by rfl) T.b_isinstance (by decide +kernel) (pa_cons (pv 5) (pa_cons (pe_glob (v := .ref (He.ga K "NumberError")) (by rfl) T.gc_NumberError rfl) pa_nil))) (pa_cons (pe_callB (call_isX hz hf) (by rfl) T.b_isinstance (by decide +kernel) (pa_cons (pv 5) (pa_cons (pe_glob (v := .ref (He.ga K "SizeError")) (by rfl) T.gc_SizeError rfl) pa_nil))) pa_nil))))) (pss_cons (ps_ret (pe_lst (pa_cons pe_str (pa_cons (pv 6) pa_nil)))) pss_nil)))) (pss_cons (ps_ret (pe_lst (pa_cons pe_str (pa_cons (pv 4) pa_nil)))) pss_nil)), fun vs Q h => run_F (fun F a rt hpre => ?_) vs H Q E h⟩
  show Bd _ _ _ _ _ _ (m_law_asked a.1 a.2.1 a.2.2.1 a.2.2.2)
  unfold m_law_asked
  refine b_tryO (a.1, a.2.1, a.2.2.1, a.2.2.2) (ea_cons ev_var (ea_cons ev_var (ea_cons ev_var (ea_cons ev_var ea_nil)))) rfl (by exact hpre) T.em_ZeroError_ClosingError (fun told_1 htold_1 => ?_) (fun hn_1 aa N1 B1 C1 => ?_)
  · exact b_seq (b_ret (ev_two (ea_cons ev_str (ea_cons (ev_inr ev_var) ea_nil))) (fun h => h _))
  · refine b_let (ev_l (evl_lst (t := yB) (xs := [true, false, false]) (ea_cons (ev_isX T.ec_ZeroError ev_var T.kx_ZeroError_ZeroError) (ea_cons (ev_isX T.ec_ZeroError ev_var T.kx_ZeroError_NumberError) (ea_cons (ev_isX T.ec_ZeroError ev_var T.kx_ZeroError_SizeError) ea_nil))) rfl (lit_len 3 rfl (by decide)))) fun kinds_1 hkinds_1 => ?_
    exact b_seq (b_ret (ev_two (ea_cons ev_str (ea_cons (ev_inl ev_var) ea_nil))) (fun h => h _))

def m_law_asked_6 (a_ring : Unit) (a_deed : Int) (a_x : Int) (a_y : Int) : (Str × ((List Bool) ⊕ (Int × Int))) :=
  (oel (m_law_operated_6 a_ring a_deed a_x a_y) (bnd [true, false, false] fun kinds_1 =>
  (("refused" : Str), (Sum.inl kinds_1))) fun told_1 =>
  (("told" : Str), (Sum.inr told_1)))

theorem ok_law_asked_6 (T : Tx P K mg) : Cl P w K mg base 10 "_law_asked" (spF (fun a : Unit × Int × Int × Int => [.val (y_Fractions K) a.1, .val yI a.2.1, .val yI a.2.2.1, .val yI a.2.2.2]) (fun a : Unit × Int × Int × Int => a.2.1 = 6 ∧ Sz 9000 a.2.2.2) (yQ yS (ySum (yL yB) (yP yI yI))) (fun a => m_law_asked_6 a.1 a.2.1 a.2.2.1 a.2.2.2)) := by
  obtain ⟨f, fd, hg, FD⟩ := T.g_law_asked
  refine ⟨f, fd, ["ring", "deed", "x", "y"], ?_, hg, FD.kp, FD.bindsN fun _ _ _ _ _ _ us hl => match us, hl with | [_, _, _, _], _ => rfl⟩
  refine TL.FunD.okC (N := ["ring", "deed", "x", "y", "told", "e", "kinds"]) FD sc_law_asked (lenF fun _ => rfl) fun cdv A outer s H E hr => ?_
  refine ⟨_, (pss_cons (ps_try_as (i := 5) rfl rfl sc_law_asked.nd rfl (by rfl) ⟨by rfl, by decide, .inl T.gc_ClosingError⟩ tk_never (fun W pn xe tkW pas => pss_cons (ps_set (i := 4) sc_law_asked.nd rfl (by first | exact .inl rfl | exact .inr rfl) (pe_clS (ok_law_operated_6 T) hr (by decide) (by rfl) tkW (pa_cons (pv 0) (pa_cons (pv 1) (pa_cons (pv 2) (pa_cons (pv 3) pa_nil)))))) pss_nil) (fun aa oe cls d pn hz hf => (pss_cons (ps_set (i := 6) sc_law_asked.nd rfl (by first | exact .inl rfl | exact .inr rfl) (pe_lst (pa_cons (pe_callB (call_isX hz hf) (by rfl) T.b_isinstance (by decide +kernel) (pa_cons (pv 5) (pa_cons (pe_glob (v := .ref (He.ga K "ZeroError")) (by rfl) T.gc_ZeroError rfl) pa_nil))) (pa_cons (pe_callB (call_isX hz hf) (by rfl) T.b_isinstance (by decide +kernel) (pa_cons (pv 5) (pa_cons (pe_glob (v := .ref (He.ga K "NumberError")) (by rfl) T.gc_NumberError rfl) pa_nil))) (pa_cons (pe_callB (call_isX hz hf) (by rfl) T.b_isinstance (by decide +kernel) (pa_cons (pv 5) (pa_cons (pe_glob (v := .ref (He.ga K "SizeError")) (by rfl) T.gc_SizeError rfl) pa_nil))) pa_nil))))) (pss_cons (ps_ret (pe_lst (pa_cons pe_str (pa_cons (pv 6) pa_nil)))) pss_nil)))) (pss_cons (ps_ret (pe_lst (pa_cons pe_str (pa_cons (pv 4) pa_nil)))) pss_nil)), fun vs Q h => run_F (fun F a rt hpre => ?_) vs H Q E h⟩
  show Bd _ _ _ _ _ _ (m_law_asked_6 a.1 a.2.1 a.2.2.1 a.2.2.2)
  unfold m_law_asked_6
  refine b_tryO (a.1, a.2.1, a.2.2.1, a.2.2.2) (ea_cons ev_var (ea_cons ev_var (ea_cons ev_var (ea_cons ev_var ea_nil)))) rfl (by exact hpre) T.em_ZeroError_ClosingError (fun told_1 htold_1 => ?_) (fun hn_1 aa N1 B1 C1 => ?_)
  · exact b_seq (b_ret (ev_two (ea_cons ev_str (ea_cons (ev_inr ev_var) ea_nil))) (fun h => h _))
  · refine b_let (ev_l (evl_lst (t := yB) (xs := [true, false, false]) (ea_cons (ev_isX T.ec_ZeroError ev_var T.kx_ZeroError_ZeroError) (ea_cons (ev_isX T.ec_ZeroError ev_var T.kx_ZeroError_NumberError) (ea_cons (ev_isX T.ec_ZeroError ev_var T.kx_ZeroError_SizeError) ea_nil))) rfl (lit_len 3 rfl (by decide)))) fun kinds_1 hkinds_1 => ?_
    exact b_seq (b_ret (ev_two (ea_cons ev_str (ea_cons (ev_inl ev_var) ea_nil))) (fun h => h _))

theorem sc_law_due : FnScope ["deed", "x", "y"] ["deed", "x", "y"] (defScope s_law_due) := ⟨rfl, rfl, rfl, by decide +kernel, rfl, by decide +kernel, by decide +kernel⟩
def m_law_due (a_deed : Int) (a_x : (Int × Int)) (a_y : (Int × Int)) : (List (Int × Int)) :=
  (if (((a_deed = (4 : Int)) ∧ (a_x.1 = (0 : Int))) ∨ ((a_deed = (5 : Int)) ∧ (a_y.1 = (0 : Int)))) then
  ([] : List (Int × Int))
  else
  (if (a_deed = (0 : Int)) then
  [(m_law_lowest ((a_x.1 * a_y.2) + (a_y.1 * a_x.2)) (a_x.2 * a_y.2))]
  else
  (if (a_deed = (1 : Int)) then
  [(m_law_lowest ((a_x.1 * a_y.2) - (a_y.1 * a_x.2)) (a_x.2 * a_y.2))]
  else
  (if (a_deed = (2 : Int)) then
  [(m_law_lowest (a_x.1 * a_y.1) (a_x.2 * a_y.2))]
  else
  (if (a_deed = (3 : Int)) then
  [((-a_x.1), a_x.2)]
  else
  (if (a_deed = (4 : Int)) then
  [(m_law_lowest a_x.2 a_x.1)]
  else
  [(m_law_lowest (a_x.1 * a_y.2) (a_x.2 * a_y.1))]))))))

theorem ok_law_due (T : Tx P K mg) : Cl P w K mg base 2 "_law_due" (spF (fun a : Int × (Int × Int) × (Int × Int) => [.val yI a.1, .val (yP yI yI) a.2.1, .val (yP yI yI) a.2.2]) (fun a : Int × (Int × Int) × (Int × Int) => 0 ≤ a.1 ∧ a.1 < 6 ∧ Fr 2000 a.2.1 ∧ Fr 2000 a.2.2) (yL (yP yI yI)) (fun a => m_law_due a.1 a.2.1 a.2.2)) := by
  obtain ⟨f, fd, hg, FD⟩ := T.g_law_due
  refine ⟨f, fd, ["deed", "x", "y"], ?_, hg, FD.kp, FD.bindsN fun _ _ _ _ _ _ us hl => match us, hl with | [_, _, _], _ => rfl⟩
  refine TL.FunD.okC (N := ["deed", "x", "y"]) FD sc_law_due (lenF fun _ => rfl) fun cdv A outer s H E hr => ?_
  refine ⟨_, (pss_cons (ps_if (PW.pt (pw_or (PW.pt (pw_and (pt_cmpR op_eq (pv 0) pe_int (nomark _)) (pw_and1 (pt_cmpR op_eq (pe_ix ix_tup (pv 1) pe_int (fun _ _ => rfl)) pe_int (nomark _))))) (pw_or1 (PW.pt (pw_and (pt_cmpR op_eq (pv 0) pe_int (nomark _)) (pw_and1 (pt_cmpR op_eq (pe_ix ix_tup (pv 2) pe_int (fun _ _ => rfl)) pe_int (nomark _)))))))) (pss_cons (ps_ret (pe_lst pa_nil)) pss_nil) pss_nil) (pss_cons (ps_if (pt_cmpR op_eq (pv 0) pe_int (nomark _)) (pss_cons (ps_ret (pe_lst (pa_cons (pe_cl (ok_law_lowest T) hr (by decide) (by rfl) passL (pa_cons (pe_op op_add (pe_op op_mulW (pe_ix ix_tup (pv 1) pe_int (fun _ _ => rfl)) (pe_ix ix_tup (pv 2) pe_int (fun _ _ => rfl))) (pe_op op_mulW (pe_ix ix_tup (pv 2) pe_int (fun _ _ => rfl)) (pe_ix ix_tup (pv 1) pe_int (fun _ _ => rfl)))) (pa_cons (pe_op op_mulW (pe_ix ix_tup (pv 1) pe_int (fun _ _ => rfl)) (pe_ix ix_tup (pv 2) pe_int (fun _ _ => rfl))) pa_nil))) pa_nil))) pss_nil) pss_nil) (pss_cons (ps_if (pt_cmpR op_eq (pv 0) pe_int (nomark _)) (pss_cons (ps_ret (pe_lst (pa_cons (pe_cl (ok_law_lowest T) hr (by decide) (by rfl) passL (pa_cons (pe_op op_sub (pe_op op_mulW (pe_ix ix_tup (pv 1) pe_int (fun _ _ => rfl)) (pe_ix ix_tup (pv 2) pe_int (fun _ _ => rfl))) (pe_op op_mulW (pe_ix ix_tup (pv 2) pe_int (fun _ _ => rfl)) (pe_ix ix_tup (pv 1) pe_int (fun _ _ => rfl)))) (pa_cons (pe_op op_mulW (pe_ix ix_tup (pv 1) pe_int (fun _ _ => rfl)) (pe_ix ix_tup (pv 2) pe_int (fun _ _ => rfl))) pa_nil))) pa_nil))) pss_nil) pss_nil) (pss_cons (ps_if (pt_cmpR op_eq (pv 0) pe_int (nomark _)) (pss_cons (ps_ret (pe_lst (pa_cons (pe_cl (ok_law_lowest T) hr (by decide) (by rfl) passL (pa_cons (pe_op op_mulW (pe_ix ix_tup (pv 1) pe_int (fun _ _ => rfl)) (pe_ix ix_tup (pv 2) pe_int (fun _ _ => rfl))) (pa_cons (pe_op op_mulW (pe_ix ix_tup (pv 1) pe_int (fun _ _ => rfl)) (pe_ix ix_tup (pv 2) pe_int (fun _ _ => rfl))) pa_nil))) pa_nil))) pss_nil) pss_nil) (pss_cons (ps_if (pt_cmpR op_eq (pv 0) pe_int (nomark _)) (pss_cons (ps_ret (pe_lst (pa_cons (pe_tup (pa_cons (pe_un un_neg (pe_ix ix_tup (pv 1) pe_int (fun _ _ => rfl))) (pa_cons (pe_ix ix_tup (pv 1) pe_int (fun _ _ => rfl)) pa_nil))) pa_nil))) pss_nil) pss_nil) (pss_cons (ps_if (pt_cmpR op_eq (pv 0) pe_int (nomark _)) (pss_cons (ps_ret (pe_lst (pa_cons (pe_cl (ok_law_lowest T) hr (by decide) (by rfl) passL (pa_cons (pe_ix ix_tup (pv 1) pe_int (fun _ _ => rfl)) (pa_cons (pe_ix ix_tup (pv 1) pe_int (fun _ _ => rfl)) pa_nil))) pa_nil))) pss_nil) pss_nil) (pss_cons (ps_ret (pe_lst (pa_cons (pe_cl (ok_law_lowest T) hr (by decide) (by rfl) passL (pa_cons (pe_op op_mulW (pe_ix ix_tup (pv 1) pe_int (fun _ _ => rfl)) (pe_ix ix_tup (pv 2) pe_int (fun _ _ => rfl))) (pa_cons (pe_op op_mulW (pe_ix ix_tup (pv 1) pe_int (fun _ _ => rfl)) (pe_ix ix_tup (pv 2) pe_int (fun _ _ => rfl))) pa_nil))) pa_nil))) pss_nil))))))), fun vs Q h => run_F (fun F a rt hpre => ?_) vs H Q E h⟩
  obtain ⟨g1, g2, ⟨hx0, hx1, hx2⟩, ⟨hy0, hy1, hy2⟩⟩ := hpre
  show Bd _ _ _ _ _ _ (m_law_due a.1 a.2.1 a.2.2)
  unfold m_law_due
  refine b_seq (b_if (tt_or (tt_and (tt_d (ev_eq ev_var ev_int)) fun hb_1 => (tt_d (ev_eq (ev_fst (x := a.2.1) ev_var) ev_int))) fun hb_3 => (tt_and (tt_d (ev_eq ev_var ev_int)) fun hb_2 => (tt_d (ev_eq (ev_fst (x := a.2.2) ev_var) ev_int)))) (fun h_1 => ?_) (fun h_1 => ?_))
  · exact b_seq (b_ret (ev_l (evl_lst (t := (yP yI yI)) (xs := []) ea_nil rfl (by decide))) (fun h => h _))
  · refine b_fall ?_
    refine b_seq (b_if (tt_d (ev_eq ev_var ev_int)) (fun h_2 => ?_) (fun h_2 => ?_))
    · exact b_seq (b_ret (ev_l (evl_lst (t := (yP yI yI)) (xs := [(m_law_lowest ((a.2.1.1 * a.2.2.2) + (a.2.2.1 * a.2.1.2)) (a.2.1.2 * a.2.2.2))]) (ea_cons (ev_call (((a.2.1.1 * a.2.2.2) + (a.2.2.1 * a.2.1.2)), (a.2.1.2 * a.2.2.2)) (ea_cons (ev_add (ev_mul (ev_fst (x := a.2.1) ev_var) (ev_snd (x := a.2.2) ev_var) (by exact sz_mulW ‹_› ‹_›)) (ev_mul (ev_fst (x := a.2.2) ev_var) (ev_snd (x := a.2.1) ev_var) (by exact sz_mulW ‹_› ‹_›))) (ea_cons (ev_mul (ev_snd (x := a.2.1) ev_var) (ev_snd (x := a.2.2) ev_var) (by exact sz_mulW ‹_› ‹_›)) ea_nil)) rfl (by first | exact ⟨Int.mul_ne_zero hx0 hy0, sz_mono (sz_mul ‹_› ‹_›) (by omega)⟩ | exact ⟨by omega, sz_mono hx1 (by omega)⟩ | exact ⟨Int.mul_ne_zero hx0 (by omega), sz_mono (sz_mul ‹_› ‹_›) (by omega)⟩)) ea_nil) rfl (lit_len 1 rfl (by decide)))) (fun h => h _))
    · refine b_fall ?_
      refine b_seq (b_if (tt_d (ev_eq ev_var ev_int)) (fun h_3 => ?_) (fun h_3 => ?_))
      · exact b_seq (b_ret (ev_l (evl_lst (t := (yP yI yI)) (xs := [(m_law_lowest ((a.2.1.1 * a.2.2.2) - (a.2.2.1 * a.2.1.2)) (a.2.1.2 * a.2.2.2))]) (ea_cons (ev_call (((a.2.1.1 * a.2.2.2) - (a.2.2.1 * a.2.1.2)), (a.2.1.2 * a.2.2.2)) (ea_cons (ev_sub (ev_mul (ev_fst (x := a.2.1) ev_var) (ev_snd (x := a.2.2) ev_var) (by exact sz_mulW ‹_› ‹_›)) (ev_mul (ev_fst (x := a.2.2) ev_var) (ev_snd (x := a.2.1) ev_var) (by exact sz_mulW ‹_› ‹_›))) (ea_cons (ev_mul (ev_snd (x := a.2.1) ev_var) (ev_snd (x := a.2.2) ev_var) (by exact sz_mulW ‹_› ‹_›)) ea_nil)) rfl (by first | exact ⟨Int.mul_ne_zero hx0 hy0, sz_mono (sz_mul ‹_› ‹_›) (by omega)⟩ | exact ⟨by omega, sz_mono hx1 (by omega)⟩ | exact ⟨Int.mul_ne_zero hx0 (by omega), sz_mono (sz_mul ‹_› ‹_›) (by omega)⟩)) ea_nil) rfl (lit_len 1 rfl (by decide)))) (fun h => h _))
      · refine b_fall ?_
        refine b_seq (b_if (tt_d (ev_eq ev_var ev_int)) (fun h_4 => ?_) (fun h_4 => ?_))
        · exact b_seq (b_ret (ev_l (evl_lst (t := (yP yI yI)) (xs := [(m_law_lowest (a.2.1.1 * a.2.2.1) (a.2.1.2 * a.2.2.2))]) (ea_cons (ev_call ((a.2.1.1 * a.2.2.1), (a.2.1.2 * a.2.2.2)) (ea_cons (ev_mul (ev_fst (x := a.2.1) ev_var) (ev_fst (x := a.2.2) ev_var) (by exact sz_mulW ‹_› ‹_›)) (ea_cons (ev_mul (ev_snd (x := a.2.1) ev_var) (ev_snd (x := a.2.2) ev_var) (by exact sz_mulW ‹_› ‹_›)) ea_nil)) rfl (by first | exact ⟨Int.mul_ne_zero hx0 hy0, sz_mono (sz_mul ‹_› ‹_›) (by omega)⟩ | exact ⟨by omega, sz_mono hx1 (by omega)⟩ | exact ⟨Int.mul_ne_zero hx0 (by omega), sz_mono (sz_mul ‹_› ‹_›) (by omega)⟩)) ea_nil) rfl (lit_len 1 rfl (by decide)))) (fun h => h _))
        · refine b_fall ?_
          refine b_seq (b_if (tt_d (ev_eq ev_var ev_int)) (fun h_5 => ?_) (fun h_5 => ?_))
          · exact b_seq (b_ret (ev_l (evl_lst (t := (yP yI yI)) (xs := [((-a.2.1.1), a.2.1.2)]) (ea_cons (ev_pair (ea_cons (ev_neg (ev_fst (x := a.2.1) ev_var)) (ea_cons (ev_snd (x := a.2.1) ev_var) ea_nil))) ea_nil) rfl (lit_len 1 rfl (by decide)))) (fun h => h _))
          · refine b_fall ?_
            refine b_seq (b_if (tt_d (ev_eq ev_var ev_int)) (fun h_6 => ?_) (fun h_6 => ?_))
            · exact b_seq (b_ret (ev_l (evl_lst (t := (yP yI yI)) (xs := [(m_law_lowest a.2.1.2 a.2.1.1)]) (ea_cons (ev_call (a.2.1.2, a.2.1.1) (ea_cons (ev_snd (x := a.2.1) ev_var) (ea_cons (ev_fst (x := a.2.1) ev_var) ea_nil)) rfl (by first | exact ⟨Int.mul_ne_zero hx0 hy0, sz_mono (sz_mul ‹_› ‹_›) (by omega)⟩ | exact ⟨by omega, sz_mono hx1 (by omega)⟩ | exact ⟨Int.mul_ne_zero hx0 (by omega), sz_mono (sz_mul ‹_› ‹_›) (by omega)⟩)) ea_nil) rfl (lit_len 1 rfl (by decide)))) (fun h => h _))
            · refine b_fall ?_
              exact b_seq (b_ret (ev_l (evl_lst (t := (yP yI yI)) (xs := [(m_law_lowest (a.2.1.1 * a.2.2.2) (a.2.1.2 * a.2.2.1))]) (ea_cons (ev_call ((a.2.1.1 * a.2.2.2), (a.2.1.2 * a.2.2.1)) (ea_cons (ev_mul (ev_fst (x := a.2.1) ev_var) (ev_snd (x := a.2.2) ev_var) (by exact sz_mulW ‹_› ‹_›)) (ea_cons (ev_mul (ev_snd (x := a.2.1) ev_var) (ev_fst (x := a.2.2) ev_var) (by exact sz_mulW ‹_› ‹_›)) ea_nil)) rfl (by first | exact ⟨Int.mul_ne_zero hx0 hy0, sz_mono (sz_mul ‹_› ‹_›) (by omega)⟩ | exact ⟨by omega, sz_mono hx1 (by omega)⟩ | exact ⟨Int.mul_ne_zero hx0 (by omega), sz_mono (sz_mul ‹_› ‹_›) (by omega)⟩)) ea_nil) rfl (lit_len 1 rfl (by decide)))) (fun h => h _))

theorem operated_eq {r : Unit} {deed : Int} {x y : Int × Int} (h0 : 0 ≤ deed) (h6 : deed < 6) (hx : x.2 ≠ 0) (hy : y.2 ≠ 0) :
    (m_law_due deed x y = [] ∧ m_law_operated r deed x y = none) ∨ (∃ d, m_law_due deed x y = [d] ∧ m_law_operated r deed x y = some d ∧ ∀ k, Fr k x → Fr k y → Fr (2 * k + 1) d) := by
  have hxy : x.2 * y.2 ≠ 0 := Int.mul_ne_zero hx hy
  have sm : ∀ {k : Nat} {a b : Int}, Sz k a → Sz k b → Sz (2 * k) (a * b) := fun {k a b} ha hb => by
    rw [Nat.two_mul]
    exact sz_mul ha hb
  have big : ∀ {k : Nat} {a : Int}, Sz (2 * k) a → Sz (2 * k + 1) a := fun h => sz_mono h (by omega)
  have c : deed = 0 ∨ deed = 1 ∨ deed = 2 ∨ deed = 3 ∨ deed = 4 ∨ deed = 5 := by omega
  unfold m_law_due m_law_operated m_Fractions_plus m_Fractions_minus m_Fractions_times m_Fractions_inv m_Fractions_over m_Fractions_negated
  simp only [fraction_eq]
  rcases c with e | e | e | e | e | e <;> subst e
  · refine .inr ⟨_, by rw [if_neg (by omega), if_pos rfl], by rw [if_pos rfl, if_neg hxy], fun k a b => lowest_fr hxy (sz_add (sm a.2.1 b.2.2) (sm b.2.1 a.2.2)) (big (sm a.2.2 b.2.2))⟩
  · refine .inr ⟨_, by rw [if_neg (by omega), if_neg (by omega), if_pos rfl], by rw [if_neg (by omega), if_pos rfl, if_neg hxy], fun k a b => lowest_fr hxy (sz_sub (sm a.2.1 b.2.2) (sm b.2.1 a.2.2)) (big (sm a.2.2 b.2.2))⟩
  · refine .inr ⟨_, by rw [if_neg (by omega), if_neg (by omega), if_neg (by omega), if_pos rfl], by rw [if_neg (by omega), if_neg (by omega), if_pos rfl, if_neg hxy], fun k a b => lowest_fr hxy (big (sm a.2.1 b.2.1)) (big (sm a.2.2 b.2.2))⟩
  · refine .inr ⟨(-x.1, x.2), by rw [if_neg (by omega), if_neg (by omega), if_neg (by omega), if_neg (by omega), if_pos rfl], by rw [if_neg (by omega), if_neg (by omega), if_neg (by omega), if_pos rfl], fun k a b => ⟨hx, sz_neg (sz_mono a.2.1 (by omega)), sz_mono a.2.2 (by omega)⟩⟩
  · by_cases h : x.1 = 0
    · refine .inl ⟨by rw [if_pos (by omega)], by rw [if_neg (by omega), if_neg (by omega), if_neg (by omega), if_neg (by omega), if_pos rfl, if_pos h]⟩
    · refine .inr ⟨_, by rw [if_neg (by omega), if_neg (by omega), if_neg (by omega), if_neg (by omega), if_neg (by omega), if_pos rfl], by rw [if_neg (by omega), if_neg (by omega), if_neg (by omega), if_neg (by omega), if_pos rfl, if_neg h], fun k a b => lowest_fr h (sz_mono a.2.2 (by omega)) (sz_mono a.2.1 (by omega))⟩
  · by_cases h : y.1 = 0
    · refine .inl ⟨by rw [if_pos (by omega)], by rw [if_neg (by omega), if_neg (by omega), if_neg (by omega), if_neg (by omega), if_neg (by omega), if_pos rfl, if_pos (by rw [h, Int.mul_zero])]⟩
    · have hxy2 : x.2 * y.1 ≠ 0 := Int.mul_ne_zero hx h
      refine .inr ⟨_, by rw [if_neg (by omega), if_neg (by omega), if_neg (by omega), if_neg (by omega), if_neg (by omega), if_neg (by omega)], by rw [if_neg (by omega), if_neg (by omega), if_neg (by omega), if_neg (by omega), if_neg (by omega), if_pos rfl, if_neg hxy2], fun k a b => lowest_fr hxy2 (big (sm a.2.1 b.2.2)) (big (sm a.2.2 b.2.1))⟩

theorem sc_law_is_answer : FnScope ["answer", "due"] ["answer", "due"] (defScope s_law_is_answer) := ⟨rfl, rfl, rfl, by decide +kernel, rfl, by decide +kernel, by decide +kernel⟩
def m_law_is_answer (a_answer : (Str × ((List Bool) ⊕ (Int × Int)))) (a_due : (List (Int × Int))) : Bool :=
  (if (a_due = ([] : List (Int × Int))) then
  (decide (a_answer = (("refused" : Str), (Sum.inl [true, false, false]))))
  else
  ((decide (a_answer.1 = ("told" : Str))) && (m_law_is_fraction (our a_answer.2) (ix a_due (0 : Int)))))
theorem asked_told (r : Unit) (deed : Int) (x y : Int × Int) : (m_law_asked r deed x y).1 = ("told" : Str) → (m_law_asked r deed x y).2.isLeft = false := by
  unfold m_law_asked
  cases m_law_operated r deed x y with
  | none => intro h; exact absurd h (by decide)
  | some a => intro _; rfl
theorem asked6_told (r : Unit) (deed : Int) (x y : Int) : (m_law_asked_6 r deed x y).1 = ("told" : Str) → (m_law_asked_6 r deed x y).2.isLeft = false := by
  unfold m_law_asked_6
  cases m_law_operated_6 r deed x y with
  | none => intro h; exact absurd h (by decide)
  | some a => intro _; rfl


theorem ok_law_is_answer (T : Tx P K mg) : Cl P w K mg base 3 "_law_is_answer" (spF (fun a : (Str × ((List Bool) ⊕ (Int × Int))) × (List (Int × Int)) => [.val (yQ yS (ySum (yL yB) (yP yI yI))) a.1, .val (yL (yP yI yI)) a.2]) (fun a : (Str × ((List Bool) ⊕ (Int × Int))) × (List (Int × Int)) => a.1.1 = ("told" : Str) → a.1.2.isLeft = false) yB (fun a => m_law_is_answer a.1 a.2)) := by
  obtain ⟨f, fd, hg, FD⟩ := T.g_law_is_answer
  refine ⟨f, fd, ["answer", "due"], ?_, hg, FD.kp, FD.bindsN fun _ _ _ _ _ _ us hl => match us, hl with | [_, _], _ => rfl⟩
  refine TL.FunD.okC (N := ["answer", "due"]) FD sc_law_is_answer (lenF fun _ => rfl) fun cdv A outer s H E hr => ?_
  refine ⟨_, (pss_cons (ps_if (pt_cmpR (op_eqD hr.units) (pv 1) (pe_lst pa_nil) (nomark _)) (pss_cons (ps_ret (pe_cmpR (op_eqD hr.units) (pv 0) (pe_lst (pa_cons pe_str (pa_cons (pe_lst (pa_cons pe_bl (pa_cons pe_bl (pa_cons pe_bl pa_nil)))) pa_nil))) (nomark _))) pss_nil) pss_nil) (pss_cons (ps_ret (pe_and (pe_cmpR op_eq (pe_ix ix_list (pv 0) pe_int (fun _ _ => rfl)) pe_str (nomark _)) (pe_one (pe_cl (ok_law_is_fraction T) hr (by decide) (by rfl) passL (pa_cons (pe_ix ix_list (pv 0) pe_int (fun _ _ => rfl)) (pa_cons (pe_ix ix_list (pv 1) pe_int (fun _ _ => rfl)) pa_nil)))))) pss_nil)), fun vs Q h => run_F (fun F a rt hpre => ?_) vs H Q E h⟩
  show Bd _ _ _ _ _ _ (m_law_is_answer a.1 a.2)
  unfold m_law_is_answer
  refine b_seq (b_if (tt_d (ev_eqD ev_var (ev_l (evl_lst (t := (yP yI yI)) (xs := []) ea_nil rfl (by decide))))) (fun h_1 => ?_) (fun h_1 => ?_))
  · exact b_seq (b_ret (ev_eqD ev_var (ev_two (ea_cons ev_str (ea_cons (ev_inl (ev_l (evl_lst (t := yB) (xs := [true, false, false]) (ea_cons ev_bl (ea_cons ev_bl (ea_cons ev_bl ea_nil))) rfl (lit_len 3 rfl (by decide))))) ea_nil)))) (fun h => h _))
  · refine b_fall ?_
    exact b_seq (b_ret (ev_andV (ev_eq (ev_fstQ (x := a.1) ev_var) ev_str) fun hb_1 => (ev_call ((our a.1.2), (ix a.2 (0 : Int))) (ea_cons (ev_outr (ev_sndQ (x := a.1) ev_var) (by exact hpre (of_decide_eq_true ‹_›))) (ea_cons (ev_ixL ev_var ev_int (by exact inb0 ‹_›)) ea_nil)) rfl trivial)) (fun h => h _))

theorem is_integer_eq (x : Int) : m_law_is_integer x = true := rfl
theorem is_fraction_eq (x y : Int × Int) : m_law_is_fraction x y = decide (x = y) := by
  unfold m_law_is_fraction
  rw [if_neg (by simp), if_neg (by simp [is_integer_eq])]
  obtain ⟨a, b⟩ := x
  obtain ⟨c, d⟩ := y
  by_cases h1 : a = c <;> by_cases h2 : b = d <;> simp [h1, h2]
theorem is_answer_told (d : Int × Int) (e : Int × Int) : m_law_is_answer (("told" : Str), Sum.inr d) [e] = decide (d = e) := by
  unfold m_law_is_answer
  rw [if_neg (by simp), is_fraction_eq]
  have : ix [e] 0 = e := ix0_cons e []
  rw [this]
  by_cases h : d = e <;> simp [our, h]
theorem is_answer_refused : m_law_is_answer (("refused" : Str), Sum.inl [true, false, false]) [] = true := by
  unfold m_law_is_answer
  rw [if_pos rfl]
  exact decide_eq_true rfl
theorem is_answer_not (d : Int × Int) : m_law_is_answer (("refused" : Str), Sum.inl [true, false, false]) [d] = false := by
  unfold m_law_is_answer
  rw [if_neg (by simp)]
  rw [decide_eq_false (by decide)]
  rfl
theorem asked6_eq (r : Unit) (x y : Int) : m_law_asked_6 r 6 x y = if y = 0 then (("refused" : Str), Sum.inl [true, false, false]) else (("told" : Str), Sum.inr (m_law_lowest x y)) := by
  unfold m_law_asked_6 m_law_operated_6
  rw [fraction_eq]
  by_cases h : y = 0
  · rw [if_pos h, if_pos h]
    rfl
  · rw [if_neg h, if_neg h]
    rfl

theorem sc_law_made : FnScope ["ring", "pairs", "found", "pair", "answer"] ["ring", "pairs"] (defScope s_law_made) := ⟨rfl, rfl, rfl, by decide +kernel, rfl, by decide +kernel, by decide +kernel⟩
def m_law_made (a_ring : Unit) (a_pairs : (List (Int × Int))) : (List (Int × Int)) :=
  bnd ([] : List (Int × Int)) fun found_1 =>
  ((forL (fun (s_1 : List (Int × Int)) pair_1 =>
  bnd (m_law_asked_6 a_ring (6 : Int) pair_1.1 pair_1.2) fun answer_1 =>
  (if (¬ ((m_law_is_answer answer_1 [(m_law_lowest pair_1.1 pair_1.2)]) = true)) then
  .ret (([] : List (Int × Int)))
  else
  (if (¬ ((m_law_is_answer (m_law_asked_6 a_ring (6 : Int) pair_1.1 (0 : Int)) ([] : List (Int × Int))) = true)) then
  .ret (([] : List (Int × Int)))
  else
  .go (s_1 ++ [(our answer_1.2)])))) a_pairs found_1).out fun s_1 =>
  s_1)
theorem made_cast {r : Unit} {x y : Int} {a : Str × (List Bool ⊕ (Int × Int))} {d : Int × Int} (e : a = m_law_asked_6 r 6 x y) (h : ¬ ¬ (m_law_is_answer a [d] = true)) : a.2.isLeft = false := by
  have h1 := Decidable.of_not_not h
  rw [e, asked6_eq] at *
  split
  · rename_i h2
    rw [if_pos h2, is_answer_not] at h1
    cases h1
  · rfl
theorem made_step {r : Unit} {pre : List (Int × Int)} {pair4 : Int × Int} {s3 s' : List (Int × Int)} (hj : s3.length ≤ pre.length) (h : (bnd (m_law_asked_6 r (6 : Int) pair4.1 pair4.2) fun answer9 =>
  (if (¬ ((m_law_is_answer answer9 [(m_law_lowest pair4.1 pair4.2)]) = true)) then
  Stp.ret (([] : List (Int × Int)))
  else
  (if (¬ ((m_law_is_answer (m_law_asked_6 r (6 : Int) pair4.1 (0 : Int)) ([] : List (Int × Int))) = true)) then
  .ret (([] : List (Int × Int)))
  else
  .go (s3 ++ [(our answer9.2)])))) = .go s') : s'.length ≤ (pre ++ [pair4]).length := by
  simp only [bnd] at h
  split at h
  · cases h
  · split at h
    · cases h
    · cases h
      rw [List.length_append, List.length_append]
      exact Nat.add_le_add_right hj _
theorem made_len {pairs pre post : List (Int × Int)} {x : Int × Int} {s : List (Int × Int)} (e : pairs = pre ++ x :: post) (hj : s.length ≤ pre.length) (h : pairs.length ≤ 5) : s.length < sizeLine := by
  have e2 := congrArg List.length e
  rw [List.length_append, List.length_cons] at e2
  exact Nat.lt_of_lt_of_le (m := 6) (by omega) (by decide)


theorem ok_law_made (T : Tx P K mg) : Cl P w K mg base 11 "_law_made" (spF (fun a : Unit × (List (Int × Int)) => [.val (y_Fractions K) a.1, .val (yL (yP yI yI)) a.2]) (fun a : Unit × (List (Int × Int)) => (∀ p ∈ a.2, Fr 101 p) ∧ a.2.length ≤ 5) (yL (yP yI yI)) (fun a => m_law_made a.1 a.2)) := by
  obtain ⟨f, fd, hg, FD⟩ := T.g_law_made
  refine ⟨f, fd, ["ring", "pairs"], ?_, hg, FD.kp, FD.bindsN fun _ _ _ _ _ _ us hl => match us, hl with | [_, _], _ => rfl⟩
  refine TL.FunD.okC (N := ["ring", "pairs", "found", "pair", "answer"]) FD sc_law_made (lenF fun _ => rfl) fun cdv A outer s H E hr => ?_
  refine ⟨_, (pss_cons (ps_set (i := 2) sc_law_made.nd rfl (by first | exact .inl rfl | exact .inr rfl) (pe_lst pa_nil)) (pss_cons (ps_for (passes_of rfl) rfl (pi_list (pv 1)) (pg_name (i := 3) sc_law_made.nd rfl (by first | exact .inl rfl | exact .inr rfl)) (pss_cons (ps_set (i := 4) sc_law_made.nd rfl (by first | exact .inl rfl | exact .inr rfl) (pe_cl (ok_law_asked_6 T) hr (by decide) (by rfl) passL (pa_cons (pv 0) (pa_cons pe_int (pa_cons (pe_ix ix_tup (pv 3) pe_int (fun _ _ => rfl)) (pa_cons (pe_ix ix_tup (pv 3) pe_int (fun _ _ => rfl)) pa_nil)))))) (pss_cons (ps_if (pt_not (pt_val (pe_cl (ok_law_is_answer T) hr (by decide) (by rfl) passL (pa_cons (pv 4) (pa_cons (pe_lst (pa_cons (pe_cl (ok_law_lowest T) hr (by decide) (by rfl) passL (pa_cons (pe_ix ix_tup (pv 3) pe_int (fun _ _ => rfl)) (pa_cons (pe_ix ix_tup (pv 3) pe_int (fun _ _ => rfl)) pa_nil))) pa_nil)) pa_nil))))) (pss_cons (ps_ret (pe_lst pa_nil)) pss_nil) pss_nil) (pss_cons (ps_if (pt_not (pt_val (pe_cl (ok_law_is_answer T) hr (by decide) (by rfl) passL (pa_cons (pe_cl (ok_law_asked_6 T) hr (by decide) (by rfl) passL (pa_cons (pv 0) (pa_cons pe_int (pa_cons (pe_ix ix_tup (pv 3) pe_int (fun _ _ => rfl)) (pa_cons pe_int pa_nil))))) (pa_cons (pe_lst pa_nil) pa_nil))))) (pss_cons (ps_ret (pe_lst pa_nil)) pss_nil) pss_nil) (pss_cons (ps_expr (pe_bm PySem.F.plainAttrs_list PySem.F.slot_list_append PySem.F.type_list_append mt_append (pv 2) (pa_cons (pe_ix ix_list (pv 4) pe_int (fun _ _ => rfl)) pa_nil))) pss_nil))))) (pss_cons (ps_ret (pv 2)) pss_nil))), fun vs Q h => run_F (fun F a rt hpre => ?_) vs H Q E h⟩
  show Bd _ _ _ _ _ _ (m_law_made a.1 a.2)
  unfold m_law_made
  refine b_letO (evl_lst (t := (yP yI yI)) (xs := []) ea_nil rfl (by decide)) fun p_1 found_1 hfound_1 => ?_
  refine b_for _ (fun (s_1 : List (Int × Int)) => ([(p_1, cL (yP yI yI) s_1)] : Own)) (fun (s_1 : List (Int × Int)) => (⟨[.val (y_Fractions K) a.1, .val (yL (yP yI yI)) a.2, .val (yV (.ref p_1)) (), .any, .any], []⟩ : Lc)) (fun pre s => s.length ≤ pre.length) found_1 (iv_list ev_var) (tg_name 3) rfl ⟨(.cons (.inl rfl) (.cons (.inl rfl) (.cons (.inl rfl) (.cons (.inr rfl) (.cons (.inr rfl) .nil))))), rfl⟩ (by rw [hfound_1]; exact Nat.le_refl _) (fun pre x post s s' e hj h => made_step hj h) (fun gs_1 pre pair_1 post s_1 he_1 hj_1 N B P' hgo_1 hret_1 => ?_) (fun s_1 hj_2 => ?_)
  · have hmpair_1 : pair_1 ∈ a.2 := by rw [he_1]; exact List.mem_append_right _ List.mem_cons_self
    refine b_let (ev_call (a.1, (6 : Int), pair_1.1, pair_1.2) (ea_cons ev_var (ea_cons ev_int (ea_cons (ev_fst (x := pair_1) ev_var) (ea_cons (ev_snd (x := pair_1) ev_var) ea_nil)))) rfl (by first | exact ⟨rfl, show Sz 9000 (0 : Int) from sz_lit (by decide +kernel)⟩ | exact ⟨rfl, sz_mono (m := 101) (n := 9000) (hpre.1 _ hmpair_1).2.2 (by omega)⟩)) fun answer_1 hanswer_1 => ?_
    refine b_seq (b_if (tt_not (tt_b (ev_call (answer_1, [(m_law_lowest pair_1.1 pair_1.2)]) (ea_cons ev_var (ea_cons (ev_l (evl_lst (t := (yP yI yI)) (xs := [(m_law_lowest pair_1.1 pair_1.2)]) (ea_cons (ev_call (pair_1.1, pair_1.2) (ea_cons (ev_fst (x := pair_1) ev_var) (ea_cons (ev_snd (x := pair_1) ev_var) ea_nil)) rfl (by exact ⟨(hpre.1 _ hmpair_1).1, sz_mono (m := 101) (n := 9000) (hpre.1 _ hmpair_1).2.2 (by omega)⟩)) ea_nil) rfl (lit_len 1 rfl (by decide)))) ea_nil)) rfl (by first | exact asked6_told _ _ _ _ | (rw [hanswer_1]; exact asked6_told _ _ _ _))))) (fun h_1 => ?_) (fun h_1 => ?_))
    · exact b_seq (b_ret (ev_l (evl_lst (t := (yP yI yI)) (xs := []) ea_nil rfl (by decide))) (fun h => (hret_1 _ h) _))
    · refine b_fall ?_
      refine b_seq (b_if (tt_not (tt_b (ev_call ((m_law_asked_6 a.1 (6 : Int) pair_1.1 (0 : Int)), ([] : List (Int × Int))) (ea_cons (ev_call (a.1, (6 : Int), pair_1.1, (0 : Int)) (ea_cons ev_var (ea_cons ev_int (ea_cons (ev_fst (x := pair_1) ev_var) (ea_cons ev_int ea_nil)))) rfl (by first | exact ⟨rfl, show Sz 9000 (0 : Int) from sz_lit (by decide +kernel)⟩ | exact ⟨rfl, sz_mono (m := 101) (n := 9000) (hpre.1 _ hmpair_1).2.2 (by omega)⟩)) (ea_cons (ev_l (evl_lst (t := (yP yI yI)) (xs := []) ea_nil rfl (by decide))) ea_nil)) rfl (by first | exact asked6_told _ _ _ _ | (rw [hanswer_1]; exact asked6_told _ _ _ _))))) (fun h_2 => ?_) (fun h_2 => ?_))
      · exact b_seq (b_ret (ev_l (evl_lst (t := (yP yI yI)) (xs := []) ea_nil rfl (by decide))) (fun h => (hret_1 _ h) _))
      · refine b_fall ?_
        refine b_drop (ev_append (t := (yP yI yI)) (xs := s_1) 0 ev_var (ev_outr (ev_sndQ (x := answer_1) ev_var) (by exact made_cast hanswer_1 ‹_›)) (by exact made_len he_1 hj_1 hpre.2)) ?_
        exact b_next fun h => nx_wk (hgo_1 _ h) ⟨(.cons (.inl rfl) (.cons (.inl rfl) (.cons (.inl rfl) (.cons (.inr rfl) (.cons (.inr rfl) .nil))))), rfl⟩
  · exact b_seq (b_ret (ev_frz (t := (yP yI yI)) (xs := s_1) 0 ev_var) (fun h => h _))

theorem made_eq (r : Unit) (ps : List (Int × Int)) (h : ∀ p ∈ ps, p.2 ≠ 0) : m_law_made r ps = ps.map fun (p : Int × Int) => m_law_lowest p.1 p.2 := by
  unfold m_law_made
  simp only [bnd]
  generalize hW : forL (ρ := List (Int × Int)) _ _ _ = W
  have : ∃ s', W = .go s' ∧ s' = ([] ++ ps).map fun (p : Int × Int) => m_law_lowest p.1 p.2 := by
    rw [← hW]
    refine forL_go (fun pre s => s = pre.map fun (p : Int × Int) => m_law_lowest p.1 p.2) ps [] [] rfl fun p x q s e hs => ?_
    have hx : x.2 ≠ 0 := h x (by rw [show ps = p ++ x :: q from e]; simp)
    rw [asked6_eq, if_neg hx, is_answer_told, asked6_eq, if_pos rfl, is_answer_refused]
    rw [if_neg (by simp), if_neg (by simp)]
    exact ⟨_, rfl, by rw [hs, List.map_append]; rfl⟩
  obtain ⟨s, rfl, hs⟩ := this
  exact hs

theorem sc_law_is_operated : FnScope ["ring", "x", "y", "deed", "answer", "told"] ["ring", "x", "y"] (defScope s_law_is_operated) := ⟨rfl, rfl, rfl, by decide +kernel, rfl, by decide +kernel, by decide +kernel⟩
def m_law_is_operated (a_ring : Unit) (a_x : (Int × Int)) (a_y : (Int × Int)) : Bool :=
  ((forL (fun (s_1 : Unit) deed_1 =>
  bnd (m_law_asked a_ring deed_1 a_x a_y) fun answer_1 =>
  (if (¬ ((m_law_is_answer answer_1 (m_law_due deed_1 a_x a_y)) = true)) then
  .ret (false)
  else
  .go ())) (rng 0 (Int.toNat (6 : Int))) ()).out fun s_1 =>
  bnd (m_Fractions_is_zero a_ring a_x) fun told_1 =>
  (true && (decide (told_1 = (decide (a_x.1 = (0 : Int)))))))
theorem asked_due {r : Unit} {deed : Int} {x y : Int × Int} (h0 : 0 ≤ deed) (h6 : deed < 6) (hx : x.2 ≠ 0) (hy : y.2 ≠ 0) : m_law_is_answer (m_law_asked r deed x y) (m_law_due deed x y) = true ∧
    (m_law_due deed x y ≠ [] → ∃ d, (m_law_asked r deed x y).2 = .inr d ∧ ∀ k, Fr k x → Fr k y → Fr (2 * k + 1) d) := by
  unfold m_law_asked
  rcases operated_eq (r := r) h0 h6 hx hy with ⟨h1, h2⟩ | ⟨d, h1, h2, h3⟩
  · rw [h1, h2]
    exact ⟨is_answer_refused, fun z => absurd rfl z⟩
  · rw [h1, h2]
    refine ⟨?_, fun _ => ⟨d, rfl, h3⟩⟩
    show m_law_is_answer (("told" : Str), Sum.inr d) [d] = true
    rw [is_answer_told]
    exact decide_eq_true rfl
theorem is_operated_eq {r : Unit} {x y : Int × Int} (hx : x.2 ≠ 0) (hy : y.2 ≠ 0) : m_law_is_operated r x y = true := by
  unfold m_law_is_operated
  rw [forL_unit]
  · simp [bnd, Stp.out, m_Fractions_is_zero]
  · intro deed hd
    have := mem_rng hd
    simp only [bnd]
    rw [(asked_due (r := r) (x := x) (y := y) this.1 (by omega) hx hy).1, if_neg (by simp)]


theorem ok_law_is_operated (T : Tx P K mg) : Cl P w K mg base 11 "_law_is_operated" (spF (fun a : Unit × (Int × Int) × (Int × Int) => [.val (y_Fractions K) a.1, .val (yP yI yI) a.2.1, .val (yP yI yI) a.2.2]) (fun a : Unit × (Int × Int) × (Int × Int) => Fr 2000 a.2.1 ∧ Fr 2000 a.2.2) yB (fun a => m_law_is_operated a.1 a.2.1 a.2.2)) := by
  obtain ⟨f, fd, hg, FD⟩ := T.g_law_is_operated
  refine ⟨f, fd, ["ring", "x", "y"], ?_, hg, FD.kp, FD.bindsN fun _ _ _ _ _ _ us hl => match us, hl with | [_, _, _], _ => rfl⟩
  refine TL.FunD.okC (N := ["ring", "x", "y", "deed", "answer", "told"]) FD sc_law_is_operated (lenF fun _ => rfl) fun cdv A outer s H E hr => ?_
  refine ⟨_, (pss_cons (ps_for (passes_of rfl) rfl (pi_range1 (by rfl) T.b_range (pa_cons pe_int pa_nil)) (pg_name (i := 3) sc_law_is_operated.nd rfl (by first | exact .inl rfl | exact .inr rfl)) (pss_cons (ps_set (i := 4) sc_law_is_operated.nd rfl (by first | exact .inl rfl | exact .inr rfl) (pe_cl (ok_law_asked T) hr (by decide) (by rfl) passL (pa_cons (pv 0) (pa_cons (pv 3) (pa_cons (pv 1) (pa_cons (pv 2) pa_nil)))))) (pss_cons (ps_if (pt_not (pt_val (pe_cl (ok_law_is_answer T) hr (by decide) (by rfl) passL (pa_cons (pv 4) (pa_cons (pe_cl (ok_law_due T) hr (by decide) (by rfl) passL (pa_cons (pv 3) (pa_cons (pv 1) (pa_cons (pv 2) pa_nil)))) pa_nil))))) (pss_cons (ps_ret pe_bl) pss_nil) pss_nil) pss_nil))) (pss_cons (ps_set (i := 5) sc_law_is_operated.nd rfl (by first | exact .inl rfl | exact .inr rfl) (pe_mth (ok_Fractions_is_zero T) hr (by decide) passL (pv 0) (pa_cons (pv 1) pa_nil))) (pss_cons (ps_ret (pe_and (pe_callB call_isi (by rfl) T.b_isinstance (by decide +kernel) (pa_cons (pv 5) (pa_cons (pe_bltn (v := .ty "bool") (by rfl) T.b_bool (by decide +kernel) rfl) pa_nil))) (pe_one (pe_cmpR op_eq (pv 5) (pe_cmpR op_eq (pe_ix ix_tup (pv 1) pe_int (fun _ _ => rfl)) pe_int (nomark _)) (nomark _))))) pss_nil))), fun vs Q h => run_F (fun F a rt hpre => ?_) vs H Q E h⟩
  show Bd _ _ _ _ _ _ (m_law_is_operated a.1 a.2.1 a.2.2)
  unfold m_law_is_operated
  refine b_for _ (fun (s_1 : Unit) => ([] : Own)) (fun (s_1 : Unit) => (⟨[.val (y_Fractions K) a.1, .val (yP yI yI) a.2.1, .val (yP yI yI) a.2.2, .any, .any, .any], []⟩ : Lc)) (fun _ _ => True) () (iv_rng1 ev_int (by first | omega | assumption | decide | exact ⟨by omega, by omega⟩) (by first | omega | assumption | decide | exact ⟨by omega, by omega⟩)) (tg_name 3) rfl ⟨(.cons (.inl rfl) (.cons (.inl rfl) (.cons (.inl rfl) (.cons (.inr rfl) (.cons (.inr rfl) (.cons (.inr rfl) .nil)))))), rfl⟩ trivial (fun _ _ _ _ _ _ _ _ => trivial) (fun gs_1 pre deed_1 post s_1 he_1 hj_1 N B P' hgo_1 hret_1 => ?_) (fun s_1 hj_2 => ?_)
  · have hmdeed_1 : deed_1 ∈ (rng 0 (Int.toNat (6 : Int))) := by rw [he_1]; exact List.mem_append_right _ List.mem_cons_self
    refine b_let (ev_call (a.1, deed_1, a.2.1, a.2.2) (ea_cons ev_var (ea_cons ev_var (ea_cons ev_var (ea_cons ev_var ea_nil)))) rfl (by have hm := mem_rng hmdeed_1; exact ⟨hm.1, hm.2, hpre.1, hpre.2⟩)) fun answer_1 hanswer_1 => ?_
    refine b_seq (b_if (tt_not (tt_b (ev_call (answer_1, (m_law_due deed_1 a.2.1 a.2.2)) (ea_cons ev_var (ea_cons (ev_call (deed_1, a.2.1, a.2.2) (ea_cons ev_var (ea_cons ev_var (ea_cons ev_var ea_nil))) rfl (by have hm := mem_rng hmdeed_1; exact ⟨hm.1, hm.2, hpre.1, hpre.2⟩)) ea_nil)) rfl (by rw [hanswer_1]; exact asked_told _ _ _ _)))) (fun h_1 => ?_) (fun h_1 => ?_))
    · exact b_seq (b_ret ev_bl (fun h => (hret_1 _ h) _))
    · refine b_fall ?_
      exact b_next fun h => nx_wk (hgo_1 _ h) ⟨(.cons (.inl rfl) (.cons (.inl rfl) (.cons (.inl rfl) (.cons (.inr rfl) (.cons (.inr rfl) (.cons (.inr rfl) .nil)))))), rfl⟩
  · refine b_let (ev_meth (m := "is_zero") (a.1, a.2.1) ev_var nm_Fractions_is_zero (ea_cons ev_var ea_nil) rfl trivial) fun told_1 htold_1 => ?_
    exact b_seq (b_ret (ev_andV (ev_isi (ct := .type "bool") (bb := true) ev_var (kit_ty (by decide +kernel))) fun hb_1 => (ev_eq ev_var (ev_eq (ev_fst (x := a.2.1) ev_var) ev_int))) (fun h => h _))

theorem sc_law_grown : FnScope ["pool", "ring", "known", "found", "k", "deed", "x", "y", "answer", "due"] ["pool", "ring", "known"] (defScope s_law_grown) := ⟨rfl, rfl, rfl, by decide +kernel, rfl, by decide +kernel, by decide +kernel⟩
def m_law_grown (a_pool : List Int) (a_ring : Unit) (a_known : (List (Int × Int))) : Bool × List Int :=
  bnd a_known fun found_1 =>
  ((forL (fun (s_1 : List Int × List (Int × Int)) k_1 =>
  bnd (m_law_draw s_1.1 (6 : Int)) fun yy_1 =>
  bnd yy_1.1 fun deed_1 =>
  bnd (m_law_draw yy_1.2 (s_1.2.length : Int)) fun yy_2 =>
  bnd (ix s_1.2 yy_2.1) fun x_1 =>
  bnd (m_law_draw yy_2.2 (s_1.2.length : Int)) fun yy_3 =>
  bnd (ix s_1.2 yy_3.1) fun y_1 =>
  bnd (m_law_asked a_ring deed_1 x_1 y_1) fun answer_1 =>
  bnd (m_law_due deed_1 x_1 y_1) fun due_1 =>
  (if (¬ ((m_law_is_answer answer_1 due_1) = true)) then
  .ret ((false, yy_3.2))
  else
  bnd (if (¬ due_1 = ([] : List (Int × Int))) then (s_1.2 ++ [(our answer_1.2)]) else s_1.2) fun z_1 =>
  .go (yy_3.2, z_1))) (rng 0 (Int.toNat (4 : Int))) (a_pool, found_1)).out fun s_1 =>
  ((m_law_is_operated a_ring (ix s_1.2 (-(1 : Int))) (ix s_1.2 (0 : Int))), s_1.1))
def gb : Nat → Nat
  | 0 => 101
  | n + 1 => 2 * gb n + 1
def grJ (pre : List Int) (s : List Int × List (Int × Int)) : Prop := s.1 ≠ [] ∧ 5 ≤ s.2.length ∧ s.2.length ≤ 5 + pre.length ∧ ∀ p ∈ s.2, Fr (gb pre.length) p
theorem grown_0 {a : List Int × Unit × List (Int × Int)} {f : List (Int × Int)} (h : a.1 ≠ [] ∧ a.2.2.length = 5 ∧ ∀ p ∈ a.2.2, Fr 101 p) (e : f = a.2.2) : grJ [] (a.1, f) := by
  subst e
  exact ⟨h.1, by show 5 ≤ a.2.2.length; omega, by show a.2.2.length ≤ 5 + 0; omega, h.2.2⟩
theorem gb_le : ∀ n : Nat, gb n ≤ gb (n + 1) := fun n => by
  show gb n ≤ 2 * gb n + 1
  omega
theorem gb_pos : ∀ n : Nat, n ≤ 4 → gb n ≤ 1631 := fun n h => by
  have : n = 0 ∨ n = 1 ∨ n = 2 ∨ n = 3 ∨ n = 4 := by omega
  rcases this with e | e | e | e | e <;> subst e <;> decide
theorem grJ_len {pre post : List Int} {x : Int} (e : rng 0 (Int.toNat 4) = pre ++ x :: post) : pre.length < 4 := by
  have e2 := congrArg List.length e
  rw [List.length_append, List.length_cons, rng_length] at e2
  omega
theorem grJ_fr {pre : List Int} {s : List Int × List (Int × Int)} {i : Int} (hp : pre.length ≤ 4) (h : grJ pre s) (hi : Inb s.2 i) : Fr 2000 (ix s.2 i) := (h.2.2.2 _ (ix_mem hi)).mono (by have := gb_pos _ hp; omega)
theorem gr_draw {pre : List Int} {s : List Int × List (Int × Int)} {q : List Int} (hp : pre.length ≤ 4) (h : grJ pre s) (hq : q ≠ []) : q ≠ [] ∧ 0 < (s.2.length : Int) ∧ Sz 200 (s.2.length : Int) := ⟨hq, by have := h.2.1; omega, by
  have := h.2.2.1
  unfold Sz
  omega⟩
theorem gr_pre {pre : List Int} {s : List Int × List (Int × Int)} {y9 y11 y13 : Int × List Int} {deed : Int} {x y : Int × Int} (hp : pre.length ≤ 4) (h : grJ pre s) (h1 : 0 ≤ y9.1 ∧ y9.1 < 6 ∧ y9.2 ≠ []) (h2 : 0 ≤ y11.1 ∧ y11.1 < (s.2.length : Int) ∧ y11.2 ≠ []) (h3 : 0 ≤ y13.1 ∧ y13.1 < (s.2.length : Int) ∧ y13.2 ≠ [])
    (e1 : deed = y9.1) (e2 : x = ix s.2 y11.1) (e3 : y = ix s.2 y13.1) : 0 ≤ deed ∧ deed < 6 ∧ Fr 2000 x ∧ Fr 2000 y := by
  subst e1 e2 e3
  exact ⟨h1.1, h1.2.1, grJ_fr hp h ⟨by omega, h2.2.1⟩, grJ_fr hp h ⟨by omega, h3.2.1⟩⟩
theorem gr_cast {r : Unit} {pre : List Int} {s : List Int × List (Int × Int)} {y9 y11 y13 : Int × List Int} {deed : Int} {x y : Int × Int} {ans : Str × (List Bool ⊕ (Int × Int))} {due : List (Int × Int)} (hp : pre.length ≤ 4) (h : grJ pre s) (h1 : 0 ≤ y9.1 ∧ y9.1 < 6 ∧ y9.2 ≠ []) (h2 : 0 ≤ y11.1 ∧ y11.1 < (s.2.length : Int) ∧ y11.2 ≠ []) (h3 : 0 ≤ y13.1 ∧ y13.1 < (s.2.length : Int) ∧ y13.2 ≠ [])
    (e1 : deed = y9.1) (e2 : x = ix s.2 y11.1) (e3 : y = ix s.2 y13.1) (e4 : ans = m_law_asked r deed x y) (e5 : due = m_law_due deed x y) (hd : ¬ due = []) : ans.2.isLeft = false := by
  obtain ⟨g1, g2, g3, g4⟩ := gr_pre hp h h1 h2 h3 e1 e2 e3
  obtain ⟨d, h5, _⟩ := (asked_due (r := r) g1 g2 g3.1 g4.1).2 (by rw [← e5]; exact hd)
  rw [e4, h5]
  rfl
theorem gr_len {pre : List Int} {s : List Int × List (Int × Int)} (hp : pre.length ≤ 4) (h : grJ pre s) : s.2.length < sizeLine := Nat.lt_of_lt_of_le (m := 10) (by have := h.2.2.1; omega) (by decide)
theorem grJ_ne {pre : List Int} {s : List Int × List (Int × Int)} (h : grJ pre s) : s.2 ≠ [] := fun z => by
  have := h.2.1
  rw [z] at this
  simp at this
theorem grown_step {r : Unit} {pre post : List Int} {k4 : Int} {s3 s' : List Int × List (Int × Int)} (e : rng 0 (Int.toNat 4) = pre ++ k4 :: post) (hj : grJ pre s3) (h : (bnd (m_law_draw s3.1 (6 : Int)) fun y9 =>
  bnd y9.1 fun deed10 =>
  bnd (m_law_draw y9.2 (s3.2.length : Int)) fun y11 =>
  bnd (ix s3.2 y11.1) fun x12 =>
  bnd (m_law_draw y11.2 (s3.2.length : Int)) fun y13 =>
  bnd (ix s3.2 y13.1) fun y14 =>
  bnd (m_law_asked r deed10 x12 y14) fun answer15 =>
  bnd (m_law_due deed10 x12 y14) fun due16 =>
  (if (¬ ((m_law_is_answer answer15 due16) = true)) then
  Stp.ret ((false, y13.2))
  else
  bnd (if (¬ due16 = ([] : List (Int × Int))) then (s3.2 ++ [(our answer15.2)]) else s3.2) fun z19 =>
  .go (y13.2, z19))) = .go s') : grJ (pre ++ [k4]) s' := by
  simp only [bnd] at h
  have hp := grJ_len e
  have h1 := p_draw (pool := s3.1) (many := 6) ⟨hj.1, by omega, sz_lit (by decide +kernel)⟩ rfl
  generalize m_law_draw s3.1 6 = d1 at *
  have h2 := p_draw (gr_draw (by omega) hj h1.2.2) rfl
  generalize m_law_draw d1.2 (s3.2.length : Int) = d2 at *
  have h3 := p_draw (gr_draw (by omega) hj h2.2.2) rfl
  generalize m_law_draw d2.2 (s3.2.length : Int) = d3 at *
  have i2 : Inb s3.2 d2.1 := ⟨by omega, h2.2.1⟩
  have i3 : Inb s3.2 d3.1 := ⟨by omega, h3.2.1⟩
  have f2 := hj.2.2.2 _ (ix_mem i2)
  have f3 := hj.2.2.2 _ (ix_mem i3)
  obtain ⟨g1, g2⟩ := asked_due (r := r) (deed := d1.1) h1.1 h1.2.1 f2.1 f3.1
  rw [if_neg (by rw [g1]; simp)] at h
  have e2 := Stp.go.inj h
  have hlen : (pre ++ [k4]).length = pre.length + 1 := by simp
  subst e2
  refine ⟨h3.2.2, ?_, ?_, ?_⟩
  · dsimp only
    have := hj.2.1
    split
    · rw [List.length_append]
      omega
    · exact this
  · dsimp only
    have := hj.2.2.1
    rw [hlen]
    split
    · rw [List.length_append, List.length_singleton]
      omega
    · omega
  · rw [hlen]
    dsimp only
    split
    · rename_i h4
      obtain ⟨d, h5, h6⟩ := g2 h4
      intro p hp2
      rcases List.mem_append.mp hp2 with z | z
      · exact (hj.2.2.2 p z).mono (gb_le _)
      · rw [List.mem_singleton.mp z, h5]
        exact h6 _ f2 f3
    · exact fun p z => (hj.2.2.2 p z).mono (gb_le _)


theorem ok_law_grown (T : Tx P K mg) : Cl P w K mg base 12 "_law_grown" (spP (fun (p : Addr) (a : List Int × Unit × (List (Int × Int))) => [.val (yV (.ref p)) (), .val (y_Fractions K) a.2.1, .val (yL (yP yI yI)) a.2.2]) (fun a => cL yI a.1) (fun s => cL yI s) (fun a : List Int × Unit × (List (Int × Int)) => a.1 ≠ [] ∧ a.2.2.length = 5 ∧ ∀ p ∈ a.2.2, Fr 101 p) yB (fun a => m_law_grown a.1 a.2.1 a.2.2)) := by
  obtain ⟨f, fd, hg, FD⟩ := T.g_law_grown
  refine ⟨f, fd, ["pool", "ring", "known"], ?_, hg, FD.kp, FD.bindsN fun _ _ _ _ _ _ us hl => match us, hl with | [_, _, _], _ => rfl⟩
  refine TL.FunD.okC (N := ["pool", "ring", "known", "found", "k", "deed", "x", "y", "answer", "due"]) FD sc_law_grown (lenP fun _ _ => rfl) fun cdv A outer s H E hr => ?_
  refine ⟨_, (pss_cons (ps_set (i := 3) sc_law_grown.nd rfl (by first | exact .inl rfl | exact .inr rfl) (pe_callTy call_list_of (by rfl) T.b_list (by decide +kernel) (pa_cons (pv 2) pa_nil))) (pss_cons (ps_for (passes_of rfl) rfl (pi_range1 (by rfl) T.b_range (pa_cons pe_int pa_nil)) (pg_name (i := 4) sc_law_grown.nd rfl (by first | exact .inl rfl | exact .inr rfl)) (pss_cons (ps_set (i := 5) sc_law_grown.nd rfl (by first | exact .inl rfl | exact .inr rfl) (pe_cl (ok_law_draw T) hr (by decide) (by rfl) passL (pa_cons (pv 0) (pa_cons pe_int pa_nil)))) (pss_cons (ps_set (i := 6) sc_law_grown.nd rfl (by first | exact .inl rfl | exact .inr rfl) (pe_ix ix_list (pv 3) (pe_cl (ok_law_draw T) hr (by decide) (by rfl) passL (pa_cons (pv 0) (pa_cons (pe_callB call_len_seq (by rfl) T.b_len (by decide +kernel) (pa_cons (pv 3) pa_nil)) pa_nil))) (fun _ _ => rfl))) (pss_cons (ps_set (i := 7) sc_law_grown.nd rfl (by first | exact .inl rfl | exact .inr rfl) (pe_ix ix_list (pv 3) (pe_cl (ok_law_draw T) hr (by decide) (by rfl) passL (pa_cons (pv 0) (pa_cons (pe_callB call_len_seq (by rfl) T.b_len (by decide +kernel) (pa_cons (pv 3) pa_nil)) pa_nil))) (fun _ _ => rfl))) (pss_cons (ps_set (i := 8) sc_law_grown.nd rfl (by first | exact .inl rfl | exact .inr rfl) (pe_cl (ok_law_asked T) hr (by decide) (by rfl) passL (pa_cons (pv 1) (pa_cons (pv 5) (pa_cons (pv 6) (pa_cons (pv 7) pa_nil)))))) (pss_cons (ps_set (i := 9) sc_law_grown.nd rfl (by first | exact .inl rfl | exact .inr rfl) (pe_cl (ok_law_due T) hr (by decide) (by rfl) passL (pa_cons (pv 5) (pa_cons (pv 6) (pa_cons (pv 7) pa_nil))))) (pss_cons (ps_if (pt_not (pt_val (pe_cl (ok_law_is_answer T) hr (by decide) (by rfl) passL (pa_cons (pv 8) (pa_cons (pv 9) pa_nil))))) (pss_cons (ps_ret pe_bl) pss_nil) pss_nil) (pss_cons (ps_if (pt_cmpR (op_neD hr.units) (pv 9) (pe_lst pa_nil) (nomark _)) (pss_cons (ps_expr (pe_bm PySem.F.plainAttrs_list PySem.F.slot_list_append PySem.F.type_list_append mt_append (pv 3) (pa_cons (pe_ix ix_list (pv 8) pe_int (fun _ _ => rfl)) pa_nil))) pss_nil) pss_nil) pss_nil)))))))) (pss_cons (ps_ret (pe_cl (ok_law_is_operated T) hr (by decide) (by rfl) passL (pa_cons (pv 1) (pa_cons (pe_ix ix_list (pv 3) (pe_un un_neg pe_int) (fun _ _ => rfl)) (pa_cons (pe_ix ix_list (pv 3) pe_int (fun _ _ => rfl)) pa_nil))))) pss_nil))), fun vs Q h => run_P (fun F p a rt hpre => ?_) vs H Q E h⟩
  show Bd _ _ _ _ _ _ (m_law_grown a.1 a.2.1 a.2.2)
  unfold m_law_grown
  refine b_letO (evl_listL ev_var) fun p_1 found_1 hfound_1 => ?_
  refine b_for _ (fun (s_1 : List Int × List (Int × Int)) => ([(p, cL yI s_1.1), (p_1, cL (yP yI yI) s_1.2)] : Own)) (fun (s_1 : List Int × List (Int × Int)) => (⟨[.val (yV (.ref p)) (), .val (y_Fractions K) a.2.1, .val (yL (yP yI yI)) a.2.2, .val (yV (.ref p_1)) (), .any, .any, .any, .any, .any, .any], []⟩ : Lc)) grJ (a.1, found_1) (iv_rng1 ev_int (by first | omega | assumption | decide | exact ⟨by omega, by omega⟩) (by first | omega | assumption | decide | exact ⟨by omega, by omega⟩)) (tg_name 4) rfl ⟨(.cons (.inl rfl) (.cons (.inl rfl) (.cons (.inl rfl) (.cons (.inl rfl) (.cons (.inr rfl) (.cons (.inr rfl) (.cons (.inr rfl) (.cons (.inr rfl) (.cons (.inr rfl) (.cons (.inr rfl) .nil)))))))))), rfl⟩ (grown_0 hpre hfound_1) (fun pre x post s s' e hj h => grown_step e hj h) (fun gs_1 pre k_1 post s_1 he_1 hj_1 N B P' hgo_1 hret_1 => ?_) (fun s_1 hj_2 => ?_)
  · have hmk_1 : k_1 ∈ (rng 0 (Int.toNat (4 : Int))) := by rw [he_1]; exact List.mem_append_right _ List.mem_cons_self
    refine b_gen fun yy_1 hyy_1 => ?_
    have qyy_1 : s_1.1 ≠ [] ∧ 0 < (6 : Int) ∧ Sz 200 (6 : Int) := (by first | exact ⟨hj_1.1, by omega, sz_lit (by decide +kernel)⟩ | exact gr_draw (Nat.le_of_lt (grJ_len he_1)) hj_1 pyy_1.2.2 | exact gr_draw (Nat.le_of_lt (grJ_len he_1)) hj_1 pyy_2.2.2)
    have pyy_1 := p_draw qyy_1 hyy_1
    refine b_let (ev_callP 0 (s_1.1, (6 : Int)) hyy_1 (ea_cons ev_var (ea_cons ev_int ea_nil)) rfl rfl rfl qyy_1) fun deed_1 hdeed_1 => ?_
    refine b_gen fun yy_2 hyy_2 => ?_
    have qyy_2 : yy_1.2 ≠ [] ∧ 0 < (s_1.2.length : Int) ∧ Sz 200 (s_1.2.length : Int) := (by first | exact ⟨hj_1.1, by omega, sz_lit (by decide +kernel)⟩ | exact gr_draw (Nat.le_of_lt (grJ_len he_1)) hj_1 pyy_1.2.2 | exact gr_draw (Nat.le_of_lt (grJ_len he_1)) hj_1 pyy_2.2.2)
    have pyy_2 := p_draw qyy_2 hyy_2
    refine b_let (ev_ixO (t := (yP yI yI)) (xs := s_1.2) 1 ev_var (ev_callP 0 (yy_1.2, (s_1.2.length : Int)) hyy_2 (ea_cons ev_var (ea_cons (ev_lenO (t := (yP yI yI)) (xs := s_1.2) 1 ev_var) ea_nil)) rfl rfl rfl qyy_2) (by first | exact ⟨by omega, pyy_2.2.1⟩ | exact ⟨by omega, pyy_3.2.1⟩)) fun x_1 hx_1 => ?_
    refine b_gen fun yy_3 hyy_3 => ?_
    have qyy_3 : yy_2.2 ≠ [] ∧ 0 < (s_1.2.length : Int) ∧ Sz 200 (s_1.2.length : Int) := (by first | exact ⟨hj_1.1, by omega, sz_lit (by decide +kernel)⟩ | exact gr_draw (Nat.le_of_lt (grJ_len he_1)) hj_1 pyy_1.2.2 | exact gr_draw (Nat.le_of_lt (grJ_len he_1)) hj_1 pyy_2.2.2)
    have pyy_3 := p_draw qyy_3 hyy_3
    refine b_let (ev_ixO (t := (yP yI yI)) (xs := s_1.2) 1 ev_var (ev_callP 0 (yy_2.2, (s_1.2.length : Int)) hyy_3 (ea_cons ev_var (ea_cons (ev_lenO (t := (yP yI yI)) (xs := s_1.2) 1 ev_var) ea_nil)) rfl rfl rfl qyy_3) (by first | exact ⟨by omega, pyy_2.2.1⟩ | exact ⟨by omega, pyy_3.2.1⟩)) fun y_1 hy_1 => ?_
    refine b_let (ev_call (a.2.1, deed_1, x_1, y_1) (ea_cons ev_var (ea_cons ev_var (ea_cons ev_var (ea_cons ev_var ea_nil)))) rfl (by exact gr_pre (Nat.le_of_lt (grJ_len he_1)) hj_1 pyy_1 pyy_2 pyy_3 hdeed_1 hx_1 hy_1)) fun answer_1 hanswer_1 => ?_
    refine b_let (ev_call (deed_1, x_1, y_1) (ea_cons ev_var (ea_cons ev_var (ea_cons ev_var ea_nil))) rfl (by exact gr_pre (Nat.le_of_lt (grJ_len he_1)) hj_1 pyy_1 pyy_2 pyy_3 hdeed_1 hx_1 hy_1)) fun due_1 hdue_1 => ?_
    refine b_seq (b_if (tt_not (tt_b (ev_call (answer_1, due_1) (ea_cons ev_var (ea_cons ev_var ea_nil)) rfl (by rw [hanswer_1]; exact asked_told _ _ _ _)))) (fun h_1 => ?_) (fun h_1 => ?_))
    · exact b_seq (b_ret ev_bl (fun h => (hret_1 _ h) _))
    · refine b_fall ?_
      refine b_join (fun (z_1 : (List (Int × Int))) => (⟨[.val (yV (.ref p)) (), .val (y_Fractions K) a.2.1, .val (yL (yP yI yI)) a.2.2, .val (yV (.ref p_1)) (), .val yI k_1, .val yI deed_1, .val (yP yI yI) x_1, .val (yP yI yI) y_1, .val (yQ yS (ySum (yL yB) (yP yI yI))) answer_1, .val (yL (yP yI yI)) due_1], (gs_1 ++ [])⟩ : Lc)) (fun (z_1 : (List (Int × Int))) => ([(p, cL yI yy_3.2), (p_1, cL (yP yI yI) z_1)] : Own)) (tt_n (ev_neD ev_var (ev_l (evl_lst (t := (yP yI yI)) (xs := []) ea_nil rfl (by decide))))) (x1 := (s_1.2 ++ [(our answer_1.2)])) (x2 := s_1.2) (fun h_2 => (sx_drop (ev_append (t := (yP yI yI)) (xs := s_1.2) 1 ev_var (ev_outr (ev_sndQ (x := answer_1) ev_var) (by exact gr_cast (Nat.le_of_lt (grJ_len he_1)) hj_1 pyy_1 pyy_2 pyy_3 hdeed_1 hx_1 hy_1 hanswer_1 hdue_1 ‹_›)) (by exact gr_len (Nat.le_of_lt (grJ_len he_1)) hj_1)) (sx_wk sx_next ⟨(.cons (.inl rfl) (.cons (.inl rfl) (.cons (.inl rfl) (.cons (.inl rfl) (.cons (.inl rfl) (.cons (.inl rfl) (.cons (.inl rfl) (.cons (.inl rfl) (.cons (.inl rfl) (.cons (.inl rfl) .nil)))))))))), rfl⟩))) (fun h_2 => (sx_wk sx_next ⟨(.cons (.inl rfl) (.cons (.inl rfl) (.cons (.inl rfl) (.cons (.inl rfl) (.cons (.inl rfl) (.cons (.inl rfl) (.cons (.inl rfl) (.cons (.inl rfl) (.cons (.inl rfl) (.cons (.inl rfl) .nil)))))))))), rfl⟩)) fun z_1 hz_1 => ?_
      exact b_next fun h => nx_wk (hgo_1 _ h) ⟨(.cons (.inl rfl) (.cons (.inl rfl) (.cons (.inl rfl) (.cons (.inl rfl) (.cons (.inr rfl) (.cons (.inr rfl) (.cons (.inr rfl) (.cons (.inr rfl) (.cons (.inr rfl) (.cons (.inr rfl) .nil)))))))))), rfl⟩
  · exact b_seq (b_ret (ev_call (a.2.1, (ix s_1.2 (-(1 : Int))), (ix s_1.2 (0 : Int))) (ea_cons ev_var (ea_cons (ev_ixO (t := (yP yI yI)) (xs := s_1.2) 1 ev_var (ev_neg ev_int) (by exact inbl (grJ_ne hj_2))) (ea_cons (ev_ixO (t := (yP yI yI)) (xs := s_1.2) 1 ev_var ev_int (by exact inb0 (grJ_ne hj_2))) ea_nil))) rfl (by exact ⟨grJ_fr (by rw [rng_length]; omega) hj_2 (inbl (grJ_ne hj_2)), grJ_fr (by rw [rng_length]; omega) hj_2 (inb0 (grJ_ne hj_2))⟩)) (fun h => h _))

theorem grown_eq {pool : List Int} {r : Unit} {known : List (Int × Int)} (hp : pool ≠ [] ∧ known.length = 5 ∧ ∀ p ∈ known, Fr 101 p) : (m_law_grown pool r known).1 = true := by
  unfold m_law_grown
  simp only [bnd]
  generalize hW : @forL (List Int × List (Int × Int)) (Bool × List Int) Int _ _ _ = W
  have : ∃ s', W = .go s' ∧ grJ (rng 0 (Int.toNat 4)) s' := by
    rw [← hW]
    refine forL_go0 grJ ⟨hp.1, by show 5 ≤ known.length; omega, by show known.length ≤ 5 + 0; omega, hp.2.2⟩ (fun p x q s e hj => ?_)
    have hlt := grJ_len e
    have h1 := p_draw (pool := s.1) (many := 6) ⟨hj.1, by omega, sz_lit (by decide +kernel)⟩ rfl
    have h2 := p_draw (gr_draw (by omega) hj h1.2.2) rfl
    have h3 := p_draw (gr_draw (by omega) hj h2.2.2) rfl
    have i2 : Inb s.2 (m_law_draw (m_law_draw s.1 6).2 (s.2.length : Int)).1 := ⟨by omega, h2.2.1⟩
    have i3 : Inb s.2 (m_law_draw (m_law_draw (m_law_draw s.1 6).2 (s.2.length : Int)).2 (s.2.length : Int)).1 := ⟨by omega, h3.2.1⟩
    obtain ⟨g1, g2⟩ := asked_due (r := r) h1.1 h1.2.1 (hj.2.2.2 _ (ix_mem i2)).1 (hj.2.2.2 _ (ix_mem i3)).1
    rw [if_neg (by rw [g1]; simp)]
    refine ⟨_, rfl, grown_step (r := r) e hj ?_⟩
    simp only [bnd]
    rw [if_neg (by rw [g1]; simp)]
  obtain ⟨s, rfl, hJ⟩ := this
  have hp4 : (rng 0 (Int.toNat 4)).length ≤ 4 := by rw [rng_length]; omega
  show m_law_is_operated _ _ _ = true
  have hne : s.2 ≠ [] := fun z => by have := hJ.2.1; rw [z] at this; simp at this
  exact is_operated_eq (grJ_fr hp4 hJ (inbl hne)).1 (grJ_fr hp4 hJ (inb0 hne)).1

theorem sc_law_is_whole : FnScope ["ring", "x", "y", "told", "due", "k", "zero"] ["ring", "x", "y"] (defScope s_law_is_whole) := ⟨rfl, rfl, rfl, by decide +kernel, rfl, by decide +kernel, by decide +kernel⟩
def m_law_is_whole (a_ring : Unit) (a_x : Int) (a_y : Int) : Bool :=
  bnd [(0 : Int), (1 : Int), (m_Whole_of a_ring a_x), (m_Whole_plus a_ring a_x a_y)] fun told_1 =>
  bnd (told_1 ++ [(m_Whole_minus a_ring a_x a_y), (m_Whole_negated a_ring a_x)]) fun told_2 =>
  bnd (told_2 ++ [(m_Whole_times a_ring a_x a_y)]) fun told_3 =>
  bnd [(0 : Int), (1 : Int), a_x, (a_x + a_y), (a_x - a_y), (-a_x), (a_x * a_y)] fun due_1 =>
  (if (¬ (List.map (fun k_1 => k_1) (List.filter (fun k_1 => decide (¬ ((m_law_is_integer k_1) = true))) told_3)) = ([] : List Int)) then
  false
  else
  (if (¬ told_3 = due_1) then
  false
  else
  ((forL (fun (s_1 : Unit) k_2 =>
  bnd (m_Whole_is_zero a_ring k_2) fun zero_1 =>
  (if ((¬ (true = true)) ∨ (¬ zero_1 = (decide (k_2 = (0 : Int))))) then
  .ret (false)
  else
  .go ())) [a_x, a_y, (0 : Int)] ()).out fun s_1 =>
  true)))

theorem ok_law_is_whole (T : Tx P K mg) : Cl P w K mg base 9 "_law_is_whole" (spF (fun a : Unit × Int × Int => [.val (y_Whole K) a.1, .val yI a.2.1, .val yI a.2.2]) (fun a : Unit × Int × Int => Sz 4000 a.2.1 ∧ Sz 4000 a.2.2) yB (fun a => m_law_is_whole a.1 a.2.1 a.2.2)) := by
  obtain ⟨f, fd, hg, FD⟩ := T.g_law_is_whole
  refine ⟨f, fd, ["ring", "x", "y"], ?_, hg, FD.kp, FD.bindsN fun _ _ _ _ _ _ us hl => match us, hl with | [_, _, _], _ => rfl⟩
  refine TL.FunD.okC (N := ["ring", "x", "y", "told", "due", "k", "zero"]) FD sc_law_is_whole (lenF fun _ => rfl) fun cdv A outer s H E hr => ?_
  refine ⟨_, (pss_cons (ps_set (i := 3) sc_law_is_whole.nd rfl (by first | exact .inl rfl | exact .inr rfl) (pe_lst (pa_cons (pe_fld (pv 0) rfl) (pa_cons (pe_fld (pv 0) rfl) (pa_cons (pe_mth (ok_Whole_of T) hr (by decide) passL (pv 0) (pa_cons (pv 1) pa_nil)) (pa_cons (pe_mth (ok_Whole_plus T) hr (by decide) passL (pv 0) (pa_cons (pv 1) (pa_cons (pv 2) pa_nil))) pa_nil)))))) (pss_cons (ps_set (i := 3) sc_law_is_whole.nd rfl (by first | exact .inl rfl | exact .inr rfl) (pe_op op_cat (pv 3) (pe_lst (pa_cons (pe_mth (ok_Whole_minus T) hr (by decide) passL (pv 0) (pa_cons (pv 1) (pa_cons (pv 2) pa_nil))) (pa_cons (pe_mth (ok_Whole_negated T) hr (by decide) passL (pv 0) (pa_cons (pv 1) pa_nil)) pa_nil))))) (pss_cons (ps_set (i := 3) sc_law_is_whole.nd rfl (by first | exact .inl rfl | exact .inr rfl) (pe_op op_cat (pv 3) (pe_lst (pa_cons (pe_mth (ok_Whole_times T) hr (by decide) passL (pv 0) (pa_cons (pv 1) (pa_cons (pv 2) pa_nil))) pa_nil)))) (pss_cons (ps_set (i := 4) sc_law_is_whole.nd rfl (by first | exact .inl rfl | exact .inr rfl) (pe_lst (pa_cons pe_int (pa_cons pe_int (pa_cons (pv 1) (pa_cons (pe_op op_add (pv 1) (pv 2)) (pa_cons (pe_op op_sub (pv 1) (pv 2)) (pa_cons (pe_un un_neg (pv 1)) (pa_cons (pe_op op_mulW (pv 1) (pv 2)) pa_nil))))))))) (pss_cons (ps_if (pt_cmpR (op_neD hr.units) (pe_lc (own := [("k", 5)]) rfl sc_law_is_whole.nd (pi_list (pv 3)) (blkOk_by (N := ["ring", "x", "y", "told", "due", "k", "zero"]) (sc := defScope s_law_is_whole) (by decide +kernel)) (fun _ _ _ _ _ => (pg_name (i := 5) sc_law_is_whole.nd rfl (by first | exact .inl rfl | exact .inr rfl))) (fun _ _ _ _ _ => (pts_one (pt_not (pt_val (pe_cl (ok_law_is_integer T) hr (by decide) (by rfl) passL (pa_cons (pv 5) pa_nil)))))) (fun _ _ _ _ _ => (pv 5))) (pe_lst pa_nil) (nomark _)) (pss_cons (ps_ret pe_bl) pss_nil) pss_nil) (pss_cons (ps_if (pt_cmpR (op_neD hr.units) (pv 3) (pv 4) (nomark _)) (pss_cons (ps_ret pe_bl) pss_nil) pss_nil) (pss_cons (ps_for (passes_of rfl) rfl (pi_list (pe_lst (pa_cons (pv 1) (pa_cons (pv 2) (pa_cons pe_int pa_nil))))) (pg_name (i := 5) sc_law_is_whole.nd rfl (by first | exact .inl rfl | exact .inr rfl)) (pss_cons (ps_set (i := 6) sc_law_is_whole.nd rfl (by first | exact .inl rfl | exact .inr rfl) (pe_mth (ok_Whole_is_zero T) hr (by decide) passL (pv 0) (pa_cons (pv 5) pa_nil))) (pss_cons (ps_if (PW.pt (pw_or (pt_not (pt_val (pe_callB call_isi (by rfl) T.b_isinstance (by decide +kernel) (pa_cons (pv 6) (pa_cons (pe_bltn (v := .ty "bool") (by rfl) T.b_bool (by decide +kernel) rfl) pa_nil))))) (pw_or1 (pt_cmpR op_ne (pv 6) (pe_cmpR op_eq (pv 5) pe_int (nomark _)) (nomark _))))) (pss_cons (ps_ret pe_bl) pss_nil) pss_nil) pss_nil))) (pss_cons (ps_ret (pe_callB call_isi (by rfl) T.b_isinstance (by decide +kernel) (pa_cons (pv 0) (pa_cons (pe_glob (v := .ref (He.ga K "Ring")) (by rfl) T.gc_Ring rfl) pa_nil)))) pss_nil)))))))), fun vs Q h => run_F (fun F a rt hpre => ?_) vs H Q E h⟩
  show Bd _ _ _ _ _ _ (m_law_is_whole a.1 a.2.1 a.2.2)
  unfold m_law_is_whole
  refine b_let (ev_l (evl_lst (t := yI) (xs := [(0 : Int), (1 : Int), (m_Whole_of a.1 a.2.1), (m_Whole_plus a.1 a.2.1 a.2.2)]) (ea_cons (ev_fld 0 ev_var T.cl_Whole T.na_Whole_zero nd_Whole rfl rfl) (ea_cons (ev_fld 1 ev_var T.cl_Whole T.na_Whole_one nd_Whole rfl rfl) (ea_cons (ev_meth (m := "of") (a.1, a.2.1) ev_var nm_Whole_of (ea_cons ev_var ea_nil) rfl trivial) (ea_cons (ev_meth (m := "plus") (a.1, a.2.1, a.2.2) ev_var nm_Whole_plus (ea_cons ev_var (ea_cons ev_var ea_nil)) rfl trivial) ea_nil)))) rfl (lit_len 4 rfl (by decide)))) fun told_1 htold_1 => ?_
  refine b_let (ev_l (evl_cat ev_var (ev_l (evl_lst (t := yI) (xs := [(m_Whole_minus a.1 a.2.1 a.2.2), (m_Whole_negated a.1 a.2.1)]) (ea_cons (ev_meth (m := "minus") (a.1, a.2.1, a.2.2) ev_var nm_Whole_minus (ea_cons ev_var (ea_cons ev_var ea_nil)) rfl trivial) (ea_cons (ev_meth (m := "negated") (a.1, a.2.1) ev_var nm_Whole_negated (ea_cons ev_var ea_nil) rfl trivial) ea_nil)) rfl (lit_len 2 rfl (by decide)))) (by simp only [htold_1, List.length_cons, List.length_nil]; decide))) fun told_2 htold_2 => ?_
  refine b_let (ev_l (evl_cat ev_var (ev_l (evl_lst (t := yI) (xs := [(m_Whole_times a.1 a.2.1 a.2.2)]) (ea_cons (ev_meth (m := "times") (a.1, a.2.1, a.2.2) ev_var nm_Whole_times (ea_cons ev_var (ea_cons ev_var ea_nil)) rfl (by exact hpre)) ea_nil) rfl (lit_len 1 rfl (by decide)))) (by simp only [htold_1, htold_2, List.length_append, List.length_cons, List.length_nil]; decide))) fun told_3 htold_3 => ?_
  refine b_let (ev_l (evl_lst (t := yI) (xs := [(0 : Int), (1 : Int), a.2.1, (a.2.1 + a.2.2), (a.2.1 - a.2.2), (-a.2.1), (a.2.1 * a.2.2)]) (ea_cons ev_int (ea_cons ev_int (ea_cons ev_var (ea_cons (ev_add ev_var ev_var) (ea_cons (ev_sub ev_var ev_var) (ea_cons (ev_neg ev_var) (ea_cons (ev_mul ev_var ev_var (by exact sz_mulW hpre.1 hpre.2)) ea_nil))))))) rfl (lit_len 7 rfl (by decide)))) fun due_1 hdue_1 => ?_
  refine b_seq (b_if (tt_n (ev_neD (ev_l (lc_filter (fun k_1 => decide (¬ ((m_law_is_integer k_1) = true))) (fun k_1 => k_1) (iv_list ev_var) (tg_name 5) (by decide) (by simp only [htold_1, htold_2, htold_3, List.length_append, List.length_cons, List.length_nil]; decide) (fun D gs k_1 hm_1 => tt_iff (tt_not (tt_b (ev_call k_1 (ea_cons ev_var ea_nil) rfl trivial))) (by simp)) (fun D gs k_1 hm_1 hp => ev_var))) (ev_l (evl_lst (t := yI) (xs := []) ea_nil rfl (by decide))))) (fun h_1 => ?_) (fun h_1 => ?_))
  · exact b_seq (b_ret ev_bl (fun h => h _))
  · refine b_fall ?_
    refine b_seq (b_if (tt_n (ev_neD ev_var ev_var)) (fun h_2 => ?_) (fun h_2 => ?_))
    · exact b_seq (b_ret ev_bl (fun h => h _))
    · refine b_fall ?_
      refine b_for _ (fun (s_1 : Unit) => ([] : Own)) (fun (s_1 : Unit) => (⟨[.val (y_Whole K) a.1, .val yI a.2.1, .val yI a.2.2, .val (yL yI) told_3, .val (yL yI) due_1, .any, .any], []⟩ : Lc)) (fun _ _ => True) () (iv_list (ev_l (evl_lst (t := yI) (xs := [a.2.1, a.2.2, (0 : Int)]) (ea_cons ev_var (ea_cons ev_var (ea_cons ev_int ea_nil))) rfl (lit_len 3 rfl (by decide))))) (tg_name 5) rfl ⟨(.cons (.inl rfl) (.cons (.inl rfl) (.cons (.inl rfl) (.cons (.inl rfl) (.cons (.inl rfl) (.cons (.inr rfl) (.cons (.inr rfl) .nil))))))), rfl⟩ trivial (fun _ _ _ _ _ _ _ _ => trivial) (fun gs_1 pre k_2 post s_1 he_1 hj_1 N B P' hgo_1 hret_1 => ?_) (fun s_1 hj_2 => ?_)
      · have hmk_2 : k_2 ∈ [a.2.1, a.2.2, (0 : Int)] := by rw [he_1]; exact List.mem_append_right _ List.mem_cons_self
        refine b_let (ev_meth (m := "is_zero") (a.1, k_2) ev_var nm_Whole_is_zero (ea_cons ev_var ea_nil) rfl trivial) fun zero_1 hzero_1 => ?_
        refine b_seq (b_if (tt_or (tt_not (tt_b (ev_isi (ct := .type "bool") (bb := true) ev_var (kit_ty (by decide +kernel))))) fun hb_1 => (tt_n (ev_ne ev_var (ev_eq ev_var ev_int)))) (fun h_3 => ?_) (fun h_3 => ?_))
        · exact b_seq (b_ret ev_bl (fun h => (hret_1 _ h) _))
        · refine b_fall ?_
          exact b_next fun h => nx_wk (hgo_1 _ h) ⟨(.cons (.inl rfl) (.cons (.inl rfl) (.cons (.inl rfl) (.cons (.inl rfl) (.cons (.inl rfl) (.cons (.inr rfl) (.cons (.inr rfl) .nil))))))), rfl⟩
      · exact b_seq (b_ret (ev_isiC (hT := ht_Whole T) ev_var T.ki_Whole_Ring) (fun h => h _))

theorem sc_law_is_field : FnScope ["ring"] ["ring"] (defScope s_law_is_field) := ⟨rfl, rfl, rfl, by decide +kernel, rfl, by decide +kernel, by decide +kernel⟩
def m_law_is_field (a_ring : Unit) : Bool :=
  (if ((¬ (true = true)) ∨ (¬ (true = true))) then
  false
  else
  (if ((¬ ((m_law_is_fraction ((0, 1) : Int × Int) ((0 : Int), (1 : Int))) = true)) ∨ (¬ ((m_law_is_fraction ((1, 1) : Int × Int) ((1 : Int), (1 : Int))) = true))) then
  false
  else
  (if ((¬ ((m_law_is_integer (0 : Int)) = true)) ∨ (¬ ((m_law_is_integer (0 : Int)) = true))) then
  false
  else
  ((decide ((0 : Int) = (0 : Int))) && (decide ((0 : Int) = (0 : Int)))))))

theorem ok_law_is_field (T : Tx P K mg) : Cl P w K mg base 3 "_law_is_field" (spF (fun a : Unit => [.val (y_Fractions K) a]) (fun _ : Unit => True) yB (fun a => m_law_is_field a)) := by
  obtain ⟨f, fd, hg, FD⟩ := T.g_law_is_field
  refine ⟨f, fd, ["ring"], ?_, hg, FD.kp, FD.bindsN fun _ _ _ _ _ _ us hl => match us, hl with | [_], _ => rfl⟩
  refine TL.FunD.okC (N := ["ring"]) FD sc_law_is_field (lenF fun _ => rfl) fun cdv A outer s H E hr => ?_
  refine ⟨_, (pss_cons (ps_if (PW.pt (pw_or (pt_not (pt_val (pe_callB call_isi (by rfl) T.b_isinstance (by decide +kernel) (pa_cons (pv 0) (pa_cons (pe_glob (v := .ref (He.ga K "Field")) (by rfl) T.gc_Field rfl) pa_nil))))) (pw_or1 (pt_not (pt_val (pe_callB call_isi (by rfl) T.b_isinstance (by decide +kernel) (pa_cons (pv 0) (pa_cons (pe_glob (v := .ref (He.ga K "Ring")) (by rfl) T.gc_Ring rfl) pa_nil)))))))) (pss_cons (ps_ret pe_bl) pss_nil) pss_nil) (pss_cons (ps_if (PW.pt (pw_or (pt_not (pt_val (pe_cl (ok_law_is_fraction T) hr (by decide) (by rfl) passL (pa_cons (pe_fld (pv 0) rfl) (pa_cons (pe_tup (pa_cons pe_int (pa_cons pe_int pa_nil))) pa_nil))))) (pw_or1 (pt_not (pt_val (pe_cl (ok_law_is_fraction T) hr (by decide) (by rfl) passL (pa_cons (pe_fld (pv 0) rfl) (pa_cons (pe_tup (pa_cons pe_int (pa_cons pe_int pa_nil))) pa_nil)))))))) (pss_cons (ps_ret pe_bl) pss_nil) pss_nil) (pss_cons (ps_if (PW.pt (pw_or (pt_not (pt_val (pe_cl (ok_law_is_integer T) hr (by decide) (by rfl) passL (pa_cons (pe_fld (pv 0) rfl) pa_nil)))) (pw_or1 (pt_not (pt_val (pe_cl (ok_law_is_integer T) hr (by decide) (by rfl) passL (pa_cons (pe_fld (pv 0) rfl) pa_nil))))))) (pss_cons (ps_ret pe_bl) pss_nil) pss_nil) (pss_cons (ps_ret (pe_and (pe_cmpR op_eq (pe_fld (pv 0) rfl) pe_int (nomark _)) (pe_one (pe_cmpR op_eq (pe_fld (pv 0) rfl) pe_int (nomark _))))) pss_nil)))), fun vs Q h => run_F (fun F a rt hpre => ?_) vs H Q E h⟩
  show Bd _ _ _ _ _ _ (m_law_is_field a)
  unfold m_law_is_field
  refine b_seq (b_if (tt_or (tt_not (tt_b (ev_isiC (hT := ht_Fractions T) ev_var T.ki_Fractions_Field))) fun hb_1 => (tt_not (tt_b (ev_isiC (hT := ht_Fractions T) ev_var T.ki_Fractions_Ring)))) (fun h_1 => ?_) (fun h_1 => ?_))
  · exact b_seq (b_ret ev_bl (fun h => h _))
  · refine b_fall ?_
    refine b_seq (b_if (tt_or (tt_not (tt_b (ev_call (((0, 1) : Int × Int), ((0 : Int), (1 : Int))) (ea_cons (ev_fld 0 ev_var T.cl_Fractions T.na_Fractions_zero nd_Fractions rfl rfl) (ea_cons (ev_pair (ea_cons ev_int (ea_cons ev_int ea_nil))) ea_nil)) rfl trivial))) fun hb_2 => (tt_not (tt_b (ev_call (((1, 1) : Int × Int), ((1 : Int), (1 : Int))) (ea_cons (ev_fld 1 ev_var T.cl_Fractions T.na_Fractions_one nd_Fractions rfl rfl) (ea_cons (ev_pair (ea_cons ev_int (ea_cons ev_int ea_nil))) ea_nil)) rfl trivial)))) (fun h_2 => ?_) (fun h_2 => ?_))
    · exact b_seq (b_ret ev_bl (fun h => h _))
    · refine b_fall ?_
      refine b_seq (b_if (tt_or (tt_not (tt_b (ev_call (0 : Int) (ea_cons (ev_fld 2 ev_var T.cl_Fractions T.na_Fractions_characteristic nd_Fractions rfl rfl) ea_nil) rfl trivial))) fun hb_3 => (tt_not (tt_b (ev_call (0 : Int) (ea_cons (ev_fld 3 ev_var T.cl_Fractions T.na_Fractions_size nd_Fractions rfl rfl) ea_nil) rfl trivial)))) (fun h_3 => ?_) (fun h_3 => ?_))
      · exact b_seq (b_ret ev_bl (fun h => h _))
      · refine b_fall ?_
        exact b_seq (b_ret (ev_andV (ev_eq (ev_fld 2 ev_var T.cl_Fractions T.na_Fractions_characteristic nd_Fractions rfl rfl) ev_int) fun hb_4 => (ev_eq (ev_fld 3 ev_var T.cl_Fractions T.na_Fractions_size nd_Fractions rfl rfl) ev_int)) (fun h => h _))

theorem sc_law : FnScope ["script", "pool", "pairs", "numbers", "ring", "den", "found", "number", "k", "whole"] ["script"] (defScope s_law) := ⟨rfl, rfl, rfl, by decide +kernel, rfl, by decide +kernel, by decide +kernel⟩
def m_law (a_script : (List Int)) : Bool :=
  bnd (m_law_start (List.take (Int.toNat (63 : Int)) a_script)) fun pool_1 =>
  bnd (mapS (fun (s_1 : List Int) (x_1 : Int) => bnd (m_law_terms s_1) fun yy_2 => (yy_2.1, yy_2.2)) (rng 0 (Int.toNat (3 : Int))) pool_1) fun yy_3 =>
  bnd yy_3.1 fun pairs_1 =>
  bnd (mapS (fun (s_2 : List Int) (x_2 : Int) => bnd (m_law_integer s_2 (1000000000000000000000000000000 : Int)) fun yy_5 => (yy_5.1, yy_5.2)) (rng 0 (Int.toNat (3 : Int))) yy_3.2) fun yy_6 =>
  bnd yy_6.1 fun numbers_1 =>
  bnd () fun ring_1 =>
  (if (¬ ((m_law_is_field ring_1) = true)) then
  false
  else
  bnd (ix pairs_1 (0 : Int)).2 fun den_1 =>
  bnd (m_law_made ring_1 (pairs_1 ++ [((0 : Int), den_1), (den_1, den_1)])) fun found_1 =>
  (if (¬ (found_1.length : Int) = (5 : Int)) then
  false
  else
  ((forL (fun (s_3 : Unit) number_1 =>
  (if (¬ ((m_law_is_fraction (m_Fractions_of ring_1 number_1) (number_1, (1 : Int))) = true)) then
  .ret (false)
  else
  .go ())) numbers_1 ()).out fun s_3 =>
  ((forL (fun (s_4 : Unit) k_3 =>
  (if (¬ ((m_law_is_operated ring_1 (ix found_1 k_3) (ix found_1 (k_3 - (1 : Int)))) = true)) then
  .ret (false)
  else
  .go ())) (rng 0 (Int.toNat (5 : Int))) ()).out fun s_4 =>
  bnd (m_law_grown yy_6.2 ring_1 found_1) fun yy_7 =>
  (if (¬ (yy_7.1 = true)) then
  false
  else
  bnd () fun whole_1 =>
  ((forL (fun (s_5 : Unit) k_4 =>
  (if (¬ ((m_law_is_whole whole_1 (ix numbers_1 k_4) (ix numbers_1 (k_4 - (1 : Int)))) = true)) then
  .ret (false)
  else
  .go ())) (rng 0 (Int.toNat (3 : Int))) ()).out fun s_5 =>
  ((m_law_is_operated ring_1 (ix found_1 (0 : Int)) (ix found_1 (3 : Int))) && (m_law_is_field ()))))))))
abbrev spRingI {α β : Type} (C : Addr) (t : Ty α) (u : Ty β) : Sp := spP (fun p (a : α × β) => [.val (yV (.ref p)) (), .val t a.1, .val u a.2]) (fun _ => cO C [] []) (fun a => cO C ["zero", "one"] [.val t a.1, .val u a.2]) (fun _ => True) yN (fun a => ((), a))
abbrev spFieldI (C : Addr) : Sp := spP (fun p (a : (Int × Int) × (Int × Int) × Int × Int) => [.val (yV (.ref p)) (), .val (yP yI yI) a.1, .val (yP yI yI) a.2.1, .val yI a.2.2.1, .val yI a.2.2.2]) (fun _ => cO C [] [])
  (fun a => cO C ["zero", "one", "characteristic", "size"] [.val (yP yI yI) a.1, .val (yP yI yI) a.2.1, .val yI a.2.2.1, .val yI a.2.2.2]) (fun _ => True) yN (fun a => ((), a))
theorem init_Ring {α β : Type} (T : Tx P K mg) (C : Addr) (t : Ty α) (u : Ty β) (hC : Cls K C) (h1 : NoAttr K C "zero") (h2 : NoAttr K C "one") : ∃ fd, FnOk P w K mg base (L2.CX P w) 1 (He.ma K (He.ga K "Ring") "__init__") fd ["self", "zero", "one"] (spRingI C t u) ∧ Binds K fd ["self", "zero", "one"] [] := by
  obtain ⟨fd, FD⟩ := T.ii_Ring
  refine ⟨fd, ?_, FD.bindsN fun _ _ _ _ _ _ us hl => match us, hl with | [_, _, _], _ => rfl⟩
  refine TL.FunD.okC (N := ["self", "zero", "one"]) FD ⟨rfl, rfl, rfl, by decide +kernel, rfl, by decide +kernel, by decide +kernel⟩ (lenP fun _ _ => rfl) fun cdv A outer s H E hr => ?_
  refine ⟨_, pss_cons (ps_fld (pv 0) (pv 1) rfl) (pss_cons (ps_fld (pv 0) (pv 2) rfl) pss_nil), fun vs Q h => run_P (fun F p a rt hpre => ?_) vs H Q E h⟩
  refine b_fld 0 (t := t) (a := a.1) ev_var ev_var rfl hC h1 (by decide) (by decide) ?_
  refine b_fld 0 (t := u) (a := a.2) ev_var ev_var rfl hC h2 (by decide) (by decide) ?_
  exact b_next fun h => nx_end (h _)
theorem init_Field (T : Tx P K mg) : ∃ fd, FnOk P w K mg base (L2.CX P w) 2 (He.ma K (He.ga K "Field") "__init__") fd ["self", "zero", "one", "characteristic", "size"] (spFieldI (He.ga K "Fractions")) ∧ Binds K fd ["self", "zero", "one", "characteristic", "size"] [] := by
  obtain ⟨cda, cc, oc, od, osl, kV, doc, pm, an, ct, lk, hcd, SF⟩ := T.si_Field
  obtain ⟨fd2, F2, b2⟩ := init_Ring (P := P) (w := w) (base := base) T (He.ga K "Fractions") (yP yI yI) (yP yI yI) T.cl_Fractions T.na_Fractions_zero T.na_Fractions_one
  refine ⟨_, fn_super (k := 1) (k2 := 1) (sp2 := spRingI (He.ga K "Fractions") (yP yI yI) (yP yI yI)) (N := ["self", "zero", "one", "characteristic", "size"]) (me := "self") (ar := ?ar) lk hcd ⟨rfl, rfl, rfl, by decide +kernel, rfl, by decide +kernel, by decide +kernel, by decide +kernel, rfl, rfl, rfl⟩ SF ?h1 ?h2 T.b_super (by decide) rfl (fun env => rfl) (fun env => rfl) (fun env => rfl) (lenP fun _ _ => rfl) (fun A outer s H vs Q E hr hsp => ?_), .all fun us hl => match us, hl with | [_, _, _, _, _], _ => rfl⟩
  case h1 => rfl
  case h2 => rfl
  obtain ⟨x, dx, fs, h1, h2, h3⟩ := super_go (N := ["self", "zero", "one", "characteristic", "size"]) (C := He.ga K "Fractions") (ns := []) (sl := fun _ => []) (f2 := He.ma K (He.ga K "Ring") "__init__") (args2 := fun p a => [.val (yV (.ref p)) (), .val (yP yI yI) a.1, .val (yP yI yI) a.2]) (pre2 := fun _ => True) (c2 := fun _ => cO (He.ga K "Fractions") [] []) (cc2 := fun a => cO (He.ga K "Fractions") ["zero", "one"] [.val (yP yI yI) a.1, .val (yP yI yI) a.2]) (m2 := fun a => ((), a)) (tA := tCons (tVar 1) (tCons (tVar 2) tNil)) (t := tSeq (sFld K (tVar 0) (tVar 3) "characteristic") (tSeq (sFld K (tVar 0) (tVar 4) "size") tNext)) hsp (fun p a => ⟨_, rfl⟩)
    (fun F p a rt _ => ⟨(a.1, a.2.1), _, ea_cons (t := yP yI yI) (a := a.1) ev_var (ea_cons (t := yP yI yI) (a := a.2.1) ev_var ea_nil), rfl, rfl, trivial, by
      refine b_fld 0 (t := yI) (a := a.2.2.1) ev_var ev_var rfl T.cl_Fractions T.na_Fractions_characteristic (by decide) (by decide) ?_
      refine b_fld 0 (t := yI) (a := a.2.2.2) ev_var ev_var rfl T.cl_Fractions T.na_Fractions_size (by decide) (by decide) ?_
      exact b_next fun h => nx_end (h _)⟩)
  exact ⟨x, _, dx, _, fs, fd2, _, _, _, h1, h2, T.sp_Fractions_Field, F2, Nat.le_refl _, b2, pa_cons (pv 1) (pa_cons (pv 2) pa_nil), pss_cons (ps_fld (pv 0) (pv 3) rfl) (pss_cons (ps_fld (pv 0) (pv 4) rfl) pss_nil), passL, h3⟩
theorem mk_Fractions (T : Tx P K mg) : Mkr P w K mg base 3 "Fractions" (He.ga K "Fractions") (spP (fun p (_ : Unit) => [.val (yV (.ref p)) ()]) (fun _ => cO (He.ga K "Fractions") [] []) (fun _ : Unit => cO (He.ga K "Fractions") ns_Fractions [.val (yP yI yI) ((0, 1) : Int × Int), .val (yP yI yI) ((1, 1) : Int × Int), .val yI (0 : Int), .val yI (0 : Int)]) (fun _ => True) yN (fun _ => ((), ()))) := by
  obtain ⟨cda, cc, oc, od, osl, kV, doc, pm, an, ct, lk, hcd, SF⟩ := T.si_Fractions
  obtain ⟨fd2, F2, b2⟩ := init_Field (P := P) (w := w) (base := base) T
  refine ⟨_, _, ["self"], T.mk_Fractions, fn_super (k := 2) (k2 := 2) (sp2 := spFieldI (He.ga K "Fractions")) (N := ["self"]) (me := "self") (ar := ?ar) lk hcd ⟨rfl, rfl, rfl, by decide +kernel, rfl, by decide +kernel, by decide +kernel, by decide +kernel, rfl, rfl, rfl⟩ SF ?h1 ?h2 T.b_super (by decide) rfl (fun env => rfl) (fun env => rfl) (fun env => rfl) (lenP fun _ _ => rfl) (fun A outer s H vs Q E hr hsp => ?_), T.gc_Fractions, .all fun us hl => match us, hl with | [_], _ => rfl⟩
  case h1 => rfl
  case h2 => rfl
  obtain ⟨x, dx, fs, h1, h2, h3⟩ := super_go (N := ["self"]) (C := He.ga K "Fractions") (ns := []) (sl := fun _ => []) (f2 := He.ma K (He.ga K "Field") "__init__") (args2 := fun p a => [.val (yV (.ref p)) (), .val (yP yI yI) a.1, .val (yP yI yI) a.2.1, .val yI a.2.2.1, .val yI a.2.2.2]) (pre2 := fun _ => True) (c2 := fun _ => cO (He.ga K "Fractions") [] []) (cc2 := fun a => cO (He.ga K "Fractions") ["zero", "one", "characteristic", "size"] [.val (yP yI yI) a.1, .val (yP yI yI) a.2.1, .val yI a.2.2.1, .val yI a.2.2.2]) (m2 := fun a => ((), a)) (tA := tCons (tTup (tCons (tC (.int 0)) (tCons (tC (.int 1)) tNil))) (tCons (tTup (tCons (tC (.int 1)) (tCons (tC (.int 1)) tNil))) (tCons (tC (.int 0)) (tCons (tC (.int 0)) tNil)))) (t := tNext) hsp (fun p a => ⟨_, rfl⟩)
    (fun F p a rt _ => ⟨((0, 1), (1, 1), 0, 0), _, ea_cons (ev_pair (ea_cons ev_int (ea_cons ev_int ea_nil))) (ea_cons (ev_pair (ea_cons ev_int (ea_cons ev_int ea_nil))) (ea_cons ev_int (ea_cons ev_int ea_nil))), rfl, rfl, trivial, b_next fun h => nx_end (h _)⟩)
  exact ⟨x, _, dx, _, fs, fd2, _, _, _, h1, h2, T.sp_Fractions_Fractions, F2, Nat.le_refl _, b2, pa_cons (pe_tup (pa_cons pe_int (pa_cons pe_int pa_nil))) (pa_cons (pe_tup (pa_cons pe_int (pa_cons pe_int pa_nil))) (pa_cons pe_int (pa_cons pe_int pa_nil))), pss_nil, passL, h3⟩
theorem mk_Whole (T : Tx P K mg) : Mkr P w K mg base 3 "Whole" (He.ga K "Whole") (spP (fun p (_ : Unit) => [.val (yV (.ref p)) ()]) (fun _ => cO (He.ga K "Whole") [] []) (fun _ : Unit => cO (He.ga K "Whole") ns_Whole [.val yI (0 : Int), .val yI (1 : Int)]) (fun _ => True) yN (fun _ => ((), ()))) := by
  obtain ⟨cda, cc, oc, od, osl, kV, doc, pm, an, ct, lk, hcd, SF⟩ := T.si_Whole
  obtain ⟨fd2, F2, b2⟩ := init_Ring (P := P) (w := w) (base := base) T (He.ga K "Whole") yI yI T.cl_Whole T.na_Whole_zero T.na_Whole_one
  refine ⟨_, _, ["self"], T.mk_Whole, fn_super (k := 2) (k2 := 1) (sp2 := spRingI (He.ga K "Whole") yI yI) (N := ["self"]) (me := "self") (ar := ?ar) lk hcd ⟨rfl, rfl, rfl, by decide +kernel, rfl, by decide +kernel, by decide +kernel, by decide +kernel, rfl, rfl, rfl⟩ SF ?h1 ?h2 T.b_super (by decide) rfl (fun env => rfl) (fun env => rfl) (fun env => rfl) (lenP fun _ _ => rfl) (fun A outer s H vs Q E hr hsp => ?_), T.gc_Whole, .all fun us hl => match us, hl with | [_], _ => rfl⟩
  case h1 => rfl
  case h2 => rfl
  obtain ⟨x, dx, fs, h1, h2, h3⟩ := super_go (N := ["self"]) (C := He.ga K "Whole") (ns := []) (sl := fun _ => []) (f2 := He.ma K (He.ga K "Ring") "__init__") (args2 := fun p a => [.val (yV (.ref p)) (), .val yI a.1, .val yI a.2]) (pre2 := fun _ => True) (c2 := fun _ => cO (He.ga K "Whole") [] []) (cc2 := fun a => cO (He.ga K "Whole") ["zero", "one"] [.val yI a.1, .val yI a.2]) (m2 := fun a => ((), a)) (tA := tCons (tC (.int 0)) (tCons (tC (.int 1)) tNil)) (t := tNext) hsp (fun p a => ⟨_, rfl⟩)
    (fun F p a rt _ => ⟨(0, 1), _, ea_cons ev_int (ea_cons ev_int ea_nil), rfl, rfl, trivial, b_next fun h => nx_end (h _)⟩)
  exact ⟨x, _, dx, _, fs, fd2, _, _, _, h1, h2, T.sp_Whole_Whole, F2, (by decide), b2, pa_cons pe_int (pa_cons pe_int pa_nil), pss_nil, passL, h3⟩
theorem law_numbers {l : List Int} (h : ∀ x ∈ l, x.natAbs ≤ (1000000000000000000000000000000 : Int).natAbs) {i : Int} (hi : Inb l i) : Sz 4000 (ix l i) := by
  have h1 := h _ (ix_mem hi)
  exact sz_mono (m := 150) (by unfold Sz; omega) (by omega)
theorem mk_pairs {pool : List Int} {y : List (Int × Int) × List Int} (hp : pool ≠ []) (hy : y = mapS (fun (s6 : List Int) (x7 : Int) => bnd (m_law_terms s6) fun y8 => (y8.1, y8.2)) (rng 0 (Int.toNat (3 : Int))) pool) : (∀ p ∈ y.1, Fr 101 p) ∧ y.2 ≠ [] ∧ y.1.length = 3 := by
  subst hy
  exact mapS_inv (fun s => s ≠ []) (fun p => Fr 101 p) (fun s x hs => p_terms hs rfl) _ _ hp
theorem mk_numbers {pool : List Int} {y : List Int × List Int} (hp : pool ≠ []) (hy : y = mapS (fun (s14 : List Int) (x15 : Int) => bnd (m_law_integer s14 (1000000000000000000000000000000 : Int)) fun y16 => (y16.1, y16.2)) (rng 0 (Int.toNat (3 : Int))) pool) : (∀ p ∈ y.1, p.natAbs ≤ (1000000000000000000000000000000 : Int).natAbs) ∧ y.2 ≠ [] ∧ y.1.length = 3 := by
  subst hy
  exact mapS_inv (fun s => s ≠ []) (fun p : Int => p.natAbs ≤ (1000000000000000000000000000000 : Int).natAbs) (fun s x hs => p_integer ⟨hs, by omega, sz_lit (by decide +kernel)⟩ rfl) _ _ hp
theorem start_ne (c : List Int) : m_law_start c ≠ [] := by
  unfold m_law_start
  simp only [bnd]
  intro z
  have := congrArg List.length z
  rw [List.length_append, List.length_map, List.length_map, rng_length, List.length_nil] at this
  omega
theorem law_pairs {ps : List (Int × Int)} {d : Int} (h : (∀ p ∈ ps, Fr 101 p) ∧ ps.length = 3) (hd : d = (ix ps 0).2) : (∀ p ∈ ps ++ [((0 : Int), d), (d, d)], Fr 101 p) ∧ (ps ++ [((0 : Int), d), (d, d)]).length ≤ 5 := by
  have h1 := h.1 _ (ix_mem (xs := ps) (i := 0) ⟨by omega, by omega⟩)
  have h2 : d ≠ 0 ∧ Sz 101 d := by
    rw [hd]
    exact ⟨h1.1, h1.2.2⟩
  refine ⟨fun p hp => ?_, by rw [List.length_append]; simp; omega⟩
  rcases List.mem_append.mp hp with z | z
  · exact h.1 p z
  · rcases List.mem_cons.mp z with z | z
    · rw [z]
      exact ⟨h2.1, show Sz 101 (0 : Int) from sz_lit (by decide +kernel), h2.2⟩
    · rw [List.mem_singleton.mp z]
      exact ⟨h2.1, h2.2, h2.2⟩
theorem made_fr {r : Unit} {ps : List (Int × Int)} (h : ∀ p ∈ ps, Fr 101 p) : (∀ p ∈ m_law_made r ps, Fr 101 p) ∧ (m_law_made r ps).length = ps.length := by
  rw [made_eq r ps fun p hp => (h p hp).1]
  refine ⟨fun p hp => ?_, by simp⟩
  obtain ⟨q, hq, e⟩ := List.mem_map.mp hp
  rw [← e]
  exact lowest_fr (h q hq).1 (h q hq).2.1 (h q hq).2.2


theorem ok_law (T : Tx P K mg) {f : Addr} {fd : FuncData} (FD : FunD K "law" "law" (defArgs s_law) (defBody s_law) (defScope s_law) [] [] f fd) : FnOk P w K mg base (L2.CX P w) 13 f fd ["script"] (spF (fun a : (List Int) => [.val (yF K yI) a]) (fun _ : (List Int) => True) yB (fun a => m_law a)) := by
  refine TL.FunD.okC (N := ["script", "pool", "pairs", "numbers", "ring", "den", "found", "number", "k", "whole"]) FD sc_law (lenF fun _ => rfl) fun cdv A outer s H E hr => ?_
  refine ⟨_, (pss_cons (ps_set (i := 1) sc_law.nd rfl (by first | exact .inl rfl | exact .inr rfl) (pe_cl (ok_law_start T) hr (by decide) (by rfl) passL (pa_cons (pe_slice sl_list (pv 0) po_none (po_some pe_int)) pa_nil))) (pss_cons (ps_setLc (i := 2) (own := [("k", 8)]) (tt := tYes) rfl sc_law.nd rfl rfl (sw_true rfl rfl rfl (by decide +kernel)) (pi_range1 (by rfl) T.b_range (pa_cons pe_int pa_nil)) (blkOk_by (N := ["script", "pool", "pairs", "numbers", "ring", "den", "found", "number", "k", "whole"]) (sc := defScope s_law) (by decide +kernel)) (fun _ _ _ _ _ => (pg_name (i := 8) sc_law.nd rfl (by first | exact .inl rfl | exact .inr rfl))) (fun _ _ _ _ _ => pts_nil) (fun _ _ _ _ _ => (pe_cl (ok_law_terms T) hr (by decide) (by rfl) passL (pa_cons (pv 1) pa_nil)))) (pss_cons (ps_setLc (i := 3) (own := [("k", 8)]) (tt := tYes) rfl sc_law.nd rfl rfl (sw_true rfl rfl rfl (by decide +kernel)) (pi_range1 (by rfl) T.b_range (pa_cons pe_int pa_nil)) (blkOk_by (N := ["script", "pool", "pairs", "numbers", "ring", "den", "found", "number", "k", "whole"]) (sc := defScope s_law) (by decide +kernel)) (fun _ _ _ _ _ => (pg_name (i := 8) sc_law.nd rfl (by first | exact .inl rfl | exact .inr rfl))) (fun _ _ _ _ _ => pts_nil) (fun _ _ _ _ _ => (pe_cl (ok_law_integer T) hr (by decide) (by rfl) passL (pa_cons (pv 1) (pa_cons (pe_op op_pow pe_int pe_int) pa_nil))))) (pss_cons (ps_set (i := 4) sc_law.nd rfl (by first | exact .inl rfl | exact .inr rfl) (pe_mkr0 (mk_Fractions T) hr (by decide) (by rfl) passL)) (pss_cons (ps_if (pt_not (pt_val (pe_cl (ok_law_is_field T) hr (by decide) (by rfl) passL (pa_cons (pv 4) pa_nil)))) (pss_cons (ps_ret pe_bl) pss_nil) pss_nil) (pss_cons (ps_set (i := 5) sc_law.nd rfl (by first | exact .inl rfl | exact .inr rfl) (pe_ix ix_tup (pe_ix ix_list (pv 2) pe_int (fun _ _ => rfl)) pe_int (fun _ _ => rfl))) (pss_cons (ps_set (i := 6) sc_law.nd rfl (by first | exact .inl rfl | exact .inr rfl) (pe_cl (ok_law_made T) hr (by decide) (by rfl) passL (pa_cons (pv 4) (pa_cons (pe_op op_cat (pv 2) (pe_lst (pa_cons (pe_tup (pa_cons pe_int (pa_cons (pv 5) pa_nil))) (pa_cons (pe_tup (pa_cons (pv 5) (pa_cons (pv 5) pa_nil))) pa_nil)))) pa_nil)))) (pss_cons (ps_if (pt_cmpR op_ne (pe_callB call_len_seq (by rfl) T.b_len (by decide +kernel) (pa_cons (pv 6) pa_nil)) pe_int (nomark _)) (pss_cons (ps_ret pe_bl) pss_nil) pss_nil) (pss_cons (ps_for (passes_of rfl) rfl (pi_list (pv 3)) (pg_name (i := 7) sc_law.nd rfl (by first | exact .inl rfl | exact .inr rfl)) (pss_cons (ps_if (pt_not (pt_val (pe_cl (ok_law_is_fraction T) hr (by decide) (by rfl) passL (pa_cons (pe_mth (ok_Fractions_of T) hr (by decide) passL (pv 4) (pa_cons (pv 7) pa_nil)) (pa_cons (pe_tup (pa_cons (pv 7) (pa_cons pe_int pa_nil))) pa_nil))))) (pss_cons (ps_ret pe_bl) pss_nil) pss_nil) pss_nil)) (pss_cons (ps_for (passes_of rfl) rfl (pi_range1 (by rfl) T.b_range (pa_cons pe_int pa_nil)) (pg_name (i := 8) sc_law.nd rfl (by first | exact .inl rfl | exact .inr rfl)) (pss_cons (ps_if (pt_not (pt_val (pe_cl (ok_law_is_operated T) hr (by decide) (by rfl) passL (pa_cons (pv 4) (pa_cons (pe_ix ix_list (pv 6) (pv 8) (fun _ _ => rfl)) (pa_cons (pe_ix ix_list (pv 6) (pe_op op_sub (pv 8) pe_int) (fun _ _ => rfl)) pa_nil)))))) (pss_cons (ps_ret pe_bl) pss_nil) pss_nil) pss_nil)) (pss_cons (ps_if (pt_not (pt_val (pe_cl (ok_law_grown T) hr (by decide) (by rfl) passL (pa_cons (pv 1) (pa_cons (pv 4) (pa_cons (pv 6) pa_nil)))))) (pss_cons (ps_ret pe_bl) pss_nil) pss_nil) (pss_cons (ps_set (i := 9) sc_law.nd rfl (by first | exact .inl rfl | exact .inr rfl) (pe_mkr0 (mk_Whole T) hr (by decide) (by rfl) passL)) (pss_cons (ps_for (passes_of rfl) rfl (pi_range1 (by rfl) T.b_range (pa_cons pe_int pa_nil)) (pg_name (i := 8) sc_law.nd rfl (by first | exact .inl rfl | exact .inr rfl)) (pss_cons (ps_if (pt_not (pt_val (pe_cl (ok_law_is_whole T) hr (by decide) (by rfl) passL (pa_cons (pv 9) (pa_cons (pe_ix ix_list (pv 3) (pv 8) (fun _ _ => rfl)) (pa_cons (pe_ix ix_list (pv 3) (pe_op op_sub (pv 8) pe_int) (fun _ _ => rfl)) pa_nil)))))) (pss_cons (ps_ret pe_bl) pss_nil) pss_nil) pss_nil)) (pss_cons (ps_ret (pe_and (pe_cl (ok_law_is_operated T) hr (by decide) (by rfl) passL (pa_cons (pv 4) (pa_cons (pe_ix ix_list (pv 6) pe_int (fun _ _ => rfl)) (pa_cons (pe_ix ix_list (pv 6) pe_int (fun _ _ => rfl)) pa_nil)))) (pe_one (pe_cl (ok_law_is_field T) hr (by decide) (by rfl) passL (pa_cons (pe_mkr0 (mk_Fractions T) hr (by decide) (by rfl) passL) pa_nil))))) pss_nil)))))))))))))), fun vs Q h => run_F (fun F a rt hpre => ?_) vs H Q E h⟩
  show Bd _ _ _ _ _ _ (m_law a)
  unfold m_law
  refine b_letO (ev_callL (List.take (Int.toNat (63 : Int)) a) (ea_cons (ev_l (evl_uptoF ev_var ev_int (by first | omega | assumption | decide | exact ⟨by omega, by omega⟩))) ea_nil) rfl (by exact List.length_take_le _ _)) fun p_1 pool_1 hpool_1 => ?_
  refine b_gen fun yy_3 hyy_3 => ?_
  have pyy_3 := mk_pairs (by rw [hpool_1]; exact start_ne _) hyy_3
  refine b_let (ev_l (lc_stY (y := yy_3) hyy_3 (fun (s_1 : List Int) => [(p_1, cL yI s_1)]) (fun _ s => s ≠ []) (iv_rng1 ev_int (by first | omega | assumption | decide | exact ⟨by omega, by omega⟩) (by first | omega | assumption | decide | exact ⟨by omega, by omega⟩)) (tg_name 8) (by decide) rfl (by rw [rng_length]; decide) (by rw [hpool_1]; exact start_ne _) (fun _ _ _ _ _ hj => (p_terms hj rfl).2) (fun D gs pre x_1 post s_1 he hj => (ev_callP (y := (m_law_terms s_1)) 0 s_1 rfl (ea_cons ev_var ea_nil) rfl rfl rfl (by exact hj))))) fun pairs_1 hpairs_1 => ?_
  refine b_gen fun yy_6 hyy_6 => ?_
  have pyy_6 := mk_numbers pyy_3.2.1 hyy_6
  refine b_let (ev_l (lc_stY (y := yy_6) hyy_6 (fun (s_2 : List Int) => [(p_1, cL yI s_2)]) (fun _ s => s ≠ []) (iv_rng1 ev_int (by first | omega | assumption | decide | exact ⟨by omega, by omega⟩) (by first | omega | assumption | decide | exact ⟨by omega, by omega⟩)) (tg_name 8) (by decide) rfl (by rw [rng_length]; decide) pyy_3.2.1 (fun _ _ _ _ _ hj => (p_integer ⟨hj, by omega, sz_lit (by decide +kernel)⟩ rfl).2) (fun D gs pre x_2 post s_2 he hj => (ev_callP (y := (m_law_integer s_2 (1000000000000000000000000000000 : Int))) 0 (s_2, (1000000000000000000000000000000 : Int)) rfl (ea_cons ev_var (ea_cons (ev_powc ev_int ev_int (show CPow (10 : Int) (30 : Int) from ⟨by decide, by decide, by decide +kernel⟩) (show ((10 : Int) ^ Int.toNat (30 : Int) : Int) = (1000000000000000000000000000000 : Int) by decide +kernel)) ea_nil)) rfl rfl rfl (by exact ⟨hj, by omega, show Sz 150 (1000000000000000000000000000000 : Int) from sz_lit (by decide +kernel)⟩))))) fun numbers_1 hnumbers_1 => ?_
  have nfr : (∀ x ∈ numbers_1, x.natAbs ≤ (1000000000000000000000000000000 : Int).natAbs) ∧ numbers_1.length = 3 := by rw [hnumbers_1]; exact ⟨pyy_6.1, pyy_6.2.2⟩
  refine b_let (ev_make (ns := ns_Fractions) (sl := sl_Fractions) () () ea_nil (fun _ => rfl) trivial rfl) fun ring_1 hring_1 => ?_
  refine b_seq (b_if (tt_not (tt_b (ev_call ring_1 (ea_cons ev_var ea_nil) rfl trivial))) (fun h_1 => ?_) (fun h_1 => ?_))
  · exact b_seq (b_ret ev_bl (fun h => h _))
  · refine b_fall ?_
    refine b_let (ev_snd (x := (ix pairs_1 (0 : Int))) (ev_ixL ev_var ev_int (by rw [hpairs_1]; exact ⟨by omega, by omega⟩))) fun den_1 hden_1 => ?_
    refine b_let (ev_call (ring_1, (pairs_1 ++ [((0 : Int), den_1), (den_1, den_1)])) (ea_cons ev_var (ea_cons (ev_l (evl_cat ev_var (ev_l (evl_lst (t := (yP yI yI)) (xs := [((0 : Int), den_1), (den_1, den_1)]) (ea_cons (ev_pair (ea_cons ev_int (ea_cons ev_var ea_nil))) (ea_cons (ev_pair (ea_cons ev_var (ea_cons ev_var ea_nil))) ea_nil)) rfl (lit_len 2 rfl (by decide)))) (by rw [hpairs_1, pyy_3.2.2]; show 3 + 2 ≤ sizeLine; decide))) ea_nil)) rfl (by exact law_pairs ⟨by rw [hpairs_1]; exact pyy_3.1, by rw [hpairs_1]; exact pyy_3.2.2⟩ hden_1)) fun found_1 hfound_1 => ?_
    have ffr : (∀ p ∈ found_1, Fr 101 p) ∧ found_1.length = 5 := by
      have h5 := law_pairs (ps := pairs_1) ⟨by rw [hpairs_1]; exact pyy_3.1, by rw [hpairs_1]; exact pyy_3.2.2⟩ hden_1
      have h6 := made_fr (r := ring_1) h5.1
      rw [hfound_1]
      exact ⟨h6.1, by rw [h6.2, List.length_append, hpairs_1, pyy_3.2.2]; rfl⟩
    refine b_seq (b_if (tt_n (ev_ne (ev_lenL ev_var) ev_int)) (fun h_2 => ?_) (fun h_2 => ?_))
    · exact b_seq (b_ret ev_bl (fun h => h _))
    · refine b_fall ?_
      refine b_for _ (fun (s_3 : Unit) => ([(p_1, cL yI yy_6.2)] : Own)) (fun (s_3 : Unit) => (⟨[.val (yF K yI) a, .val (yV (.ref p_1)) (), .val (yL (yP yI yI)) pairs_1, .val (yL yI) numbers_1, .val (y_Fractions K) ring_1, .val yI den_1, .val (yL (yP yI yI)) found_1, .any, .any, .any], []⟩ : Lc)) (fun _ _ => True) () (iv_list ev_var) (tg_name 7) rfl ⟨(.cons (.inl rfl) (.cons (.inl rfl) (.cons (.inl rfl) (.cons (.inl rfl) (.cons (.inl rfl) (.cons (.inl rfl) (.cons (.inl rfl) (.cons (.inr rfl) (.cons (.inr rfl) (.cons (.inr rfl) .nil)))))))))), rfl⟩ trivial (fun _ _ _ _ _ _ _ _ => trivial) (fun gs_1 pre number_1 post s_3 he_1 hj_1 N B P' hgo_1 hret_1 => ?_) (fun s_3 hj_6 => ?_)
      · have hmnumber_1 : number_1 ∈ numbers_1 := by rw [he_1]; exact List.mem_append_right _ List.mem_cons_self
        refine b_seq (b_if (tt_not (tt_b (ev_call ((m_Fractions_of ring_1 number_1), (number_1, (1 : Int))) (ea_cons (ev_meth (m := "of") (ring_1, number_1) ev_var nm_Fractions_of (ea_cons ev_var ea_nil) rfl trivial) (ea_cons (ev_pair (ea_cons ev_var (ea_cons ev_int ea_nil))) ea_nil)) rfl trivial))) (fun h_3 => ?_) (fun h_3 => ?_))
        · exact b_seq (b_ret ev_bl (fun h => (hret_1 _ h) _))
        · refine b_fall ?_
          exact b_next fun h => nx_wk (hgo_1 _ h) ⟨(.cons (.inl rfl) (.cons (.inl rfl) (.cons (.inl rfl) (.cons (.inl rfl) (.cons (.inl rfl) (.cons (.inl rfl) (.cons (.inl rfl) (.cons (.inr rfl) (.cons (.inr rfl) (.cons (.inr rfl) .nil)))))))))), rfl⟩
      · refine b_for _ (fun (s_4 : Unit) => ([(p_1, cL yI yy_6.2)] : Own)) (fun (s_4 : Unit) => (⟨[.val (yF K yI) a, .val (yV (.ref p_1)) (), .val (yL (yP yI yI)) pairs_1, .val (yL yI) numbers_1, .val (y_Fractions K) ring_1, .val yI den_1, .val (yL (yP yI yI)) found_1, .any, .any, .any], []⟩ : Lc)) (fun _ _ => True) () (iv_rng1 ev_int (by first | omega | assumption | decide | exact ⟨by omega, by omega⟩) (by first | omega | assumption | decide | exact ⟨by omega, by omega⟩)) (tg_name 8) rfl ⟨(.cons (.inl rfl) (.cons (.inl rfl) (.cons (.inl rfl) (.cons (.inl rfl) (.cons (.inl rfl) (.cons (.inl rfl) (.cons (.inl rfl) (.cons (.inr rfl) (.cons (.inr rfl) (.cons (.inr rfl) .nil)))))))))), rfl⟩ trivial (fun _ _ _ _ _ _ _ _ => trivial) (fun gs_2 pre k_3 post s_4 he_2 hj_2 N B P' hgo_2 hret_2 => ?_) (fun s_4 hj_5 => ?_)
        · have hmk_3 : k_3 ∈ (rng 0 (Int.toNat (5 : Int))) := by rw [he_2]; exact List.mem_append_right _ List.mem_cons_self
          refine b_seq (b_if (tt_not (tt_b (ev_call (ring_1, (ix found_1 k_3), (ix found_1 (k_3 - (1 : Int)))) (ea_cons ev_var (ea_cons (ev_ixL ev_var ev_var (by have hm := mem_rng ‹_ ∈ rng _ _›; exact ⟨by omega, by omega⟩)) (ea_cons (ev_ixL ev_var (ev_sub ev_var ev_int) (by have hm := mem_rng ‹_ ∈ rng _ _›; exact ⟨by omega, by omega⟩)) ea_nil))) rfl (by exact ⟨(ffr.1 _ (ix_mem (by first | exact ⟨by omega, by omega⟩ | (have hm := mem_rng ‹_ ∈ rng _ _›; exact ⟨by omega, by omega⟩)))).mono (by omega), (ffr.1 _ (ix_mem (by first | exact ⟨by omega, by omega⟩ | (have hm := mem_rng ‹_ ∈ rng _ _›; exact ⟨by omega, by omega⟩)))).mono (by omega)⟩)))) (fun h_4 => ?_) (fun h_4 => ?_))
          · exact b_seq (b_ret ev_bl (fun h => (hret_2 _ h) _))
          · refine b_fall ?_
            exact b_next fun h => nx_wk (hgo_2 _ h) ⟨(.cons (.inl rfl) (.cons (.inl rfl) (.cons (.inl rfl) (.cons (.inl rfl) (.cons (.inl rfl) (.cons (.inl rfl) (.cons (.inl rfl) (.cons (.inr rfl) (.cons (.inr rfl) (.cons (.inr rfl) .nil)))))))))), rfl⟩
        · refine b_gen fun yy_7 hyy_7 => ?_
          have qyy_7 : yy_6.2 ≠ [] ∧ found_1.length = 5 ∧ ∀ p ∈ found_1, Fr 101 p := (by exact ⟨pyy_6.2.1, by omega, ffr.1⟩)
          refine b_seq (b_if (tt_not (tt_b (ev_callP 0 (yy_6.2, ring_1, found_1) hyy_7 (ea_cons ev_var (ea_cons ev_var (ea_cons ev_var ea_nil))) rfl rfl rfl qyy_7))) (fun h_5 => ?_) (fun h_5 => ?_))
          · exact b_seq (b_ret ev_bl (fun h => h _))
          · refine b_fall ?_
            refine b_let (ev_make (ns := ns_Whole) (sl := sl_Whole) () () ea_nil (fun _ => rfl) trivial rfl) fun whole_1 hwhole_1 => ?_
            refine b_for _ (fun (s_5 : Unit) => ([(p_1, cL yI yy_7.2)] : Own)) (fun (s_5 : Unit) => (⟨[.val (yF K yI) a, .val (yV (.ref p_1)) (), .val (yL (yP yI yI)) pairs_1, .val (yL yI) numbers_1, .val (y_Fractions K) ring_1, .val yI den_1, .val (yL (yP yI yI)) found_1, .any, .any, .val (y_Whole K) whole_1], []⟩ : Lc)) (fun _ _ => True) () (iv_rng1 ev_int (by first | omega | assumption | decide | exact ⟨by omega, by omega⟩) (by first | omega | assumption | decide | exact ⟨by omega, by omega⟩)) (tg_name 8) rfl ⟨(.cons (.inl rfl) (.cons (.inl rfl) (.cons (.inl rfl) (.cons (.inl rfl) (.cons (.inl rfl) (.cons (.inl rfl) (.cons (.inl rfl) (.cons (.inr rfl) (.cons (.inr rfl) (.cons (.inl rfl) .nil)))))))))), rfl⟩ trivial (fun _ _ _ _ _ _ _ _ => trivial) (fun gs_3 pre k_4 post s_5 he_3 hj_3 N B P' hgo_3 hret_3 => ?_) (fun s_5 hj_4 => ?_)
            · have hmk_4 : k_4 ∈ (rng 0 (Int.toNat (3 : Int))) := by rw [he_3]; exact List.mem_append_right _ List.mem_cons_self
              refine b_seq (b_if (tt_not (tt_b (ev_call (whole_1, (ix numbers_1 k_4), (ix numbers_1 (k_4 - (1 : Int)))) (ea_cons ev_var (ea_cons (ev_ixL ev_var ev_var (by have hm := mem_rng ‹_ ∈ rng _ _›; exact ⟨by omega, by omega⟩)) (ea_cons (ev_ixL ev_var (ev_sub ev_var ev_int) (by have hm := mem_rng ‹_ ∈ rng _ _›; exact ⟨by omega, by omega⟩)) ea_nil))) rfl (by have hm := mem_rng ‹_ ∈ rng _ _›; exact ⟨law_numbers nfr.1 ⟨by omega, by omega⟩, law_numbers nfr.1 ⟨by omega, by omega⟩⟩)))) (fun h_6 => ?_) (fun h_6 => ?_))
              · exact b_seq (b_ret ev_bl (fun h => (hret_3 _ h) _))
              · refine b_fall ?_
                exact b_next fun h => nx_wk (hgo_3 _ h) ⟨(.cons (.inl rfl) (.cons (.inl rfl) (.cons (.inl rfl) (.cons (.inl rfl) (.cons (.inl rfl) (.cons (.inl rfl) (.cons (.inl rfl) (.cons (.inr rfl) (.cons (.inr rfl) (.cons (.inl rfl) .nil)))))))))), rfl⟩
            · exact b_seq (b_ret (ev_andV (ev_call (ring_1, (ix found_1 (0 : Int)), (ix found_1 (3 : Int))) (ea_cons ev_var (ea_cons (ev_ixL ev_var ev_int (by exact ⟨by omega, by omega⟩)) (ea_cons (ev_ixL ev_var ev_int (by exact ⟨by omega, by omega⟩)) ea_nil))) rfl (by exact ⟨(ffr.1 _ (ix_mem (by first | exact ⟨by omega, by omega⟩ | (have hm := mem_rng ‹_ ∈ rng _ _›; exact ⟨by omega, by omega⟩)))).mono (by omega), (ffr.1 _ (ix_mem (by first | exact ⟨by omega, by omega⟩ | (have hm := mem_rng ‹_ ∈ rng _ _›; exact ⟨by omega, by omega⟩)))).mono (by omega)⟩)) fun hb_1 => (ev_call () (ea_cons (ev_make (ns := ns_Fractions) (sl := sl_Fractions) () () ea_nil (fun _ => rfl) trivial rfl) ea_nil) rfl trivial)) (fun h => h _))

theorem field_eq (r : Unit) : m_law_is_field r = true := by
  unfold m_law_is_field
  simp [is_fraction_eq, is_integer_eq]
theorem whole_eq (r : Unit) (x y : Int) : m_law_is_whole r x y = true := by
  unfold m_law_is_whole
  simp only [bnd, is_integer_eq, m_Whole_of, m_Whole_plus, m_Whole_minus, m_Whole_negated, m_Whole_times, m_Whole_is_zero]
  rw [if_neg (by simp), if_neg (by simp)]
  rw [forL_unit]
  · rfl
  · intro k _
    rw [if_neg (by simp)]
theorem law_true (script : List Int) : m_law script = true := by
  unfold m_law
  refine bnd_eq fun pool hp => ?_
  have hp0 : pool ≠ [] := hp ▸ start_ne _
  refine bnd_eq fun y hy => ?_
  have h1 := mk_pairs hp0 hy
  refine bnd_eq fun pairs hpairs => ?_
  refine bnd_eq fun z hz => ?_
  have h2 := mk_numbers h1.2.1 hz
  refine bnd_eq fun numbers hn => ?_
  refine bnd_eq fun ring _ => ?_
  rw [if_neg (by rw [field_eq]; simp)]
  refine bnd_eq fun den hd => ?_
  refine bnd_eq fun found hf => ?_
  have h3 := law_pairs (ps := pairs) ⟨by rw [hpairs]; exact h1.1, by rw [hpairs]; exact h1.2.2⟩ hd
  have h4 := made_fr (r := ring) h3.1
  rw [← hf] at h4
  have hlen : found.length = 5 := by
    rw [h4.2, List.length_append, hpairs, h1.2.2]
    rfl
  rw [if_neg (by rw [hlen]; simp)]
  rw [forL_unit (by
    intro k _
    rw [if_neg (by rw [is_fraction_eq]; simp [m_Fractions_of])])]
  dsimp only [Stp.out]
  have op : ∀ i j : Int, Inb found i → Inb found j → m_law_is_operated ring (ix found i) (ix found j) = true := fun i j hi hj => is_operated_eq (h4.1 _ (ix_mem hi)).1 (h4.1 _ (ix_mem hj)).1
  rw [forL_unit (by
    intro k hk
    have := mem_rng hk
    rw [if_neg (by rw [op _ _ ⟨by omega, by omega⟩ ⟨by omega, by omega⟩]; simp)])]
  dsimp only [Stp.out]
  refine bnd_eq fun g hg => ?_
  rw [if_neg (by rw [hg, grown_eq ⟨h2.2.1, hlen, h4.1⟩]; simp)]
  refine bnd_eq fun wh _ => ?_
  rw [forL_unit (by
    intro k hk
    rw [if_neg (by rw [whole_eq]; simp)])]
  dsimp only [Stp.out]
  rw [op _ _ ⟨by omega, by omega⟩ ⟨by omega, by omega⟩, field_eq]
  rfl


end
/-! ### the head -/
abbrev PR : Program := PySem.Challenge.rw_closefigures_k04_fractions_field.prog
def d0 : He.DefD := ⟨("gcd_pair", none), "gcd_pair", "gcd_pair", defArgs s_gcd_pair, defBody s_gcd_pair, defScope s_gcd_pair, [], []⟩
def d1 : He.DefD := ⟨("_law_start", none), "_law_start", "_law_start", defArgs s_law_start, defBody s_law_start, defScope s_law_start, [], []⟩
def d2 : He.DefD := ⟨("_law_draw", none), "_law_draw", "_law_draw", defArgs s_law_draw, defBody s_law_draw, defScope s_law_draw, [], []⟩
def d3 : He.DefD := ⟨("_law_integer", none), "_law_integer", "_law_integer", defArgs s_law_integer, defBody s_law_integer, defScope s_law_integer, [], []⟩
def d4 : He.DefD := ⟨("_law_terms", none), "_law_terms", "_law_terms", defArgs s_law_terms, defBody s_law_terms, defScope s_law_terms, [], []⟩
def d5 : He.DefD := ⟨("_law_lowest", none), "_law_lowest", "_law_lowest", defArgs s_law_lowest, defBody s_law_lowest, defScope s_law_lowest, [], []⟩
def d6 : He.DefD := ⟨("_law_is_integer", none), "_law_is_integer", "_law_is_integer", defArgs s_law_is_integer, defBody s_law_is_integer, defScope s_law_is_integer, [], []⟩
def d7 : He.DefD := ⟨("_law_is_fraction", none), "_law_is_fraction", "_law_is_fraction", defArgs s_law_is_fraction, defBody s_law_is_fraction, defScope s_law_is_fraction, [], []⟩
def d8 : He.DefD := ⟨("_law_operated", none), "_law_operated", "_law_operated", defArgs s_law_operated, defBody s_law_operated, defScope s_law_operated, [], []⟩
def d9 : He.DefD := ⟨("_law_asked", none), "_law_asked", "_law_asked", defArgs s_law_asked, defBody s_law_asked, defScope s_law_asked, [], []⟩
def d10 : He.DefD := ⟨("_law_due", none), "_law_due", "_law_due", defArgs s_law_due, defBody s_law_due, defScope s_law_due, [], []⟩
def d11 : He.DefD := ⟨("_law_is_answer", none), "_law_is_answer", "_law_is_answer", defArgs s_law_is_answer, defBody s_law_is_answer, defScope s_law_is_answer, [], []⟩
def d12 : He.DefD := ⟨("_law_made", none), "_law_made", "_law_made", defArgs s_law_made, defBody s_law_made, defScope s_law_made, [], []⟩
def d13 : He.DefD := ⟨("_law_is_operated", none), "_law_is_operated", "_law_is_operated", defArgs s_law_is_operated, defBody s_law_is_operated, defScope s_law_is_operated, [], []⟩
def d14 : He.DefD := ⟨("_law_grown", none), "_law_grown", "_law_grown", defArgs s_law_grown, defBody s_law_grown, defScope s_law_grown, [], []⟩
def d15 : He.DefD := ⟨("_law_is_whole", none), "_law_is_whole", "_law_is_whole", defArgs s_law_is_whole, defBody s_law_is_whole, defScope s_law_is_whole, [], []⟩
def d16 : He.DefD := ⟨("_law_is_field", none), "_law_is_field", "_law_is_field", defArgs s_law_is_field, defBody s_law_is_field, defScope s_law_is_field, [], []⟩
def d17 : He.DefD := ⟨("law", none), "law", "law", defArgs s_law, defBody s_law, defScope s_law, [], []⟩
def d18 : He.DefD := ⟨("Fractions", some "fraction"), "fraction", "Fractions.fraction", defArgs s_Fractions_fraction, defBody s_Fractions_fraction, defScope s_Fractions_fraction, [], []⟩
def d19 : He.DefD := ⟨("Fractions", some "inv"), "inv", "Fractions.inv", defArgs s_Fractions_inv, defBody s_Fractions_inv, defScope s_Fractions_inv, [], []⟩
def d20 : He.DefD := ⟨("Fractions", some "is_zero"), "is_zero", "Fractions.is_zero", defArgs s_Fractions_is_zero, defBody s_Fractions_is_zero, defScope s_Fractions_is_zero, [], []⟩
def d21 : He.DefD := ⟨("Fractions", some "minus"), "minus", "Fractions.minus", defArgs s_Fractions_minus, defBody s_Fractions_minus, defScope s_Fractions_minus, [], []⟩
def d22 : He.DefD := ⟨("Fractions", some "negated"), "negated", "Fractions.negated", defArgs s_Fractions_negated, defBody s_Fractions_negated, defScope s_Fractions_negated, [], []⟩
def d23 : He.DefD := ⟨("Fractions", some "of"), "of", "Fractions.of", defArgs s_Fractions_of, defBody s_Fractions_of, defScope s_Fractions_of, [], []⟩
def d24 : He.DefD := ⟨("Fractions", some "over"), "over", "Fractions.over", defArgs s_Fractions_over, defBody s_Fractions_over, defScope s_Fractions_over, [], []⟩
def d25 : He.DefD := ⟨("Fractions", some "plus"), "plus", "Fractions.plus", defArgs s_Fractions_plus, defBody s_Fractions_plus, defScope s_Fractions_plus, [], []⟩
def d26 : He.DefD := ⟨("Fractions", some "times"), "times", "Fractions.times", defArgs s_Fractions_times, defBody s_Fractions_times, defScope s_Fractions_times, [], []⟩
def d27 : He.DefD := ⟨("Whole", some "is_zero"), "is_zero", "Whole.is_zero", defArgs s_Whole_is_zero, defBody s_Whole_is_zero, defScope s_Whole_is_zero, [], []⟩
def d28 : He.DefD := ⟨("Whole", some "minus"), "minus", "Whole.minus", defArgs s_Whole_minus, defBody s_Whole_minus, defScope s_Whole_minus, [], []⟩
def d29 : He.DefD := ⟨("Whole", some "negated"), "negated", "Whole.negated", defArgs s_Whole_negated, defBody s_Whole_negated, defScope s_Whole_negated, [], []⟩
def d30 : He.DefD := ⟨("Whole", some "of"), "of", "Whole.of", defArgs s_Whole_of, defBody s_Whole_of, defScope s_Whole_of, [], []⟩
def d31 : He.DefD := ⟨("Whole", some "plus"), "plus", "Whole.plus", defArgs s_Whole_plus, defBody s_Whole_plus, defScope s_Whole_plus, [], []⟩
def d32 : He.DefD := ⟨("Whole", some "times"), "times", "Whole.times", defArgs s_Whole_times, defBody s_Whole_times, defScope s_Whole_times, [], []⟩
def d33 : He.DefD := ⟨("Ring", some "__init__"), "__init__", "Ring.__init__", defArgs s_Ring___init__, defBody s_Ring___init__, defScope s_Ring___init__, [], []⟩
def fn : List He.DefD := [d0, d1, d2, d3, d4, d5, d6, d7, d8, d9, d10, d11, d12, d13, d14, d15, d16, d17, d18, d19, d20, d21, d22, d23, d24, d25, d26, d27, d28, d29, d30, d31, d32, d33]
def fa : List He.Fa := [.glo "gcd_pair", .glo "_law_start", .glo "_law_draw", .glo "_law_integer", .glo "_law_terms", .glo "_law_lowest", .glo "_law_is_integer", .glo "_law_is_fraction", .glo "_law_operated", .glo "_law_asked", .glo "_law_due", .glo "_law_is_answer", .glo "_law_made", .glo "_law_is_operated", .glo "_law_grown", .glo "_law_is_whole", .glo "_law_is_field", .glo "law", .meth "Fractions" "fraction", .meth "Fractions" "inv", .meth "Fractions" "is_zero", .meth "Fractions" "minus", .meth "Fractions" "negated", .meth "Fractions" "of", .meth "Fractions" "over", .meth "Fractions" "plus", .meth "Fractions" "times", .meth "Whole" "is_zero", .meth "Whole" "minus", .meth "Whole" "negated", .meth "Whole" "of", .meth "Whole" "plus", .meth "Whole" "times", .cls "Fractions", .cls "Whole", .glo "ClosingError", .glo "Field", .glo "Fractions", .glo "NumberError", .glo "Ring", .glo "SizeError", .glo "Whole", .glo "ZeroError", .noat "Fractions" "characteristic", .noat "Fractions" "one", .noat "Fractions" "size", .noat "Fractions" "zero", .noat "Whole" "one", .noat "Whole" "zero", .free "abs", .free "bool", .free "int", .free "isinstance", .free "len", .free "list", .free "range", .free "sum", .free "tuple", .exc "ZeroError", .exm "ZeroError" "ClosingError" true, .free "super", .mkr "Fractions", .mkr "Whole"]
def e0 : SDf := ⟨"Field", "__init__", "Field.__init__", s_Field___init__⟩
def e1 : SDf := ⟨"Fractions", "__init__", "Fractions.__init__", s_Fractions___init__⟩
def e2 : SDf := ⟨"Whole", "__init__", "Whole.__init__", s_Whole___init__⟩
def sd : List SDf := [e0, e1, e2]
def exs (K : PySem.W.Frag) : List Bool := [decide (PySem.W.findIn K (.ref (He.ga K "Fractions")) "__class__" = some (some (.builtin "object.__class__"))),
  decide (PySem.W.mroIn K (He.ga K "Fractions") (.type "object") = some true),
  decide (PySem.W.findIn K (.ref (He.ga K "Whole")) "__class__" = some (some (.builtin "object.__class__"))),
  decide (PySem.W.mroIn K (He.ga K "Whole") (.type "object") = some true),
  decide (PySem.W.specialIn K (.builtin "object.__class__") "__get__" = some (some (.builtin "getset_descriptor.__get__"))),
  decide (PySem.W.takesIn K (.builtin "object.__class__") = some true),
  decide (PySem.W.findIn K (.ref (He.ga K "ZeroError")) "__getattribute__" = some (some (.builtin "BaseException.__getattribute__"))),
  decide (PySem.W.findIn K (.ref (He.ga K "ZeroError")) "__getattr__" = some none),
  decide (PySem.W.subIn K (.ref (He.ga K "ZeroError")) (.type "BaseException") = some true),
  PySem.W.hasDictIn K (He.ga K "ZeroError"),
  decide (PySem.W.findIn K (.ref (He.ga K "ZeroError")) "__class__" = some (some (.builtin "object.__class__"))),
  decide (PySem.W.mroIn K (He.ga K "ZeroError") (.type "object") = some true),
  decide (PySem.W.kitOne K (.ref (He.ga K "ZeroError")) (.ref (He.ga K "NumberError")) = some false),
  decide (PySem.W.kitOne K (.ref (He.ga K "ZeroError")) (.ref (He.ga K "SizeError")) = some false),
  decide (PySem.W.kitOne K (.ref (He.ga K "ZeroError")) (.ref (He.ga K "ZeroError")) = some true),
  decide (PySem.W.kitOne K (.ref (He.ga K "Fractions")) (.ref (He.ga K "Field")) = some true),
  decide (PySem.W.kitOne K (.ref (He.ga K "Fractions")) (.ref (He.ga K "Ring")) = some true),
  decide (PySem.W.kitOne K (.ref (He.ga K "Whole")) (.ref (He.ga K "Ring")) = some true),
  supOk PR K (He.ma K (He.ga K "Field") "__init__") (He.ga K "Field") "Field.__init__",
  supOk PR K (He.ma K (He.ga K "Fractions") "__init__") (He.ga K "Fractions") "Fractions.__init__",
  supOk PR K (He.ma K (He.ga K "Whole") "__init__") (He.ga K "Whole") "Whole.__init__",
  decide (PySem.W.mroIn K (He.ga K "Fractions") (.ref (He.ga K "Fractions")) = some true),
  decide (PySem.W.ks_superIn K (He.ga K "Fractions") (He.ga K "Fractions") "__init__" = some (some (.ref (He.ma K (He.ga K "Field") "__init__")))),
  decide (PySem.W.typeIn K (.ref (He.ma K (He.ga K "Field") "__init__")) = some (.type "function")),
  PySem.W.fnIn K (He.ma K (He.ga K "Field") "__init__"),
  decide (PySem.W.nsIn K cStatics "thirdparty.any" = some none),
  decide (PySem.W.mroIn K (He.ga K "Fractions") (.ref (He.ga K "Field")) = some true),
  decide (PySem.W.ks_superIn K (He.ga K "Fractions") (He.ga K "Field") "__init__" = some (some (.ref (He.ma K (He.ga K "Ring") "__init__")))),
  decide (PySem.W.typeIn K (.ref (He.ma K (He.ga K "Ring") "__init__")) = some (.type "function")),
  PySem.W.fnIn K (He.ma K (He.ga K "Ring") "__init__"),
  decide (PySem.W.mroIn K (He.ga K "Whole") (.ref (He.ga K "Whole")) = some true),
  decide (PySem.W.ks_superIn K (He.ga K "Whole") (He.ga K "Whole") "__init__" = some (some (.ref (He.ma K (He.ga K "Ring") "__init__"))))]
abbrev R : PySem.W.OpenRow := PySem.W.OpenLaw.row PySem.Challenge.rw_closefigures_k04_fractions_field
abbrev hk : PySem.W.Hook := hookQ 4 fa fn sd exs
def ob (s : PySem.W.SharedT) : AlQ := obsQG 4 fa fn sd exs (HandSHeadRun.getT s)
theorem ob_eq (s : PySem.W.SharedT) : ob s = hk.obs s.abs := obsQG_eq (HandSHeadRun.getT_eq s)
def names : List Str := ["ClosingError", "SizeError", "NumberError", "ZeroError", "Ring", "Field", "Whole", "gcd_pair", "Fractions", "_law_start", "_law_draw", "_law_integer", "_law_terms", "_law_lowest", "_law_is_integer", "_law_is_fraction", "_law_operated", "_law_asked", "_law_due", "_law_is_answer", "_law_made", "_law_is_operated", "_law_grown", "_law_is_whole", "_law_is_field"]
theorem run (w : World) : HandSHeadRun.RunEq R (PySem.W.view R.prog [30]) hk ob 20000 names w := by
  intro os
  kernel_rfl
theorem facts {K : PySem.W.Frag} {h : Heap} {mg : Str → Option Value} (X : K.In h) (G : h.Ns mainGlobals mg) (c : SaysQ fa fn sd exs K) : Tx PR K mg where
  g_gcd_pair := let ⟨fd, F⟩ := c.d.def_ 0 (d := d0) rfl; ⟨_, fd, He.glo_ok X G (c.d.fact 0 (f := .glo "gcd_pair") rfl), F⟩
  g_law_start := let ⟨fd, F⟩ := c.d.def_ 1 (d := d1) rfl; ⟨_, fd, He.glo_ok X G (c.d.fact 1 (f := .glo "_law_start") rfl), F⟩
  g_law_draw := let ⟨fd, F⟩ := c.d.def_ 2 (d := d2) rfl; ⟨_, fd, He.glo_ok X G (c.d.fact 2 (f := .glo "_law_draw") rfl), F⟩
  g_law_integer := let ⟨fd, F⟩ := c.d.def_ 3 (d := d3) rfl; ⟨_, fd, He.glo_ok X G (c.d.fact 3 (f := .glo "_law_integer") rfl), F⟩
  g_law_terms := let ⟨fd, F⟩ := c.d.def_ 4 (d := d4) rfl; ⟨_, fd, He.glo_ok X G (c.d.fact 4 (f := .glo "_law_terms") rfl), F⟩
  g_law_lowest := let ⟨fd, F⟩ := c.d.def_ 5 (d := d5) rfl; ⟨_, fd, He.glo_ok X G (c.d.fact 5 (f := .glo "_law_lowest") rfl), F⟩
  g_law_is_integer := let ⟨fd, F⟩ := c.d.def_ 6 (d := d6) rfl; ⟨_, fd, He.glo_ok X G (c.d.fact 6 (f := .glo "_law_is_integer") rfl), F⟩
  g_law_is_fraction := let ⟨fd, F⟩ := c.d.def_ 7 (d := d7) rfl; ⟨_, fd, He.glo_ok X G (c.d.fact 7 (f := .glo "_law_is_fraction") rfl), F⟩
  g_law_operated := let ⟨fd, F⟩ := c.d.def_ 8 (d := d8) rfl; ⟨_, fd, He.glo_ok X G (c.d.fact 8 (f := .glo "_law_operated") rfl), F⟩
  g_law_asked := let ⟨fd, F⟩ := c.d.def_ 9 (d := d9) rfl; ⟨_, fd, He.glo_ok X G (c.d.fact 9 (f := .glo "_law_asked") rfl), F⟩
  g_law_due := let ⟨fd, F⟩ := c.d.def_ 10 (d := d10) rfl; ⟨_, fd, He.glo_ok X G (c.d.fact 10 (f := .glo "_law_due") rfl), F⟩
  g_law_is_answer := let ⟨fd, F⟩ := c.d.def_ 11 (d := d11) rfl; ⟨_, fd, He.glo_ok X G (c.d.fact 11 (f := .glo "_law_is_answer") rfl), F⟩
  g_law_made := let ⟨fd, F⟩ := c.d.def_ 12 (d := d12) rfl; ⟨_, fd, He.glo_ok X G (c.d.fact 12 (f := .glo "_law_made") rfl), F⟩
  g_law_is_operated := let ⟨fd, F⟩ := c.d.def_ 13 (d := d13) rfl; ⟨_, fd, He.glo_ok X G (c.d.fact 13 (f := .glo "_law_is_operated") rfl), F⟩
  g_law_grown := let ⟨fd, F⟩ := c.d.def_ 14 (d := d14) rfl; ⟨_, fd, He.glo_ok X G (c.d.fact 14 (f := .glo "_law_grown") rfl), F⟩
  g_law_is_whole := let ⟨fd, F⟩ := c.d.def_ 15 (d := d15) rfl; ⟨_, fd, He.glo_ok X G (c.d.fact 15 (f := .glo "_law_is_whole") rfl), F⟩
  g_law_is_field := let ⟨fd, F⟩ := c.d.def_ 16 (d := d16) rfl; ⟨_, fd, He.glo_ok X G (c.d.fact 16 (f := .glo "_law_is_field") rfl), F⟩
  g_law := let ⟨fd, F⟩ := c.d.def_ 17 (d := d17) rfl; ⟨_, fd, He.glo_ok X G (c.d.fact 17 (f := .glo "law") rfl), F⟩
  me_Fractions_fraction := let ⟨fd, F⟩ := c.d.def_ 18 (d := d18) rfl; ⟨_, fd, He.meth_ok (c.d.fact 18 (f := .meth "Fractions" "fraction") rfl), F⟩
  me_Fractions_inv := let ⟨fd, F⟩ := c.d.def_ 19 (d := d19) rfl; ⟨_, fd, He.meth_ok (c.d.fact 19 (f := .meth "Fractions" "inv") rfl), F⟩
  me_Fractions_is_zero := let ⟨fd, F⟩ := c.d.def_ 20 (d := d20) rfl; ⟨_, fd, He.meth_ok (c.d.fact 20 (f := .meth "Fractions" "is_zero") rfl), F⟩
  me_Fractions_minus := let ⟨fd, F⟩ := c.d.def_ 21 (d := d21) rfl; ⟨_, fd, He.meth_ok (c.d.fact 21 (f := .meth "Fractions" "minus") rfl), F⟩
  me_Fractions_negated := let ⟨fd, F⟩ := c.d.def_ 22 (d := d22) rfl; ⟨_, fd, He.meth_ok (c.d.fact 22 (f := .meth "Fractions" "negated") rfl), F⟩
  me_Fractions_of := let ⟨fd, F⟩ := c.d.def_ 23 (d := d23) rfl; ⟨_, fd, He.meth_ok (c.d.fact 23 (f := .meth "Fractions" "of") rfl), F⟩
  me_Fractions_over := let ⟨fd, F⟩ := c.d.def_ 24 (d := d24) rfl; ⟨_, fd, He.meth_ok (c.d.fact 24 (f := .meth "Fractions" "over") rfl), F⟩
  me_Fractions_plus := let ⟨fd, F⟩ := c.d.def_ 25 (d := d25) rfl; ⟨_, fd, He.meth_ok (c.d.fact 25 (f := .meth "Fractions" "plus") rfl), F⟩
  me_Fractions_times := let ⟨fd, F⟩ := c.d.def_ 26 (d := d26) rfl; ⟨_, fd, He.meth_ok (c.d.fact 26 (f := .meth "Fractions" "times") rfl), F⟩
  me_Whole_is_zero := let ⟨fd, F⟩ := c.d.def_ 27 (d := d27) rfl; ⟨_, fd, He.meth_ok (c.d.fact 27 (f := .meth "Whole" "is_zero") rfl), F⟩
  me_Whole_minus := let ⟨fd, F⟩ := c.d.def_ 28 (d := d28) rfl; ⟨_, fd, He.meth_ok (c.d.fact 28 (f := .meth "Whole" "minus") rfl), F⟩
  me_Whole_negated := let ⟨fd, F⟩ := c.d.def_ 29 (d := d29) rfl; ⟨_, fd, He.meth_ok (c.d.fact 29 (f := .meth "Whole" "negated") rfl), F⟩
  me_Whole_of := let ⟨fd, F⟩ := c.d.def_ 30 (d := d30) rfl; ⟨_, fd, He.meth_ok (c.d.fact 30 (f := .meth "Whole" "of") rfl), F⟩
  me_Whole_plus := let ⟨fd, F⟩ := c.d.def_ 31 (d := d31) rfl; ⟨_, fd, He.meth_ok (c.d.fact 31 (f := .meth "Whole" "plus") rfl), F⟩
  me_Whole_times := let ⟨fd, F⟩ := c.d.def_ 32 (d := d32) rfl; ⟨_, fd, He.meth_ok (c.d.fact 32 (f := .meth "Whole" "times") rfl), F⟩
  cl_Fractions := He.cls_ok (c.d.fact 33 (f := .cls "Fractions") rfl)
  cl_Whole := He.cls_ok (c.d.fact 34 (f := .cls "Whole") rfl)
  hc_Fractions := (of_decide_eq_true (c.more 0 rfl))
  hm_Fractions := (of_decide_eq_true (c.more 1 rfl))
  hc_Whole := (of_decide_eq_true (c.more 2 rfl))
  hm_Whole := (of_decide_eq_true (c.more 3 rfl))
  hcn := (of_decide_eq_true (c.more 4 rfl))
  hct := (of_decide_eq_true (c.more 5 rfl))
  gc_ClosingError := He.glo_ok X G (c.d.fact 35 (f := .glo "ClosingError") rfl)
  gc_Field := He.glo_ok X G (c.d.fact 36 (f := .glo "Field") rfl)
  gc_Fractions := He.glo_ok X G (c.d.fact 37 (f := .glo "Fractions") rfl)
  gc_NumberError := He.glo_ok X G (c.d.fact 38 (f := .glo "NumberError") rfl)
  gc_Ring := He.glo_ok X G (c.d.fact 39 (f := .glo "Ring") rfl)
  gc_SizeError := He.glo_ok X G (c.d.fact 40 (f := .glo "SizeError") rfl)
  gc_Whole := He.glo_ok X G (c.d.fact 41 (f := .glo "Whole") rfl)
  gc_ZeroError := He.glo_ok X G (c.d.fact 42 (f := .glo "ZeroError") rfl)
  na_Fractions_characteristic := He.noat_ok (c.d.fact 43 (f := .noat "Fractions" "characteristic") rfl)
  na_Fractions_one := He.noat_ok (c.d.fact 44 (f := .noat "Fractions" "one") rfl)
  na_Fractions_size := He.noat_ok (c.d.fact 45 (f := .noat "Fractions" "size") rfl)
  na_Fractions_zero := He.noat_ok (c.d.fact 46 (f := .noat "Fractions" "zero") rfl)
  na_Whole_one := He.noat_ok (c.d.fact 47 (f := .noat "Whole" "one") rfl)
  na_Whole_zero := He.noat_ok (c.d.fact 48 (f := .noat "Whole" "zero") rfl)
  b_abs := He.free_ok X G (c.d.fact 49 (f := .free "abs") rfl)
  b_bool := He.free_ok X G (c.d.fact 50 (f := .free "bool") rfl)
  b_int := He.free_ok X G (c.d.fact 51 (f := .free "int") rfl)
  b_isinstance := He.free_ok X G (c.d.fact 52 (f := .free "isinstance") rfl)
  b_len := He.free_ok X G (c.d.fact 53 (f := .free "len") rfl)
  b_list := He.free_ok X G (c.d.fact 54 (f := .free "list") rfl)
  b_range := He.free_ok X G (c.d.fact 55 (f := .free "range") rfl)
  b_sum := He.free_ok X G (c.d.fact 56 (f := .free "sum") rfl)
  b_tuple := He.free_ok X G (c.d.fact 57 (f := .free "tuple") rfl)
  x_ZeroError := (He.exc_ok (c.d.fact 58 (f := .exc "ZeroError") rfl)).1
  k_ZeroError := (He.exc_ok (c.d.fact 58 (f := .exc "ZeroError") rfl)).2.1
  xb_ZeroError := (He.exc_ok (c.d.fact 58 (f := .exc "ZeroError") rfl)).2.2.1
  xt_ZeroError := (He.exc_ok (c.d.fact 58 (f := .exc "ZeroError") rfl)).2.2.2
  em_ZeroError_ClosingError := He.exm_ok (c.d.fact 59 (f := .exm "ZeroError" "ClosingError" true) rfl)
  ec_ZeroError := ⟨(of_decide_eq_true (c.more 6 rfl)), (of_decide_eq_true (c.more 7 rfl)), (of_decide_eq_true (c.more 8 rfl)), (c.more 9 rfl), (of_decide_eq_true (c.more 10 rfl)), (of_decide_eq_true (c.more 4 rfl)), (of_decide_eq_true (c.more 5 rfl)), (of_decide_eq_true (c.more 11 rfl))⟩
  kx_ZeroError_NumberError := (of_decide_eq_true (c.more 12 rfl))
  kx_ZeroError_SizeError := (of_decide_eq_true (c.more 13 rfl))
  kx_ZeroError_ZeroError := (of_decide_eq_true (c.more 14 rfl))
  ki_Fractions_Field := (of_decide_eq_true (c.more 15 rfl))
  ki_Fractions_Ring := (of_decide_eq_true (c.more 16 rfl))
  ki_Whole_Ring := (of_decide_eq_true (c.more 17 rfl))
  ii_Ring := c.d.def_ 33 (d := d33) rfl
  b_super := He.free_ok X G (c.d.fact 60 (f := .free "super") rfl)
  si_Field := supD_of (d := e0) (c.sup 0 rfl) (c.more 18 rfl)
  si_Fractions := supD_of (d := e1) (c.sup 1 rfl) (c.more 19 rfl)
  si_Whole := supD_of (d := e2) (c.sup 2 rfl) (c.more 20 rfl)
  sp_Fractions_Fractions := ⟨(of_decide_eq_true (c.more 21 rfl)), (of_decide_eq_true (c.more 22 rfl)), (of_decide_eq_true (c.more 23 rfl)), c.more 24 rfl, (of_decide_eq_true (c.more 25 rfl))⟩
  sp_Fractions_Field := ⟨(of_decide_eq_true (c.more 26 rfl)), (of_decide_eq_true (c.more 27 rfl)), (of_decide_eq_true (c.more 28 rfl)), c.more 29 rfl, (of_decide_eq_true (c.more 25 rfl))⟩
  sp_Whole_Whole := ⟨(of_decide_eq_true (c.more 30 rfl)), (of_decide_eq_true (c.more 31 rfl)), (of_decide_eq_true (c.more 28 rfl)), c.more 29 rfl, (of_decide_eq_true (c.more 25 rfl))⟩
  mk_Fractions := He.mkr_ok (c.d.fact 61 (f := .mkr "Fractions") rfl)
  mk_Whole := He.mkr_ok (c.d.fact 62 (f := .mkr "Whole") rfl)
theorem lawAt {w : World} {K : PySem.W.Frag} {h : Heap} {mg : Str → Option Value} {fa0 : Addr} (X : K.In h) (G : h.Ns mainGlobals mg) (hfa : mg ("law" : Str) = some (.ref fa0)) (c : SaysQ fa fn sd exs K) : LamX.LawAtS PySem.Challenge.rw_closefigures_k04_fractions_field w K (L2.CX (PySem.Challenge.rw_closefigures_k04_fractions_field).prog w) 13 63 "script" mg fa0 h := by
  have T := facts X G c
  obtain ⟨f, fd, hg, FD⟩ := T.g_law
  have e := hfa.symm.trans hg
  cases e
  exact ⟨fd, [], _, (fun _ z => nomatch z), (fun _ z => nomatch z), (fun _ z => nomatch z), fun s u => FunD.bindsA (ps := ["script"]) FD (fun _ _ _ _ _ _ us hl => match us, hl with | [_], _ => rfl) s [u] rfl,
    fun H a ns hl hb _ hS => law_sp _ trivial hl hS (law_true ns), fun base _ _ _ => ok_law T FD⟩
end K04
open PySem PySem.W PySem.Calls PyProof.Rows
theorem PySem.Challenge.cw_closefigures_k04_fractions_field_holds : PySem.Challenge.rw_closefigures_k04_fractions_field.Holds := by
  w_on; o_law
  refine HandSHeadRun.head_any (r := OpenLaw.row PySem.Challenge.rw_closefigures_k04_fractions_field) (q := view (OpenLaw.row PySem.Challenge.rw_closefigures_k04_fractions_field).prog [30]) (H := K04.hk) (ob := K04.ob) (M := 20000) (loose := K04.names) (d := HandSHeadRun.topDef (OpenLaw.row PySem.Challenge.rw_closefigures_k04_fractions_field).prog 30) (kwd := []) K04.ob_eq
    (by kernel_rfl) (fun s => by kernel_rfl) K04.run (by kernel_rfl) (by kernel_rfl) (by kernel_rfl) (by rfl) (by first | assumption | decide +kernel) (by decide +kernel) ⟨rfl, rfl, rfl, rfl, rfl, by decide +kernel⟩ ?hw ?hc
  case hw => w_witness2
  case hc =>
    refine LamX.walk_ofTsE (l := PySem.Challenge.rw_closefigures_k04_fractions_field) (n := 63) (k := 13) (x := "script") (CX := fun w => L2.CX (PySem.Challenge.rw_closefigures_k04_fractions_field).prog w) rfl (by decide) (by kernel_rfl) ⟨rfl, by decide, by decide⟩ ?F (fun w H s e s' z => TL.cx_never z)
    intro w mg fa h Y G hmg0
    obtain ⟨K, KX, c⟩ := Y
    have hmg : mg ("law" : PySem.Str) = some (.ref fa) := by
      have e : (HandSHeadRun.topDef (OpenLaw.row PySem.Challenge.rw_closefigures_k04_fractions_field).prog 30).name = ("law" : PySem.Str) := by kernel_rfl
      rw [← e]
      exact hmg0
    exact ⟨K, KX, K04.lawAt KX G hmg c⟩
