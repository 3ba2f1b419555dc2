import PyProof.Rows.All
import Wide.All
import OpenK.AllK
import Wide.FinOn
import HandS.ForMost
import HandS.Exc
import HandS.TryOnly
import HandS.ExcOwn
import HandS.ExcBuiltin
import HandS.ExcIs
import HandS.WordsExc
import HandS.IsInst
import HandS.Wide
import HandS.Codes
import HandS.Defaults
import HandS.Small
import HandS.HeadHook2
import HandS.HeadEnd
import HandS.Head2
import HandS.Walk
import HandS.More
import HandS.Nested
import KE.KSuper
import HandS.HeadWalk
import HandS.Iter
import KE.GoesMore
import KE.GoesZip
import KE.GoesEnum
import HandS.Rev
import HandS.Style
import HandS.Deep
import HandS.NoneIn
import HandS.TupLe
import HandS.List
import PySem.Challenge.RW_closefigures_k23_throws
set_option Elab.async false
set_option linter.all false
set_option maxRecDepth 100000
set_option autoImplicit false
universe u v
/-! TL: a logic of typed slots and owned cells over the readings of HandS. -/
namespace TL
open PySem L2

/-! ### heaps -/
def bar (H : Hp) (S : List Addr) : Hp := fun a => if a ∈ S then none else H a
theorem bar_some {H : Hp} {S : List Addr} {a : Addr} {o : HO} : bar H S a = some o ↔ a ∉ S ∧ H a = some o := by
  unfold bar
  by_cases h : a ∈ S <;> simp [h]
theorem bar_sub {H : Hp} {S : List Addr} : Same (bar H S) H := fun _ _ h => (bar_some.mp h).2
theorem bar_same {H H' : Hp} {S : List Addr} (s : Same H H') : Same (bar H S) (bar H' S) := fun _ _ h => bar_some.mpr ⟨(bar_some.mp h).1, s _ _ (bar_some.mp h).2⟩
theorem bar_mono {H : Hp} {S T : List Addr} (s : ∀ a ∈ T, a ∈ S) : Same (bar H S) (bar H T) := fun _ _ h => bar_some.mpr ⟨fun z => (bar_some.mp h).1 (s _ z), (bar_some.mp h).2⟩
theorem bar_upd {H : Hp} {S : List Addr} {p : Addr} {o : HO} (h : p ∈ S) : bar (upd H p o) S = bar H S := by
  funext a
  unfold bar
  by_cases z : a ∈ S
  · rw [if_pos z, if_pos z]
  · rw [if_neg z, if_neg z, upd_ne (fun e => z (by rw [e]; exact h))]
/-- all but what stands at W is as it was -/
def Frm (W : List Addr) (H H' : Hp) : Prop := ∀ a o, H a = some o → a ∉ W → H' a = some o
theorem Frm.refl {W : List Addr} {H : Hp} : Frm W H H := fun _ _ h _ => h
theorem Frm.same {W : List Addr} {H H1 H2 : Hp} (f : Frm W H H1) (s : Same H1 H2) : Frm W H H2 := fun a o h n => s _ _ (f a o h n)
theorem Same.new {H : Hp} {p : Addr} {o : HO} (h : H p = none) : Same H (upd H p o) := fun a u e => by
  rw [upd_ne (ne_of_none e h)]
  exact e

/-! ### what represents what -/
structure Ty (α : Type) where
  rp : Hp → V → α → Prop
  mono : ∀ {H H' : Hp} {v : V} {a : α}, Same H H' → rp H v a → rp H' v a
def yI : Ty Int := ⟨fun _ v a => v = .int a, fun _ h => h⟩
def yB : Ty Bool := ⟨fun _ v a => v = .bl a, fun _ h => h⟩
/-- a text (of code points that there are) -/
def yS : Ty Str := ⟨fun _ v a => v = .str a ∧ PyData.strOk a = true, fun _ h => h⟩
def yN : Ty Unit := ⟨fun _ v _ => v = .non, fun _ h => h⟩
/-- exactly this value -/
def yV (w : V) : Ty Unit := ⟨fun _ v _ => v = w, fun _ h => h⟩
inductive A2 {α : Type u} {β : Type v} (F : α → β → Prop) : List α → List β → Prop
  | nil : A2 F [] []
  | cons {a : α} {b : β} {l : List α} {m : List β} (h : F a b) (t : A2 F l m) : A2 F (a :: l) (b :: m)
theorem A2.imp {α : Type u} {β : Type v} {F G : α → β → Prop} (h : ∀ a b, F a b → G a b) : ∀ {l₁ : List α} {l₂ : List β}, A2 F l₁ l₂ → A2 G l₁ l₂
  | _, _, .nil => .nil
  | _, _, .cons r t => .cons (h _ _ r) (A2.imp h t)
theorem A2.length {α : Type u} {β : Type v} {F : α → β → Prop} : ∀ {l₁ : List α} {l₂ : List β}, A2 F l₁ l₂ → l₁.length = l₂.length
  | _, _, .nil => rfl
  | _, _, .cons _ t => congrArg Nat.succ t.length
/-- a list | a tuple of like things -/
def yL {α : Type} (t : Ty α) : Ty (List α) :=
  ⟨fun H v xs => ∃ a vs, v = .ref a ∧ H a = some (.lst vs) ∧ vs.length ≤ sizeLine ∧ A2 (t.rp H) vs xs,
   fun s ⟨a, vs, e, h, l, p⟩ => ⟨a, vs, e, s _ _ h, l, p.imp fun _ _ z => t.mono s z⟩⟩
def yT {α : Type} (t : Ty α) : Ty (List α) :=
  ⟨fun H v xs => ∃ a vs, v = .ref a ∧ H a = some (.tup vs) ∧ vs.length ≤ sizeLine ∧ A2 (t.rp H) vs xs,
   fun s ⟨a, vs, e, h, l, p⟩ => ⟨a, vs, e, s _ _ h, l, p.imp fun _ _ z => t.mono s z⟩⟩
def yP {α β : Type} (t : Ty α) (u : Ty β) : Ty (α × β) :=
  ⟨fun H v x => ∃ a p q, v = .ref a ∧ H a = some (.tup [p, q]) ∧ t.rp H p x.1 ∧ u.rp H q x.2,
   fun s ⟨a, p, q, e, h, l, r⟩ => ⟨a, p, q, e, s _ _ h, t.mono s l, u.mono s r⟩⟩
/-- one of two types, by a tag: used for lists of unlike things -/
def ySum {α β : Type} (t : Ty α) (u : Ty β) : Ty (α ⊕ β) :=
  ⟨fun H v x => match x with | .inl a => t.rp H v a | .inr b => u.rp H v b,
   fun {_ _ _ x} s h => match x, h with | .inl _, h => t.mono s h | .inr _, h => u.mono s h⟩

/-! ### slots, cells, contexts -/
inductive Sl : Type 1 where
  | any
  | val {α : Type} (t : Ty α) (a : α)
def SlOk (B : Hp) : Option V → Sl → Prop
  | _, .any => True
  | o, .val t a => ∃ v, o = some v ∧ t.rp B v a
theorem SlOk.mono {B B' : Hp} {o : Option V} {s : Sl} (e : Same B B') (h : SlOk B o s) : SlOk B' o s := by
  cases s with
  | any => trivial
  | val t a =>
    obtain ⟨v, e1, r⟩ := h
    exact ⟨v, e1, t.mono e r⟩
structure Cell where
  ok : Hp → HO → Prop
  mono : ∀ {H H' : Hp} {o : HO}, Same H H' → ok H o → ok H' o
def cL {α : Type} (t : Ty α) (xs : List α) : Cell :=
  ⟨fun H o => ∃ vs, o = .lst vs ∧ vs.length ≤ sizeLine ∧ A2 (t.rp H) vs xs, fun s ⟨vs, e, l, p⟩ => ⟨vs, e, l, p.imp fun _ _ z => t.mono s z⟩⟩
/-- fixed for a def's run: the heap at the entry, what it may change of it, what others own -/
structure Fx where
  H0 : Hp
  W : List Addr
  M : List Addr
/-- the slots' contents; ghosts: what is held besides -/
structure Lc : Type 1 where
  s : List Sl
  g : List Sl := []
def Lc.set (l : Lc) (i : Nat) (x : Sl) : Lc := ⟨l.s.set i x, l.g⟩
def Lc.push (l : Lc) (gs : List Sl) : Lc := ⟨l.s, gs ++ l.g⟩
abbrev Own : Type := List (Addr × Cell)
def ad (F : Fx) (O : Own) : List Addr := O.map (·.1) ++ F.M
abbrev br (F : Fx) (O : Own) (H : Hp) : Hp := bar H (ad F O)
structure Hx (F : Fx) (O : Own) (H : Hp) : Prop where
  own : ∀ q ∈ O, ∃ o, H q.1 = some o ∧ q.2.ok (br F O H) o
  nd : (O.map (·.1)).Nodup
  ndM : ∀ q ∈ O, q.1 ∉ F.M
  acc : ∀ q ∈ O, q.1 ∈ F.W ∨ F.H0 q.1 = none
  dom : ∀ a, (a ∈ F.W ∨ a ∈ F.M) → H a ≠ none
  keep : Frm F.W F.H0 H
structure Ok (F : Fx) (O : Own) (l : Lc) (σ : St) (H : Hp) : Prop where
  sl : A2 (SlOk (br F O H)) σ l.s
  gh : ∃ ws, A2 (SlOk (br F O H)) ws l.g
  hx : Hx F O H
theorem Hx.grow {F : Fx} {O : Own} {H H' : Hp} (h : Hx F O H) (s : Same H H') : Hx F O H' :=
  ⟨fun q hq => let ⟨o, e, k⟩ := h.own q hq; ⟨o, s _ _ e, q.2.mono (bar_same s) k⟩, h.nd, h.ndM, h.acc, (fun a ha z => by
    cases e : H a with
    | none => exact h.dom a ha e
    | some o =>
      rw [s _ _ e] at z
      cases z), h.keep.same s⟩
theorem Ok.grow {F : Fx} {O : Own} {l : Lc} {σ : St} {H H' : Hp} (h : Ok F O l σ H) (s : Same H H') : Ok F O l σ H' := ⟨h.sl.imp fun _ _ z => z.mono (bar_same s), let ⟨ws, q⟩ := h.gh; ⟨ws, q.imp fun _ _ z => z.mono (bar_same s)⟩, h.hx.grow s⟩
theorem Hx.fresh0 {F : Fx} {O : Own} {H : Hp} {p : Addr} (h : Hx F O H) (n : H p = none) : F.H0 p = none := by
  cases e : F.H0 p with
  | none => rfl
  | some o =>
    exfalso
    by_cases hw : p ∈ F.W
    · exact h.dom p (.inl hw) n
    · rw [h.keep p o e hw] at n
      cases n
theorem Hx.fresh {F : Fx} {O : Own} {H : Hp} {p : Addr} (h : Hx F O H) (n : H p = none) : p ∉ ad F O := fun z => by
  rcases List.mem_append.mp z with z | z
  · obtain ⟨q, hq, e⟩ := List.mem_map.mp z
    obtain ⟨o, e2, _⟩ := h.own q hq
    rw [e, n] at e2
    cases e2
  · exact h.dom p (.inr z) n

/-! ### from state to state -/
/-- all but the owned objects is as it was -/
structure Mv (O O' : Own) (H H' : Hp) : Prop where
  sub : ∀ a ∈ O'.map (·.1), a ∈ O.map (·.1)
  frm : Frm (O.map (·.1)) H H'
theorem Mv.refl {O : Own} {H : Hp} : Mv O O H H := ⟨fun _ h => h, Frm.refl⟩
theorem Mv.trans {O O1 O2 : Own} {H H1 H2 : Hp} (m : Mv O O1 H H1) (n : Mv O1 O2 H1 H2) : Mv O O2 H H2 := ⟨fun a h => m.sub a (n.sub a h), fun a o h k => n.frm a o (m.frm a o h k) fun z => k (m.sub a z)⟩
theorem Mv.grow {O O' : Own} {H H1 H2 : Hp} (m : Mv O O' H H1) (s : Same H1 H2) : Mv O O' H H2 := ⟨m.sub, m.frm.same s⟩
theorem Mv.same {F : Fx} {O O' : Own} {H H' : Hp} (m : Mv O O' H H') : Same (br F O H) (br F O' H') := fun a o h => by
  obtain ⟨h1, h2⟩ := bar_some.mp h
  exact bar_some.mpr ⟨fun z => h1 ((List.mem_append.mp z).elim (fun y => List.mem_append_left _ (m.sub a y)) (fun y => List.mem_append_right _ y)), m.frm a o h2 fun z => h1 (List.mem_append_left _ z)⟩

/-! ### expressions -/
section
variable {F : Fx} {O O1 O2 O3 O' : Own} {l : Lc} {α β γ : Type}
/-- te gives a (as t tells), leaving the owned cells as O' -/
def Ev (F : Fx) (O : Own) (l : Lc) (te : TE) (t : Ty α) (a : α) (O' : Own) : Prop :=
  ∀ σ H, Ok F O l σ H → ∀ Q : VK, (∀ v H', Mv O O' H H' → Ok F O' l σ H' → t.rp (br F O' H') v a → Q v H') → te σ H Q
/-- te gives a new list of xs at p -/
def EvL (F : Fx) (O : Own) (l : Lc) (te : TE) (t : Ty α) (xs : List α) (O' : Own) : Prop :=
  ∀ σ H, Ok F O l σ H → ∀ Q : VK, (∀ p vs H', Mv O O' H H' → Ok F O' l σ H' → H' p = none → F.H0 p = none → vs.length ≤ sizeLine → A2 (t.rp (br F O' H')) vs xs → Q (.ref p) (upd H' p (.lst vs))) → te σ H Q
def EvA (F : Fx) (O : Own) (l : Lc) (ta : TA) (sls : List Sl) (O' : Own) : Prop :=
  ∀ σ H, Ok F O l σ H → ∀ Q : List V → Hp → Prop, (∀ vs H', Mv O O' H H' → Ok F O' l σ H' → A2 (fun v s => SlOk (br F O' H') (some v) s) vs sls → Q vs H') → ta σ H Q
/-- a test that is true exactly if p -/
def Tt (F : Fx) (O : Own) (l : Lc) (tt : TT) (p : Prop) (O' : Own) : Prop :=
  ∀ σ H, Ok F O l σ H → ∀ Q : Bool → Hp → Prop, (∀ b H', (b = true ↔ p) → Mv O O' H H' → Ok F O' l σ H' → Q b H') → tt σ H Q

theorem same_refl (H : Hp) : Same H H := fun _ _ h => h
theorem Ev.to {te : TE} {t : Ty α} {a b : α} (h : Ev F O l te t a O') (e : a = b) : Ev F O l te t b O' := e ▸ h
theorem slot_of {B : Hp} {σ : St} {i : Nat} {s : Sl} : ∀ {σ : St} {l : List Sl} {i : Nat}, A2 (SlOk B) σ l → l[i]? = some s → ∃ o, σ[i]? = some o ∧ SlOk B o s
  | _, _, _, .nil, e => by simp at e
  | _, _, 0, .cons r _, e => by simp at e; subst e; exact ⟨_, rfl, r⟩
  | _, _, i + 1, .cons r t, e => by
    obtain ⟨o, h1, h2⟩ := slot_of (i := i) (σ := []) t (by simpa using e)
    exact ⟨o, by simpa using h1, h2⟩
theorem paired_set {B : Hp} {o : Option V} {s : Sl} (r : SlOk B o s) : ∀ {σ : St} {l : List Sl} (i : Nat), A2 (SlOk B) σ l → A2 (SlOk B) (σ.set i o) (l.set i s)
  | _, _, _, .nil => .nil
  | _, _, 0, .cons _ t => .cons r t
  | _, _, i + 1, .cons q t => .cons q (paired_set r i t)
theorem ev_var {i : Nat} {t : Ty α} {a : α} (h : l.s[i]? = some (.val t a) := by rfl) : Ev F O l (tVar i) t a O := fun σ H k Q q => by
  obtain ⟨o, e, v, e2, r⟩ := slot_of (σ := []) (i := 0) k.sl h
  subst e2
  exact ⟨v, e, q v H .refl k r⟩
theorem ev_c {v : V} {t : Ty α} {a : α} (h : ∀ B, t.rp B v a) : Ev F O l (tC v) t a O := fun _ H k _ q => q v H .refl k (h _)
theorem ev_int {i : Int} : Ev F O l (tC (.int i)) yI i O := ev_c fun _ => rfl
theorem ev_bl {b : Bool} : Ev F O l (tC (.bl b)) yB b O := ev_c fun _ => rfl
theorem ev_str {x : Str} (h : PyData.strOk x = true := by decide +kernel) : Ev F O l (tC (.str x)) yS x O := ev_c fun _ => ⟨rfl, h⟩
theorem ev_non : Ev F O l (tC .non) yN () O := ev_c fun _ => rfl
theorem ev_val {v : V} : Ev F O l (tC v) (yV v) () O := ev_c fun _ => rfl
/-- two operands, any rule -/
theorem ev_op {r : R2} {ta tb : TE} {t : Ty α} {u : Ty β} {w : Ty γ} {a : α} {b : β} {c : γ} (ha : Ev F O l ta t a O1) (hb : Ev F O1 l tb u b O2)
    (hr : ∀ H x y, Hx F O2 H → t.rp (br F O2 H) x a → u.rp (br F O2 H) y b → ∀ Q : VK, (∀ v H', Same H H' → w.rp (br F O2 H') v c → Q v H') → r x y H Q) : Ev F O l (tOp r ta tb) w c O2 := fun σ H k Q q =>
  ha σ H k _ fun x H1 s1 k1 r1 => hb σ H1 k1 _ fun y H2 s2 k2 r2 => hr H2 x y k2.hx (t.mono s2.same r1) r2 Q fun v H3 s3 r3 => q v H3 ((s1.trans s2).grow s3) (k2.grow s3) r3
theorem ev_un {r : V → Hp → VK → Prop} {ta : TE} {t : Ty α} {w : Ty γ} {a : α} {c : γ} (ha : Ev F O l ta t a O1)
    (hr : ∀ H x, Hx F O1 H → t.rp (br F O1 H) x a → ∀ Q : VK, (∀ v H', Same H H' → w.rp (br F O1 H') v c → Q v H') → r x H Q) : Ev F O l (tUn r ta) w c O1 := fun σ H k Q q =>
  ha σ H k _ fun x H1 s1 k1 r1 => hr H1 x k1.hx r1 Q fun v H3 s3 r3 => q v H3 (s1.grow s3) (k1.grow s3) r3
section
variable {ta tb tc : TE} {i j : Int}
theorem ev_i0 {g : Int → Int → V} {w : Ty γ} {c : γ} (ha : Ev F O l ta yI i O1) (hb : Ev F O1 l tb yI j O2) (h : ∀ B, w.rp B (g i j) c) : Ev F O l (tOp (rI0 g) ta tb) w c O2 :=
  ev_op ha hb fun H x y _ e1 e2 Q q => ⟨i, j, e1, e2, q _ H (same_refl _) (h _)⟩
theorem ev_iC {C : Int → Int → Prop} {g : Int → Int → V} {w : Ty γ} {c : γ} (ha : Ev F O l ta yI i O1) (hb : Ev F O1 l tb yI j O2) (hc : C i j) (h : ∀ B, w.rp B (g i j) c) : Ev F O l (tOp (rI C g) ta tb) w c O2 :=
  ev_op ha hb fun H x y _ e1 e2 Q q => ⟨i, j, e1, e2, hc, q _ H (same_refl _) (h _)⟩
abbrev oAdd : R2 := rI0 fun i j => .int (i + j)
abbrev oSub : R2 := rI0 fun i j => .int (i - j)
abbrev oMul : R2 := rI CMulW fun i j => .int (i * j)
abbrev oMod : R2 := rI (fun _ j => 0 < j) fun i j => .int (i % j)
abbrev oModN : R2 := rI (fun _ j => j ≠ 0) fun i j => .int (i.fmod j)
abbrev oDiv : R2 := rI CDivW fun i j => .int (i / j)
/-- // by any divisor but 0, below 2 ^ 9000 -/
abbrev CDivZ (_ j : Int) : Prop := j ≠ 0 ∧ j.natAbs.log2 < 9000
abbrev oDivN : R2 := rI CDivZ fun i j => .int (i.fdiv j)
theorem op_fdivZ {X : Cx} : OpR X (binaryOp .FloorDiv) oDivN := opI fun i j _ _ _ _ _ hc q => PyProof.Rows.floordiv_int hc.1 q (.inl (PyProof.noPylong_of_log2 hc.2))
abbrev oLt : R2 := rI0 fun i j => .bl (decide (i < j))
abbrev oLe : R2 := rI0 fun i j => .bl (decide (i ≤ j))
abbrev oGt : R2 := rI0 fun i j => .bl (decide (j < i))
abbrev oGe : R2 := rI0 fun i j => .bl (decide (j ≤ i))
abbrev oPow : R2 := rI CPow fun i j => .int (i ^ j.toNat)
theorem ev_add (ha : Ev F O l ta yI i O1) (hb : Ev F O1 l tb yI j O2) : Ev F O l (tOp oAdd ta tb) yI (i + j) O2 := ev_i0 ha hb fun _ => rfl
theorem ev_sub (ha : Ev F O l ta yI i O1) (hb : Ev F O1 l tb yI j O2) : Ev F O l (tOp oSub ta tb) yI (i - j) O2 := ev_i0 ha hb fun _ => rfl
theorem ev_mul (ha : Ev F O l ta yI i O1) (hb : Ev F O1 l tb yI j O2) (hc : CMulW i j) : Ev F O l (tOp oMul ta tb) yI (i * j) O2 := ev_iC ha hb hc fun _ => rfl
theorem ev_mod (ha : Ev F O l ta yI i O1) (hb : Ev F O1 l tb yI j O2) (hc : 0 < j) : Ev F O l (tOp oMod ta tb) yI (i % j) O2 := ev_iC ha hb hc fun _ => rfl
theorem ev_modN (ha : Ev F O l ta yI i O1) (hb : Ev F O1 l tb yI j O2) (hc : j ≠ 0) : Ev F O l (tOp oModN ta tb) yI (i.fmod j) O2 := ev_iC ha hb hc fun _ => rfl
theorem ev_div (ha : Ev F O l ta yI i O1) (hb : Ev F O1 l tb yI j O2) (hc : CDivW i j) : Ev F O l (tOp oDiv ta tb) yI (i / j) O2 := ev_iC ha hb hc fun _ => rfl
theorem ev_divN (ha : Ev F O l ta yI i O1) (hb : Ev F O1 l tb yI j O2) (hc : CDivZ i j) : Ev F O l (tOp oDivN ta tb) yI (i.fdiv j) O2 := ev_iC ha hb hc fun _ => rfl
theorem ev_pow (ha : Ev F O l ta yI i O1) (hb : Ev F O1 l tb yI j O2) (hc : CPow i j) : Ev F O l (tOp oPow ta tb) yI (i ^ j.toNat) O2 := ev_iC ha hb hc fun _ => rfl
theorem ev_lt (ha : Ev F O l ta yI i O1) (hb : Ev F O1 l tb yI j O2) : Ev F O l (tOp oLt ta tb) yB (decide (i < j)) O2 := ev_i0 ha hb fun _ => rfl
theorem ev_le (ha : Ev F O l ta yI i O1) (hb : Ev F O1 l tb yI j O2) : Ev F O l (tOp oLe ta tb) yB (decide (i ≤ j)) O2 := ev_i0 ha hb fun _ => rfl
theorem ev_gt (ha : Ev F O l ta yI i O1) (hb : Ev F O1 l tb yI j O2) : Ev F O l (tOp oGt ta tb) yB (decide (j < i)) O2 := ev_i0 ha hb fun _ => rfl
theorem ev_ge (ha : Ev F O l ta yI i O1) (hb : Ev F O1 l tb yI j O2) : Ev F O l (tOp oGe ta tb) yB (decide (j ≤ i)) O2 := ev_i0 ha hb fun _ => rfl
abbrev uNeg : V → Hp → VK → Prop := rU fun i => .int (-i)
theorem ev_neg (ha : Ev F O l ta yI i O1) : Ev F O l (tUn uNeg ta) yI (-i) O1 := ev_un ha fun H x _ e Q q => ⟨i, e, q _ H (same_refl _) rfl⟩
/-- == of ints, bools, texts -/
class Scal {α : Type} (t : Ty α) [DecidableEq α] where
  eq : ∀ {B B' : Hp} {x y : V} {a b : α}, t.rp B x a → t.rp B' y b → scal x y = true ∧ (decide (x = y) = decide (a = b))
instance : Scal yI := ⟨fun {_ _ x y a b} e1 e2 => by
  have e1 : x = .int a := e1
  have e2 : y = .int b := e2
  subst e1 e2
  refine ⟨rfl, ?_⟩
  by_cases h : a = b <;> simp [h]⟩
instance : Scal yB := ⟨fun {_ _ x y a b} e1 e2 => by
  have e1 : x = .bl a := e1
  have e2 : y = .bl b := e2
  subst e1 e2
  refine ⟨rfl, ?_⟩
  by_cases h : a = b <;> simp [h]⟩
instance : Scal yS := ⟨fun {_ _ x y a b} e1 e2 => by
  have e1 : x = .str a := e1.1
  have e2 : y = .str b := e2.1
  subst e1 e2
  refine ⟨rfl, ?_⟩
  by_cases h : a = b <;> simp [h]⟩
theorem ev_eq {t : Ty α} [DecidableEq α] [Scal t] {a b : α} (ha : Ev F O l ta t a O1) (hb : Ev F O1 l tb t b O2) : Ev F O l (tOp rEq ta tb) yB (decide (a = b)) O2 :=
  ev_op ha hb fun H x y _ e1 e2 Q q => ⟨(Scal.eq e1 e2).1, by rw [(Scal.eq e1 e2).2]; exact q _ H (same_refl _) rfl⟩
theorem ev_ne {t : Ty α} [DecidableEq α] [Scal t] {a b : α} (ha : Ev F O l ta t a O1) (hb : Ev F O1 l tb t b O2) : Ev F O l (tOp rNe ta tb) yB (!decide (a = b)) O2 :=
  ev_op ha hb fun H x y _ e1 e2 Q q => ⟨(Scal.eq e1 e2).1, by rw [(Scal.eq e1 e2).2]; exact q _ H (same_refl _) rfl⟩
end
end
end TL
namespace TL
open PySem L2

theorem same_trans {H H1 H2 : Hp} (a : Same H H1) (b : Same H1 H2) : Same H H2 := fun c o h => b c o (a c o h)
section
variable {F : Fx} {O O1 O2 O3 O' : Own} {l : Lc} {α β γ : Type} {K : PySem.W.Frag}
  {ta tb tc te : TE} {t : Ty α} {u : Ty β} {w : Ty γ} {a : α} {b : β} {c : γ}

/-! ### tests -/
theorem tt_b {b : Bool} (h : Ev F O l te yB b O') : Tt F O l (tB te) (b = true) O' := fun σ H k Q q => h σ H k _ fun v H1 s k1 e => ⟨b, e, q b H1 Iff.rfl s k1⟩
theorem tt_t {b : Bool} (h : Ev F O l te yB b O') : Tt F O l (tTest te) (b = true) O' := fun σ H k Q q => h σ H k _ fun v H1 s k1 e => ⟨b, e, q b H1 Iff.rfl s k1⟩
theorem tt_d {p : Prop} [Decidable p] (h : Ev F O l te yB (decide p) O') : Tt F O l (tTest te) p O' := fun σ H k Q q => h σ H k _ fun v H1 s k1 e => ⟨_, e, q _ H1 (by simp) s k1⟩
theorem tt_db {p : Prop} [Decidable p] (h : Ev F O l te yB (decide p) O') : Tt F O l (tB te) p O' := fun σ H k Q q => h σ H k _ fun v H1 s k1 e => ⟨_, e, q _ H1 (by simp) s k1⟩
theorem tt_n {p : Prop} [Decidable p] (h : Ev F O l te yB (!decide p) O') : Tt F O l (tTest te) (¬ p) O' := fun σ H k Q q => h σ H k _ fun v H1 s k1 e => ⟨_, e, q _ H1 (by simp) s k1⟩
theorem tt_iff {tt : TT} {p q : Prop} (h : Tt F O l tt p O') (e : p ↔ q) : Tt F O l tt q O' := fun σ H k Q z => h σ H k Q fun b H1 i => z b H1 (i.trans e)
theorem tt_and {t1 t2 : TT} {p q : Prop} (h1 : Tt F O l t1 p O1) (h2 : p → Tt F O1 l t2 q O1) : Tt F O l (tAnd t1 t2) (p ∧ q) O1 := fun σ H k Q z => h1 σ H k _ fun b H1 i s1 k1 => by
  cases b with
  | true =>
    show t2 σ H1 Q
    have hp := i.mp rfl
    exact h2 hp σ H1 k1 Q fun b2 H2 i2 s2 k2 => z b2 H2 (i2.trans ⟨fun y => ⟨hp, y⟩, fun y => y.2⟩) (s1.trans s2) k2
  | false =>
    show Q false H1
    exact z false H1 ⟨fun y => (by cases y), fun y => i.mpr y.1⟩ s1 k1
theorem tt_or {t1 t2 : TT} {p q : Prop} (h1 : Tt F O l t1 p O1) (h2 : ¬ p → Tt F O1 l t2 q O1) : Tt F O l (tOr t1 t2) (p ∨ q) O1 := fun σ H k Q z => h1 σ H k _ fun b H1 i s1 k1 => by
  cases b with
  | true =>
    show Q true H1
    exact z true H1 ⟨fun _ => .inl (i.mp rfl), fun _ => rfl⟩ s1 k1
  | false =>
    show t2 σ H1 Q
    have hp : ¬ p := fun y => by cases i.mpr y
    exact h2 hp σ H1 k1 Q fun b2 H2 i2 s2 k2 => z b2 H2 (i2.trans ⟨.inr, fun y => y.resolve_left hp⟩) (s1.trans s2) k2
theorem tt_not {t1 : TT} {p : Prop} (h1 : Tt F O l t1 p O1) : Tt F O l (tNot t1) (¬ p) O1 := fun σ H k Q z => h1 σ H k _ fun b H1 i s1 k1 => z (!b) H1 (by cases b <;> simp_all) s1 k1
/-- .. as values -/
theorem ev_andV {x y : Bool} (h1 : Ev F O l ta yB x O1) (h2 : x = true → Ev F O1 l tb yB y O1) : Ev F O l (tAndV ta tb) yB (x && y) O1 := fun σ H k Q z => h1 σ H k _ fun v H1 s1 k1 e => ⟨x, e, by
  cases x with
  | true =>
    show tb σ H1 Q
    exact h2 rfl σ H1 k1 Q fun v2 H2 s2 k2 e2 => z v2 H2 (s1.trans s2) k2 e2
  | false =>
    show Q (.bl false) H1
    exact z _ H1 s1 k1 rfl⟩
theorem ev_orV {x y : Bool} (h1 : Ev F O l ta yB x O1) (h2 : x = false → Ev F O1 l tb yB y O1) : Ev F O l (tOrV ta tb) yB (x || y) O1 := fun σ H k Q z => h1 σ H k _ fun v H1 s1 k1 e => ⟨x, e, by
  cases x with
  | true =>
    show Q (.bl true) H1
    exact z _ H1 s1 k1 rfl
  | false =>
    show tb σ H1 Q
    exact h2 rfl σ H1 k1 Q fun v2 H2 s2 k2 e2 => z v2 H2 (s1.trans s2) k2 e2⟩
theorem ev_notV {x : Bool} (h1 : Ev F O l ta yB x O1) : Ev F O l (tNotV ta) yB (!x) O1 := fun σ H k Q z => h1 σ H k _ fun v H1 s1 k1 e => ⟨x, e, z _ H1 s1 k1 rfl⟩
theorem ev_ifE {tt : TT} {p : Prop} [Decidable p] {a2 : α} (h : Tt F O l tt p O1) (h1 : p → Ev F O1 l ta t a O2) (h2 : ¬ p → Ev F O1 l tb t a2 O2) : Ev F O l (tIf tt ta tb) t (if p then a else a2) O2 := fun σ H k Q z => h σ H k _ fun b H1 i s1 k1 => by
  cases b with
  | true =>
    show ta σ H1 Q
    have hp := i.mp rfl
    rw [if_pos hp] at z
    exact h1 hp σ H1 k1 Q fun v2 H2 s2 k2 e2 => z v2 H2 (s1.trans s2) k2 e2
  | false =>
    show tb σ H1 Q
    have hp : ¬ p := fun y => by cases i.mpr y
    rw [if_neg hp] at z
    exact h2 hp σ H1 k1 Q fun v2 H2 s2 k2 e2 => z v2 H2 (s1.trans s2) k2 e2
/-- a bool expression of a Prop -/
theorem ev_dec {b : Bool} {p : Prop} [Decidable p] (h : Ev F O l te yB (decide p) O') (e : decide p = b) : Ev F O l te yB b O' := h.to e

/-! ### arguments, tuples, lists -/
theorem ea_nil : EvA F O l tNil [] O := fun σ H k Q q => q [] H .refl k .nil
theorem ea_cons {tr : TA} {sls : List Sl} (h : Ev F O l te t a O1) (hr : EvA F O1 l tr sls O2) : EvA F O l (tCons te tr) (.val t a :: sls) O2 := fun σ H k Q q =>
  h σ H k _ fun v H1 s1 k1 r1 => hr σ H1 k1 _ fun vs H2 s2 k2 r2 => q (v :: vs) H2 (s1.trans s2) k2 (.cons ⟨v, rfl, t.mono s2.same r1⟩ r2)
theorem slv {B : Hp} {v : V} (h : SlOk B (some v) (.val t a)) : t.rp B v a := by
  obtain ⟨v', e, r⟩ := h
  cases e
  exact r
theorem a2_vals {B : Hp} : ∀ {vs : List V} {xs : List α}, A2 (fun v s => SlOk B (some v) s) vs (xs.map (Sl.val t)) → A2 (t.rp B) vs xs
  | [], [], _ => .nil
  | v :: vs, x :: xs, .cons r h => .cons (slv r) (a2_vals h)
theorem ev_pair {tr : TA} (h : EvA F O l tr [.val t a, .val u b] O') : Ev F O l (tTup tr) (yP t u) (a, b) O' := fun σ H k Q q =>
  h σ H k _ fun vs H1 s1 k1 r1 => by
    cases r1 with
    | cons r1 r2 =>
      cases r2 with
      | cons r2 r3 =>
        cases r3
        rename_i x y
        refine ⟨(by show 2 ≤ sizeLine; decide), fun p hp => ?_⟩
        have np := k1.hx.fresh hp
        refine q _ _ (s1.grow (Same.new hp)) (k1.grow (Same.new hp)) ⟨p, x, y, rfl, bar_some.mpr ⟨np, upd_same⟩, t.mono (bar_same (Same.new hp)) (slv r1), u.mono (bar_same (Same.new hp)) (slv r2)⟩
theorem ev_tup {tr : TA} {sls : List Sl} {xs : List α} (h : EvA F O l tr sls O') (e : sls = xs.map (Sl.val t)) (hl : xs.length ≤ sizeLine) : Ev F O l (tTup tr) (yT t) xs O' := fun σ H k Q q =>
  h σ H k _ fun vs H1 s1 k1 r1 => by
    subst e
    have r2 := a2_vals r1
    have hl2 : vs.length ≤ sizeLine := by rw [r2.length]; exact hl
    refine ⟨hl2, fun p hp => ?_⟩
    have np := k1.hx.fresh hp
    exact q _ _ (s1.grow (Same.new hp)) (k1.grow (Same.new hp)) ⟨p, vs, rfl, bar_some.mpr ⟨np, upd_same⟩, hl2, r2.imp fun _ _ z => t.mono (bar_same (Same.new hp)) z⟩
theorem evl_lst {tr : TA} {sls : List Sl} {xs : List α} (h : EvA F O l tr sls O') (e : sls = xs.map (Sl.val t)) (hl : xs.length ≤ sizeLine) : EvL F O l (tLst tr) t xs O' := fun σ H k Q q =>
  h σ H k _ fun vs H1 s1 k1 r1 => by
    subst e
    have r2 := a2_vals r1
    have hl2 : vs.length ≤ sizeLine := by rw [r2.length]; exact hl
    exact ⟨hl2, fun p hp => q p vs H1 s1 k1 hp (k1.hx.fresh0 hp) hl2 r2⟩
end
end TL
namespace TL
open PySem L2

section
variable {F : Fx} {O O1 O2 O3 O' : Own} {l : Lc} {α β γ : Type} {K : PySem.W.Frag}
  {ta tb tc te : TE} {t : Ty α} {u : Ty β} {w : Ty γ} {a : α} {b : β} {c : γ}

/-! ### new lists -/
theorem bar_new {H : Hp} {S : List Addr} {p : Addr} (h : H p = none) (n : p ∉ S) (o : HO) : Same (bar H S) (bar (upd H p o) S) := bar_same (Same.new h)
theorem ev_l {xs : List α} (h : EvL F O l te t xs O') : Ev F O l te (yL t) xs O' := fun σ H k Q q =>
  h σ H k Q fun p vs H1 s1 k1 np n0 hl r => q _ _ (s1.grow (Same.new np)) (k1.grow (Same.new np))
    ⟨p, vs, rfl, bar_some.mpr ⟨k1.hx.fresh np, upd_same⟩, hl, r.imp fun _ _ z => t.mono (bar_same (Same.new np)) z⟩

/-! ### places -/
abbrev Inb {α : Type} (xs : List α) (i : Int) : Prop := -(xs.length : Int) ≤ i ∧ i < xs.length
def ix {α : Type} [Inhabited α] (xs : List α) (i : Int) : α := (atI xs i).getD default
theorem ixN_of {n : Nat} {i : Int} (h : -(n : Int) ≤ i ∧ i < n) : ∃ j, ixN n i = some j ∧ j < n := by
  unfold ixN
  by_cases h0 : 0 ≤ i
  · rw [if_pos h0, if_pos h.2]
    exact ⟨_, rfl, by omega⟩
  · rw [if_neg h0, if_pos h.1]
    exact ⟨_, rfl, by omega⟩
theorem a2_get {R : V → α → Prop} : ∀ {vs : List V} {xs : List α} {j : Nat}, A2 R vs xs → j < xs.length → ∃ v x, vs[j]? = some v ∧ xs[j]? = some x ∧ R v x
  | _, _, _, .nil, e => by simp at e
  | v :: _, x :: _, 0, .cons r _, _ => ⟨v, x, rfl, rfl, r⟩
  | _ :: vs, _ :: xs, j + 1, .cons _ h, e => by
    obtain ⟨v, x, h1, h2, h3⟩ := a2_get (j := j) h (by simpa using e)
    exact ⟨v, x, by simpa using h1, by simpa using h2, h3⟩
theorem a2_at {R : V → α → Prop} {vs : List V} {xs : List α} {i : Int} (r : A2 R vs xs) (h : Inb xs i) : ∃ v x, atI vs i = some v ∧ atI xs i = some x ∧ R v x := by
  obtain ⟨j, e, hj⟩ := ixN_of h
  obtain ⟨v, x, h1, h2, h3⟩ := a2_get r hj
  refine ⟨v, x, ?_, ?_, h3⟩
  · unfold atI
    rw [r.length, e]
    exact h1
  · unfold atI
    rw [e]
    exact h2
theorem ix_of {α : Type} [Inhabited α] {xs : List α} {i : Int} {x : α} (h : atI xs i = some x) : ix xs i = x := by unfold ix; rw [h]; rfl
theorem ev_ixL [Inhabited α] {xs : List α} {i : Int} (ha : Ev F O l ta (yL t) xs O1) (hb : Ev F O1 l tb yI i O2) (hi : Inb xs i) : Ev F O l (tOp (rIxL K) ta tb) t (ix xs i) O2 :=
  ev_op ha hb fun H x y hx e1 e2 Q q => by
    obtain ⟨p, vs, e, hp, hl, r⟩ := e1
    obtain ⟨v, z, h1, h2, h3⟩ := a2_at r hi
    exact ⟨p, vs, i, v, e, e2, SqL.of (bar_some.mp hp).2, h1, q v H (same_refl _) (by rw [ix_of h2]; exact h3)⟩
theorem ev_ixT [Inhabited α] {xs : List α} {i : Int} (ha : Ev F O l ta (yT t) xs O1) (hb : Ev F O1 l tb yI i O2) (hi : Inb xs i) : Ev F O l (tOp (rIxT K) ta tb) t (ix xs i) O2 :=
  ev_op ha hb fun H x y hx e1 e2 Q q => by
    obtain ⟨p, vs, e, hp, hl, r⟩ := e1
    obtain ⟨v, z, h1, h2, h3⟩ := a2_at r hi
    exact ⟨p, vs, i, v, e, e2, SqT.of (bar_some.mp hp).2, h1, q v H (same_refl _) (by rw [ix_of h2]; exact h3)⟩
theorem ev_fst {x : α × β} (ha : Ev F O l ta (yP t u) x O1) : Ev F O l (tOp (rIxT K) ta (tC (.int 0))) t x.1 O1 :=
  ev_op ha ev_int fun H z y hx e1 e2 Q q => by
    obtain ⟨p, v1, v2, e, hp, r1, r2⟩ := e1
    exact ⟨p, _, 0, v1, e, e2, SqT.of (bar_some.mp hp).2, rfl, q v1 H (same_refl _) r1⟩
theorem ev_snd {x : α × β} (ha : Ev F O l ta (yP t u) x O1) : Ev F O l (tOp (rIxT K) ta (tC (.int 1))) u x.2 O1 :=
  ev_op ha ev_int fun H z y hx e1 e2 Q q => by
    obtain ⟨p, v1, v2, e, hp, r1, r2⟩ := e1
    exact ⟨p, _, 1, v2, e, e2, SqT.of (bar_some.mp hp).2, rfl, q v2 H (same_refl _) r2⟩
/-- an owned list -/
theorem own_at {H : Hp} {k : Nat} {p : Addr} {ce : Cell} (h : Hx F O H) (e : O[k]? = some (p, ce)) : ∃ o, H p = some o ∧ ce.ok (br F O H) o := h.own _ (List.mem_of_getElem? e)
theorem ev_ixO [Inhabited α] {xs : List α} {i : Int} {p : Addr} (k : Nat) (ha : Ev F O l ta (yV (.ref p)) () O1) (hb : Ev F O1 l tb yI i O2) (hi : Inb xs i) (hk : O2[k]? = some (p, cL t xs) := by rfl) : Ev F O l (tOp (rIxL K) ta tb) t (ix xs i) O2 :=
  ev_op ha hb fun H x y hx e1 e2 Q q => by
    obtain ⟨o, hp, vs, e, hl, r⟩ := own_at hx hk
    obtain ⟨v, z, h1, h2, h3⟩ := a2_at r hi
    subst e
    exact ⟨p, vs, i, v, e1, e2, SqL.of hp, h1, q v H (same_refl _) (by rw [ix_of h2]; exact h3)⟩

/-! ### built-ins -/
def rLenS (K : PySem.W.Frag) : List V → Hp → VK → Prop := fun xs H Q => ∃ p ys, xs = [.ref p] ∧ (SqL K H p ys ∨ SqT K H p ys) ∧ Q (.int ys.length) H
theorem ev_cb1 {r : List V → Hp → VK → Prop} (ha : Ev F O l ta t a O1)
    (hr : ∀ H x, Hx F O1 H → t.rp (br F O1 H) x a → ∀ Q : VK, (∀ v H', Same H H' → w.rp (br F O1 H') v c → Q v H') → r [x] H Q) : Ev F O l (tCB r (tCons ta tNil)) w c O1 := fun σ H k Q q =>
  ha σ H k _ fun x H1 s1 k1 r1 => hr H1 x k1.hx r1 Q fun v H3 s3 r3 => q v H3 (s1.grow s3) (k1.grow s3) r3
theorem ev_lenL {xs : List α} (ha : Ev F O l ta (yL t) xs O1) : Ev F O l (tCB (rLenS K) (tCons ta tNil)) yI (xs.length : Int) O1 := ev_cb1 ha fun H x hx e1 Q q => by
  obtain ⟨p, vs, e, hp, hl, r⟩ := e1
  exact ⟨p, vs, by rw [e], .inl (SqL.of (bar_some.mp hp).2), q _ H (same_refl _) (by rw [r.length]; rfl)⟩
theorem ev_lenT {xs : List α} (ha : Ev F O l ta (yT t) xs O1) : Ev F O l (tCB (rLenS K) (tCons ta tNil)) yI (xs.length : Int) O1 := ev_cb1 ha fun H x hx e1 Q q => by
  obtain ⟨p, vs, e, hp, hl, r⟩ := e1
  exact ⟨p, vs, by rw [e], .inr (SqT.of (bar_some.mp hp).2), q _ H (same_refl _) (by rw [r.length]; rfl)⟩
theorem ev_lenP {x : α × β} (ha : Ev F O l ta (yP t u) x O1) : Ev F O l (tCB (rLenS K) (tCons ta tNil)) yI 2 O1 := ev_cb1 ha fun H z hx e1 Q q => by
  obtain ⟨p, v1, v2, e, hp, r1, r2⟩ := e1
  exact ⟨p, _, by rw [e], .inr (SqT.of (bar_some.mp hp).2), q _ H (same_refl _) rfl⟩
theorem ev_lenO {xs : List α} {p : Addr} (k : Nat) (ha : Ev F O l ta (yV (.ref p)) () O1) (hk : O1[k]? = some (p, cL t xs) := by rfl) : Ev F O l (tCB (rLenS K) (tCons ta tNil)) yI (xs.length : Int) O1 := ev_cb1 ha fun H x hx e1 Q q => by
  obtain ⟨o, hp, vs, e, hl, r⟩ := own_at hx hk
  subst e
  exact ⟨p, vs, by rw [show x = .ref p from e1], .inl (SqL.of hp), q _ H (same_refl _) (by rw [r.length]; rfl)⟩
theorem a2_ints {B : Hp} : ∀ {vs : List V} {xs : List Int}, A2 (yI.rp B) vs xs → vs = xs.map V.int
  | _, _, .nil => rfl
  | _, _, .cons r h => by rw [show _ = _ from r, a2_ints h]; rfl
theorem ev_sum {xs : List Int} (ha : Ev F O l ta (yL yI) xs O1) : Ev F O l (tCB (rSum K) (tCons ta tNil)) yI xs.sum O1 := ev_cb1 ha fun H x hx e1 Q q => by
  obtain ⟨p, vs, e, hp, hl, r⟩ := e1
  have e2 := a2_ints r
  subst e2
  exact ⟨p, xs, by rw [e], SqL.of (bar_some.mp hp).2, q _ H (same_refl _) rfl⟩
def rAbs : List V → Hp → VK → Prop := fun xs H Q => ∃ i, xs = [.int i] ∧ Q (.int (if i < 0 then -i else i)) H
theorem ev_abs {i : Int} (ha : Ev F O l ta yI i O1) : Ev F O l (tCB rAbs (tCons ta tNil)) yI (i.natAbs : Int) O1 := ev_cb1 ha fun H x hx e1 Q q => by
  refine ⟨i, by rw [show x = _ from e1], q _ H (same_refl _) ?_⟩
  show V.int _ = V.int _
  congr 1
  split <;> omega
def rInt : List V → Hp → VK → Prop := fun xs H Q => (∃ i, xs = [.int i] ∧ Q (.int i) H) ∨ ∃ k, xs = [.bl k] ∧ Q (.int (if k then 1 else 0)) H
theorem ev_intI {i : Int} (ha : Ev F O l ta yI i O1) : Ev F O l (tCB rInt (tCons ta tNil)) yI i O1 := ev_cb1 ha fun H x hx e1 Q q => .inl ⟨i, by rw [show x = _ from e1], q _ H (same_refl _) rfl⟩

/-! ### list + list, list * int, slices, list(..), tuple(..) -/
theorem a2_app {α : Type} {R : V → α → Prop} : ∀ {vs : List V} {xs : List α} {vs2 : List V} {xs2 : List α}, A2 R vs xs → A2 R vs2 xs2 → A2 R (vs ++ vs2) (xs ++ xs2)
  | _, _, _, _, .nil, h => h
  | _, _, _, _, .cons r h, h2 => .cons r (a2_app h h2)
theorem evl_cat {xs ys : List α} (ha : Ev F O l ta (yL t) xs O1) (hb : Ev F O1 l tb (yL t) ys O2) (hn : xs.length + ys.length ≤ sizeLine) : EvL F O l (tOp rCat ta tb) t (xs ++ ys) O2 := fun σ H k Q q =>
  ha σ H k _ fun x H1 s1 k1 r1 => hb σ H1 k1 _ fun y H2 s2 k2 r2 => by
    obtain ⟨p, vs, e, hp, hl, r⟩ := (yL t).mono s2.same r1
    obtain ⟨p', vs', e', hp', hl', r'⟩ := r2
    have hn' : vs.length + vs'.length ≤ sizeLine := by rw [r.length, r'.length]; exact hn
    exact ⟨p, p', vs, vs', e, e', (bar_some.mp hp).2, (bar_some.mp hp').2, hn', fun z hz => q z _ H2 (s1.trans s2) k2 hz (k2.hx.fresh0 hz) (by rw [List.length_append]; exact hn') (a2_app r r')⟩
theorem a2_rep {α : Type} {R : V → α → Prop} {v : V} {x : α} (r : R v x) : ∀ n : Nat, A2 R (List.replicate n v) (List.replicate n x)
  | 0 => .nil
  | n + 1 => .cons r (a2_rep r n)
/-- [e] * n -/
theorem rep_one {α : Type} (x : α) : ∀ n : Nat, (List.replicate n [x]).flatten = List.replicate n x
  | 0 => rfl
  | n + 1 => by
    rw [List.replicate_succ, List.flatten_cons, rep_one x n]
    rfl
theorem evl_rep1 {x : α} {n : Int} (ha : EvL F O l ta t [x] O1) (hb : Ev F O1 l tb yI n O2) (hn : n ≤ sizeLine) (hn0 : -(2 ^ 62) ≤ n) : EvL F O l (tOp rRep ta tb) t (List.replicate n.toNat x) O2 := fun σ H k Q q =>
  ha σ H k _ fun p vs H1 s1 k1 np n0 hl r => by
    have k1' := k1.grow (Same.new (o := .lst vs) np)
    refine hb σ _ k1' _ fun y H2 s2 k2 r2 => ?_
    cases r with
    | cons r r' =>
      cases r'
      rename_i v
      have hp : (br F O1 (upd H1 p (.lst [v]))) p = some (.lst [v]) := bar_some.mpr ⟨k1.hx.fresh np, upd_same⟩
      have hp2 := (bar_some.mp (s2.same _ _ hp)).2
      have big : (sizeLine : Int) < 2 ^ 62 := by decide
      have h1 : (1 : Nat) * n.toNat ≤ sizeLine := by omega
      refine ⟨p, n, [v], rfl, r2, hp2, by omega, by omega, h1, fun z hz => ?_⟩
      have e : (List.replicate n.toNat [v]).flatten = List.replicate n.toNat v := rep_one v _
      rw [e]
      exact q z _ H2 ((s1.grow (Same.new np)).trans s2) k2 hz (k2.hx.fresh0 hz) (by rw [List.length_replicate]; omega) (a2_rep (t.mono (same_trans (bar_same (Same.new np)) s2.same) r) _)

/-! ### calls of defs -/
def AOk (B : Hp) (vs : List V) (sls : List Sl) : Prop := A2 (fun v s => SlOk B (some v) s) vs sls
/-- a def that changes nothing that is there: the value f a -/
def spF {A β : Type} (args : A → List Sl) (pre : A → Prop) (u : Ty β) (f : A → β) : Sp := fun vs H Q _ =>
  ∃ (M : List Addr) (a : A), (∀ m ∈ M, H m ≠ none) ∧ AOk (bar H M) vs (args a) ∧ pre a ∧ ∀ v H', Same H H' → u.rp (bar H' M) v (f a) → Q v H'
theorem Hx.adom {H : Hp} (h : Hx F O H) : ∀ m ∈ ad F O, H m ≠ none := fun m hm z => h.fresh z hm
theorem ev_call {A : Type} {args : A → List Sl} {pre : A → Prop} {f : A → β} {tr : TA} {sls : List Sl} {E : XK} (a : A) (h : EvA F O l tr sls O') (e : sls = args a) (hp : pre a) : Ev F O l (tCall (spF args pre u f) [] E tr) u (f a) O' := fun σ H k Q q =>
  h σ H k _ fun vs H1 s1 k1 r1 => by
    subst e
    rw [List.append_nil]
    exact ⟨ad F O', a, k1.hx.adom, r1, hp, fun v H' s r => q v H' (s1.grow s) (k1.grow s) r⟩
/-- a def that changes one object that it is handed -/
def spP {A β S : Type} (args : Addr → A → List Sl) (c : A → Cell) (cc : S → Cell) (pre : A → Prop) (u : Ty β) (m : A → β × S) : Sp := fun vs H Q _ =>
  ∃ (M : List Addr) (p : Addr) (a : A) (o : HO), p ∉ M ∧ (∀ m ∈ M, H m ≠ none) ∧ H p = some o ∧ (c a).ok (bar H (p :: M)) o ∧ AOk (bar H (p :: M)) vs (args p a) ∧ pre a ∧
    ∀ v H' o', Frm [p] H H' → H' p = some o' → (cc (m a).2).ok (bar H' (p :: M)) o' → u.rp (bar H' (p :: M)) v (m a).1 → Q v H'
theorem bar_congr {H : Hp} {S T : List Addr} (h : ∀ a, a ∈ S ↔ a ∈ T) : bar H S = bar H T := by
  funext a
  unfold bar
  by_cases z : a ∈ S
  · rw [if_pos z, if_pos ((h a).mp z)]
  · rw [if_neg z, if_neg (fun y => z ((h a).mpr y))]
theorem map_set_fst {p : Addr} {c c' : Cell} : ∀ {O : Own} {k : Nat}, O[k]? = some (p, c) → (O.set k (p, c')).map (·.1) = O.map (·.1)
  | [], _, e => by simp at e
  | (q, d) :: O, 0, e => by
    have e2 : (q, d) = (p, c) := Option.some.inj e
    cases e2
    rfl
  | q :: O, k + 1, e => by
    show _ :: _ = _ :: _
    rw [map_set_fst (O := O) (k := k) (by simpa using e)]
theorem ad_set {k : Nat} {p : Addr} {c c' : Cell} (e : O[k]? = some (p, c)) : ad F (O.set k (p, c')) = ad F O := by
  unfold ad
  rw [map_set_fst e]
theorem nd_ix {γ : Type} {N : List γ} (hN : N.Nodup) {i j : Nat} {x : γ} (a : N[i]? = some x) (b : N[j]? = some x) : i = j := by
  obtain ⟨hi, ei⟩ := List.getElem?_eq_some_iff.mp a
  obtain ⟨hj, ej⟩ := List.getElem?_eq_some_iff.mp b
  exact (List.getElem_inj hN).mp (ei.trans ej.symm)
/-- the owned cell at p has been changed -/
theorem Hx.chg {H H' : Hp} {k : Nat} {p : Addr} {c c' : Cell} {o' : HO} (h : Hx F O H) (e : O[k]? = some (p, c)) (f : Frm [p] H H') (hp : H' p = some o') (ok : c'.ok (br F O H') o') :
    Hx F (O.set k (p, c')) H' ∧ Mv O (O.set k (p, c')) H H' := by
  have hm := List.mem_of_getElem? e
  have ea : ad F (O.set k (p, c')) = ad F O := ad_set e
  have hpad : p ∈ ad F O := List.mem_append_left _ (List.mem_map_of_mem hm)
  have sm : Same (br F O H) (br F O H') := fun b ob hb => by
    obtain ⟨h1, h2⟩ := bar_some.mp hb
    exact bar_some.mpr ⟨h1, f b ob h2 (fun z => h1 (by rw [List.mem_singleton.mp z]; exact hpad))⟩
  refine ⟨⟨fun q hq => ?_, by rw [map_set_fst e]; exact h.nd, fun q hq => ?_, fun q hq => ?_, fun b hb z => ?_, fun b ob hb hw => ?_⟩, ⟨fun b hb => by rw [map_set_fst e] at hb; exact hb, fun b ob hb hn => f b ob hb fun z => hn (by rw [List.mem_singleton.mp z]; exact List.mem_map_of_mem hm)⟩⟩
  · show ∃ o, H' q.1 = some o ∧ q.2.ok (bar H' (ad F (O.set k (p, c')))) o
    rw [ea]
    obtain ⟨j, hj⟩ := List.getElem?_of_mem hq
    rw [List.getElem?_set] at hj
    by_cases hjk : k = j
    · rw [if_pos hjk] at hj
      split at hj
      · cases hj
        exact ⟨o', hp, ok⟩
      · cases hj
    · rw [if_neg hjk] at hj
      obtain ⟨o, h1, h2⟩ := h.own q (List.mem_of_getElem? hj)
      have hne : q.1 ≠ p := fun z => by
        have nd := h.nd
        have e1 : (O.map (·.1))[j]? = some p := by rw [List.getElem?_map, hj]; show some q.1 = _; rw [z]
        have e2 : (O.map (·.1))[k]? = some p := by rw [List.getElem?_map, e]; rfl
        exact hjk (nd_ix nd e2 e1)
      exact ⟨o, f _ _ h1 (fun z => hne (List.mem_singleton.mp z)), q.2.mono sm h2⟩
  · have : q.1 ∈ (O.set k (p, c')).map (·.1) := List.mem_map_of_mem hq
    rw [map_set_fst e] at this
    obtain ⟨q', hq', e'⟩ := List.mem_map.mp this
    rw [← e']
    exact h.ndM q' hq'
  · have : q.1 ∈ (O.set k (p, c')).map (·.1) := List.mem_map_of_mem hq
    rw [map_set_fst e] at this
    obtain ⟨q', hq', e'⟩ := List.mem_map.mp this
    rw [← e']
    exact h.acc q' hq'
  · by_cases hbp : b = p
    · rw [hbp, hp] at z
      cases z
    · cases e0 : H b with
      | none => exact h.dom b hb e0
      | some ob =>
        rw [f b ob e0 (fun y => hbp (List.mem_singleton.mp y))] at z
        cases z
  · refine f b ob (h.keep b ob hb hw) fun z => ?_
    rw [List.mem_singleton.mp z] at hb hw
    rcases h.acc _ hm with y | y
    · exact hw y
    · rw [show F.H0 p = none from y] at hb
      cases hb
end
end TL
namespace TL
open PySem L2

section
variable {F : Fx} {O O1 O2 O3 O' : Own} {l l' : Lc} {α β γ ρ S : Type} {K : PySem.W.Frag}
  {ta tb tc te : TE} {t : Ty α} {u : Ty β} {w : Ty γ} {a : α} {b : β} {c : γ} {D : Ends} {P : ρ → Prop} {r : ρ}

/-! ### a call that changes an owned object -/
theorem Hx.ndX {H : Hp} {k : Nat} {p : Addr} {ce : Cell} (h : Hx F O H) (e : O[k]? = some (p, ce)) : p ∉ (O.eraseIdx k).map (·.1) ++ F.M := fun z => by
  rcases List.mem_append.mp z with z | z
  · obtain ⟨q, hq, e1⟩ := List.mem_map.mp z
    obtain ⟨j, hj⟩ := List.getElem?_of_mem hq
    rw [List.getElem?_eraseIdx] at hj
    have e2 : (O.map (·.1))[k]? = some p := by rw [List.getElem?_map, e]; rfl
    split at hj
    · rename_i hjk
      have e3 : (O.map (·.1))[j]? = some p := by rw [List.getElem?_map, hj]; show some q.1 = _; rw [e1]
      have := nd_ix h.nd e2 e3
      omega
    · rename_i hjk
      have e3 : (O.map (·.1))[j + 1]? = some p := by rw [List.getElem?_map, hj]; show some q.1 = _; rw [e1]
      have := nd_ix h.nd e2 e3
      omega
  · exact h.ndM _ (List.mem_of_getElem? e) z
theorem mem_erase {k : Nat} {p : Addr} {ce : Cell} (e : O[k]? = some (p, ce)) (b : Addr) : b ∈ p :: ((O.eraseIdx k).map (·.1) ++ F.M) ↔ b ∈ ad F O := by
  unfold ad
  constructor
  · intro h
    rcases List.mem_cons.mp h with h | h
    · rw [h]
      exact List.mem_append_left _ (List.mem_map_of_mem (List.mem_of_getElem? e))
    · rcases List.mem_append.mp h with h | h
      · obtain ⟨q, hq, e1⟩ := List.mem_map.mp h
        exact List.mem_append_left _ (e1 ▸ List.mem_map_of_mem (List.mem_of_mem_eraseIdx hq))
      · exact List.mem_append_right _ h
  · intro h
    rcases List.mem_append.mp h with h | h
    · obtain ⟨q, hq, e1⟩ := List.mem_map.mp h
      obtain ⟨j, hj⟩ := List.getElem?_of_mem hq
      by_cases hjk : j = k
      · rw [hjk, e] at hj
        have e2 : (p, ce) = q := Option.some.inj hj
        rw [← e1, ← e2]
        exact List.mem_cons_self
      · refine List.mem_cons_of_mem _ (List.mem_append_left _ (List.mem_map.mpr ⟨q, ?_, e1⟩))
        refine List.mem_of_getElem? (i := if j < k then j else j - 1) ?_
        rw [List.getElem?_eraseIdx]
        by_cases hlt : j < k
        · rw [if_pos hlt, if_pos hlt]
          exact hj
        · rw [if_neg hlt, if_neg (by omega), show j - 1 + 1 = j by omega]
          exact hj
    · exact List.mem_cons_of_mem _ (List.mem_append_right _ h)
theorem Ok.chg {H H' : Hp} {σ : St} {k : Nat} {p : Addr} {ce ce' : Cell} {o' : HO} (h : Ok F O l σ H) (e : O[k]? = some (p, ce)) (f : Frm [p] H H') (hp : H' p = some o') (ok : ce'.ok (br F O H') o') :
    Ok F (O.set k (p, ce')) l σ H' ∧ Mv O (O.set k (p, ce')) H H' := by
  obtain ⟨h1, h2⟩ := h.hx.chg e f hp ok
  obtain ⟨ws, hw⟩ := h.gh
  exact ⟨⟨h.sl.imp fun _ _ z => z.mono h2.same, ⟨ws, hw.imp fun _ _ z => z.mono h2.same⟩, h1⟩, h2⟩
theorem ev_callP {A : Type} {args : Addr → A → List Sl} {ca : A → Cell} {cc : S → Cell} {pre : A → Prop} {m : A → β × S} {tr : TA} {sls : List Sl} {E : XK} {p : Addr} {ce : Cell} (k : Nat) (a : A) {y : β × S} (hy : y = m a) (h : EvA F O l tr sls O1) (hk : O1[k]? = some (p, ce)) (hc : ce = ca a) (e : sls = args p a) (hp : pre a) :
    Ev F O l (tCall (spP args ca cc pre u m) [] E tr) u y.1 (O1.set k (p, cc y.2)) := fun σ H kk Q q =>
  h σ H kk _ fun vs H1 s1 k1 r1 => by
    subst e hc hy
    rw [List.append_nil]
    have eb : ∀ H : Hp, bar H (p :: ((O1.eraseIdx k).map (·.1) ++ F.M)) = br F O1 H := fun H => bar_congr (mem_erase hk)
    obtain ⟨o, ho, hok⟩ := own_at k1.hx hk
    refine ⟨(O1.eraseIdx k).map (·.1) ++ F.M, p, a, o, k1.hx.ndX hk, fun b hm => ?_, ho, by rw [eb]; exact hok, by rw [eb]; exact r1, hp, fun v H' o' fr ho' hok' hv => ?_⟩
    · exact k1.hx.adom b ((mem_erase hk b).mp (List.mem_cons_of_mem _ hm))
    · rw [eb] at hok' hv
      obtain ⟨k2, s2⟩ := k1.chg hk fr ho' hok'
      have ea : br F (O1.set k (p, cc (m a).2)) H' = br F O1 H' := by unfold br; rw [ad_set hk]
      exact q v H' (s1.trans s2) k2 (by rw [ea]; exact hv)

/-! ### slots forgotten -/
theorem wipe_set {σ : St} {i : Nat} {o : Option V} : ∀ {vs : List Nat}, i ∈ vs → L2.wipe (σ.set i o) vs = L2.wipe σ vs
  | [], h => by cases h
  | v :: vs, h => by
    show (L2.wipe (σ.set i o) vs).set v none = (L2.wipe σ vs).set v none
    by_cases hv : i ∈ vs
    · rw [wipe_set hv]
    · rcases List.mem_cons.mp h with e | e
      · rw [← e]
        have comm : ∀ {vs : List Nat}, i ∉ vs → L2.wipe (σ.set i o) vs = (L2.wipe σ vs).set i o := fun {vs} => by
          induction vs with
          | nil => intro _; rfl
          | cons v vs ih =>
            intro h
            show (L2.wipe (σ.set i o) vs).set v none = ((L2.wipe σ vs).set v none).set i o
            rw [ih (fun z => h (List.mem_cons_of_mem _ z))]
            exact List.set_comm _ _ (fun z => h (by rw [z]; exact List.mem_cons_self))
        rw [comm hv, List.set_set]
      · exact absurd e hv
theorem wipe_wipe {σ : St} : ∀ {vs : List Nat} (ws : List Nat), (∀ v ∈ ws, v ∈ vs) → L2.wipe (L2.wipe σ ws) vs = L2.wipe σ vs
  | vs, [], _ => rfl
  | vs, w :: ws, h => by
    show L2.wipe ((L2.wipe σ ws).set w none) vs = _
    rw [wipe_set (h w List.mem_cons_self), wipe_wipe ws fun v hv => h v (List.mem_cons_of_mem _ hv)]
/-! ### statements -/
/-- where P holds of r, the block ts may begin -/
def Bd (F : Fx) (O : Own) (l : Lc) (ts : TS) (D : Ends) {ρ : Type} (P : ρ → Prop) (r : ρ) : Prop := P r → ∀ σ H, Ok F O l σ H → ts D σ H
/-- returning a is what is wanted -/
def Rt (F : Fx) (O : Own) (t : Ty α) (a : α) (rt : VK) : Prop := ∀ l σ v H', Ok F O l σ H' → t.rp (br F O H') v a → rt v H'
/-- going on with these slots is what is wanted -/
def Nx (F : Fx) (O : Own) (l : Lc) (nx : St → Hp → Prop) : Prop := ∀ σ H, Ok F O l σ H → nx σ H
theorem b_eq {ts : TS} {r' : ρ} (e : r = r') (h : Bd F O l ts D P r') : Bd F O l ts D P r := e ▸ h
theorem b_seq {t1 t2 : TS} (h : Bd F O l t1 { D with nx := t2 D } P r) : Bd F O l (tSeq t1 t2) D P r := h
theorem b_next (h : P r → Nx F O l D.nx) : Bd F O l tNext D P r := fun p => h p
theorem b_cont (h : P r → Nx F O l D.ct) : Bd F O l tCont D P r := fun p => h p
theorem b_brk (h : P r → Nx F O l D.bk) : Bd F O l tBreak D P r := fun p => h p
theorem b_go {ts : TS} (h : Bd F O l ts D P r) : P r → Nx F O l (ts D) := h
theorem b_ret (he : Ev F O l te t a O1) (h : P r → Rt F O1 t a D.rt) : Bd F O l (tRet te) D P r := fun p σ H k => he σ H k _ fun v H1 s k1 r1 => h p l σ v H1 k1 r1
theorem b_retN (h : P r → Rt F O yN () D.rt) : Bd F O l tRetN D P r := fun p σ H k => h p l σ .non H k rfl
theorem b_if {tt : TT} {t1 t2 : TS} {p : Prop} [Decidable p] {r1 r2 : ρ} (ht : Tt F O l tt p O1) (h1 : p → Bd F O1 l t1 D P r1) (h2 : ¬ p → Bd F O1 l t2 D P r2) : Bd F O l (tIfS tt t1 t2) D P (if p then r1 else r2) := fun hr σ H k =>
  ht σ H k _ fun b H1 i s k1 => by
    cases b with
    | true =>
      have hp := i.mp rfl
      rw [if_pos hp] at hr
      exact h1 hp hr σ H1 k1
    | false =>
      have hp : ¬ p := fun y => by cases i.mpr y
      rw [if_neg hp] at hr
      exact h2 hp hr σ H1 k1
/-- a known answer -/
theorem b_ifT {tt : TT} {t1 t2 : TS} {p : Prop} (ht : Tt F O l tt p O1) (hp : p) (h1 : Bd F O1 l t1 D P r) : Bd F O l (tIfS tt t1 t2) D P r := fun hr σ H k =>
  ht σ H k _ fun b H1 i s k1 => by
    have e : b = true := i.mpr hp
    subst e
    exact h1 hr σ H1 k1
theorem b_ifF {tt : TT} {t1 t2 : TS} {p : Prop} (ht : Tt F O l tt p O1) (hp : ¬ p) (h1 : Bd F O1 l t2 D P r) : Bd F O l (tIfS tt t1 t2) D P r := fun hr σ H k =>
  ht σ H k _ fun b H1 i s k1 => by
    cases b with
    | true => exact absurd (i.mp rfl) hp
    | false => exact h1 hr σ H1 k1
/-- what a target does; is: its slots -/
def Tg (g : TG) (t : Ty α) (up : α → Lc → Lc) (is : List Nat) : Prop := ∀ (F : Fx) (O : Own) (l : Lc) (σ : St) (H : Hp) (v : V) (a : α), Ok F O l σ H → t.rp (br F O H) v a →
  ∀ Q : St → Hp → Prop, (∀ σ', (∀ vs, (∀ i ∈ is, i ∈ vs) → L2.wipe σ' vs = L2.wipe σ vs) → Ok F O (up a l) σ' H → Q σ' H) → g v σ H Q
theorem Ok.set {σ : St} {H : Hp} {v : V} (i : Nat) (k : Ok F O l σ H) (h : t.rp (br F O H) v a) : Ok F O (l.set i (.val t a)) (σ.set i (some v)) H := ⟨paired_set (show SlOk (br F O H) (some v) (.val t a) from ⟨v, rfl, h⟩) i k.sl, k.gh, k.hx⟩
theorem tg_name (i : Nat) : Tg (gName i) t (fun a l => l.set i (.val t a)) [i] := fun F O l σ H v a k h Q q => q _ (fun vs hv => wipe_set (hv i List.mem_cons_self)) (k.set i h)
theorem tg_pair {g1 g2 : TG} {up1 : α → Lc → Lc} {up2 : β → Lc → Lc} {i1 i2 : List Nat} (h1 : Tg g1 t up1 i1) (h2 : Tg g2 u up2 i2) : Tg (gTup K 2 (gCons g1 (gCons g2 gNil))) (yP t u) (fun x l => up2 x.2 (up1 x.1 l)) (i1 ++ i2) := fun F O l σ H v a k h Q q => by
  obtain ⟨p, x, y, e, hp, r1, r2⟩ := h
  exact ⟨p, [x, y], e, SqT.of (bar_some.mp hp).2, rfl, x, [y], rfl, h1 F O l σ H x a.1 k r1 _ fun σ1 w1 k1 => ⟨y, [], rfl, h2 F O _ σ1 H y a.2 k1 r2 _ fun σ2 w2 k2 => ⟨rfl, q σ2 (fun vs hv => (w2 vs fun i hi => hv i (List.mem_append_right _ hi)).trans (w1 vs fun i hi => hv i (List.mem_append_left _ hi))) k2⟩⟩⟩
theorem b_asg {g : TG} {up : α → Lc → Lc} {is : List Nat} {ts : TS} (he : Ev F O l te t a O1) (hg : Tg g t up is) (h : Bd F O1 (up a l) ts D P r) : Bd F O l (tSeq (tAsg te g) ts) D P r := fun hr σ H k =>
  he σ H k _ fun v H1 s k1 r1 => hg F O1 l σ H1 v a k1 r1 _ fun σ' _ k2 => h hr σ' H1 k2
theorem b_set {ts : TS} {i : Nat} (he : Ev F O l te t a O1) (h : Bd F O1 (l.set i (.val t a)) ts D P r) : Bd F O l (tSeq (tAsg te (gName i)) ts) D P r := b_asg he (tg_name i) h
theorem b_drop {ts : TS} (he : Ev F O l te t a O1) (h : Bd F O1 l ts D P r) : Bd F O l (tSeq (tDrop te) ts) D P r := fun hr σ H k =>
  he σ H k _ fun v H1 s k1 r1 => h hr σ H1 k1
theorem b_par {ts : TS} {i j : Nat} {tr : TA} (he : EvA F O l tr [.val t a, .val u b] O1) (h : Bd F O1 ((l.set i (.val t a)).set j (.val u b)) ts D P r) : Bd F O l (tSeq (tPar i j tr) ts) D P r := fun hr σ H k =>
  he σ H k _ fun vs H1 s k1 r1 => by
    cases r1 with
    | cons r1 r2 =>
      cases r2 with
      | cons r2 r3 =>
        cases r3
        exact ⟨_, _, rfl, h hr _ H1 ((k1.set i (slv r1)).set j (slv r2))⟩
/-- a new list of one's own -/
theorem Hx.own1 {H : Hp} {p : Addr} {ce : Cell} {o : HO} (h : Hx F O H) (np : H p = none) (n0 : F.H0 p = none) (ok : ce.ok (br F O H) o) : Hx F (O ++ [(p, ce)]) (upd H p o) ∧ Same (br F O H) (br F (O ++ [(p, ce)]) (upd H p o)) := by
  have nf := h.fresh np
  have ha : ∀ b, b ∈ ad F (O ++ [(p, ce)]) ↔ b = p ∨ b ∈ ad F O := fun b => by
    unfold ad
    rw [List.map_append, List.append_assoc]
    constructor
    · intro z
      rcases List.mem_append.mp z with z | z
      · exact .inr (List.mem_append_left _ z)
      · rcases List.mem_cons.mp z with z | z
        · exact .inl z
        · exact .inr (List.mem_append_right _ z)
    · rintro (z | z)
      · rw [z]
        exact List.mem_append_right _ List.mem_cons_self
      · rcases List.mem_append.mp z with z | z
        · exact List.mem_append_left _ z
        · exact List.mem_append_right _ (List.mem_cons_of_mem _ z)
  have sm : Same (br F O H) (br F (O ++ [(p, ce)]) (upd H p o)) := fun b ob hb => by
    obtain ⟨h1, h2⟩ := bar_some.mp hb
    have hne : b ≠ p := ne_of_none h2 np
    exact bar_some.mpr ⟨fun z => ((ha b).mp z).elim hne h1, by rw [upd_ne hne]; exact h2⟩
  refine ⟨⟨fun q hq => ?_, ?_, fun q hq => ?_, fun q hq => ?_, fun b hb z => ?_, fun b ob hb hw => Same.new np _ _ (h.keep b ob hb hw)⟩, sm⟩
  · rcases List.mem_append.mp hq with hq | hq
    · obtain ⟨o2, e2, k2⟩ := h.own q hq
      exact ⟨o2, Same.new np _ _ e2, q.2.mono sm k2⟩
    · rw [List.mem_singleton.mp hq]
      exact ⟨o, upd_same, ce.mono sm ok⟩
  · rw [List.map_append]
    refine List.nodup_append.mpr ⟨h.nd, List.nodup_cons.mpr ⟨List.not_mem_nil, List.nodup_nil⟩, fun x hx y hy e => ?_⟩
    rw [List.mem_singleton.mp hy] at e
    rw [e] at hx
    exact nf (List.mem_append_left _ hx)
  · rcases List.mem_append.mp hq with hq | hq
    · exact h.ndM q hq
    · rw [List.mem_singleton.mp hq]
      exact fun z => nf (List.mem_append_right _ z)
  · rcases List.mem_append.mp hq with hq | hq
    · exact h.acc q hq
    · rw [List.mem_singleton.mp hq]
      exact .inr n0
  · cases e0 : H b with
    | none => exact h.dom b hb e0
    | some ob =>
      rw [Same.new np _ _ e0] at z
      cases z
theorem b_own {ts : TS} {i : Nat} {xs : List α} (he : EvL F O l te t xs O1) (h : ∀ p : Addr, Bd F (O1 ++ [(p, cL t xs)]) (l.set i (.val (yV (.ref p)) ())) ts D P r) : Bd F O l (tSeq (tAsg te (gName i)) ts) D P r := fun hr σ H k =>
  he σ H k _ fun p vs H1 s k1 np n0 hl r1 => by
    obtain ⟨h2, s2⟩ := k1.hx.own1 (ce := cL t xs) (o := .lst vs) np n0 ⟨vs, rfl, hl, r1⟩
    obtain ⟨ws, hw⟩ := k1.gh
    have k2 : Ok F (O1 ++ [(p, cL t xs)]) l σ (upd H1 p (.lst vs)) := ⟨k1.sl.imp fun _ _ z => z.mono s2, ⟨ws, hw.imp fun _ _ z => z.mono s2⟩, h2⟩
    exact h p hr _ _ (k2.set (t := yV (.ref p)) (a := ()) i rfl)

/-! ### no longer one's own -/
theorem Hx.frz {H : Hp} {k : Nat} {p : Addr} {ce : Cell} (h : Hx F O H) (e : O[k]? = some (p, ce)) : Hx F (O.eraseIdx k) H ∧ Same (br F O H) (br F (O.eraseIdx k) H) ∧ p ∉ ad F (O.eraseIdx k) := by
  have sub : ∀ b ∈ ad F (O.eraseIdx k), b ∈ ad F O := fun b hb => (mem_erase e b).mp (List.mem_cons_of_mem _ hb)
  have sm : Same (br F O H) (br F (O.eraseIdx k) H) := bar_mono sub
  have m1 : ∀ q ∈ O.eraseIdx k, q ∈ O := fun q hq => List.mem_of_mem_eraseIdx hq
  refine ⟨⟨fun q hq => ?_, ?_, fun q hq => h.ndM q (m1 q hq), fun q hq => h.acc q (m1 q hq), h.dom, h.keep⟩, sm, h.ndX e⟩
  · obtain ⟨o, e1, k1⟩ := h.own q (m1 q hq)
    exact ⟨o, e1, q.2.mono sm k1⟩
  · exact h.nd.sublist ((List.eraseIdx_sublist O k).map _)
theorem Ok.frz {H : Hp} {σ : St} {k : Nat} {p : Addr} {ce : Cell} (h : Ok F O l σ H) (e : O[k]? = some (p, ce)) : Ok F (O.eraseIdx k) l σ H ∧ Same (br F O H) (br F (O.eraseIdx k) H) := by
  obtain ⟨h1, h2, _⟩ := h.hx.frz e
  obtain ⟨ws, hw⟩ := h.gh
  exact ⟨⟨h.sl.imp fun _ _ z => z.mono h2, ⟨ws, hw.imp fun _ _ z => z.mono h2⟩, h1⟩, h2⟩
/-- an owned list as a value: from now on it stays -/
theorem ev_frz {xs : List α} {p : Addr} (k : Nat) (he : Ev F O l te (yV (.ref p)) () O1) (hk : O1[k]? = some (p, cL t xs) := by rfl) : Ev F O l te (yL t) xs (O1.eraseIdx k) := fun σ H kk Q q =>
  he σ H kk _ fun v H1 s1 k1 r1 => by
    obtain ⟨k2, s2⟩ := k1.frz hk
    obtain ⟨o, ho, vs, e, hl, rr⟩ := own_at k1.hx hk
    subst e
    exact q v H1 (s1.trans ⟨fun b hb => let ⟨q, h1, h2⟩ := List.mem_map.mp hb; h2 ▸ List.mem_map_of_mem (List.mem_of_mem_eraseIdx h1), Frm.refl⟩) k2 ⟨p, vs, r1, bar_some.mpr ⟨(k1.hx.frz hk).2.2, ho⟩, hl, rr.imp fun _ _ z => t.mono s2 z⟩
/-- the i-th slot holds an owned list: from now on it stays -/
theorem b_frz {ts : TS} {xs : List α} {p : Addr} (i k : Nat) (hi : l.s[i]? = some (.val (yV (.ref p)) ()) := by rfl) (hk : O[k]? = some (p, cL t xs) := by rfl) (h : Bd F (O.eraseIdx k) (l.set i (.val (yL t) xs)) ts D P r) : Bd F O l ts D P r := fun hr σ H kk => by
  obtain ⟨k2, s2⟩ := kk.frz hk
  obtain ⟨o, ho, vs, e, hl, rr⟩ := own_at kk.hx hk
  subst e
  obtain ⟨o, e1, v, e2, rv⟩ := slot_of (σ := []) (i := 0) kk.sl hi
  have k3 := k2.set (t := yL t) (a := xs) (v := .ref p) i ⟨p, vs, rfl, bar_some.mpr ⟨(kk.hx.frz hk).2.2, ho⟩, hl, rr.imp fun _ _ z => t.mono s2 z⟩
  have e3 : σ.set i (some (.ref p)) = σ := by
    have rv' : v = .ref p := rv
    subst e2 rv'
    obtain ⟨hlt, e4⟩ := List.getElem?_eq_some_iff.mp e1
    rw [← e4]
    exact List.set_getElem_self hlt
  rw [e3] at k3
  exact h hr σ H k3
/-- forget an owned object -/
theorem b_forget {ts : TS} {p : Addr} {ce : Cell} (k : Nat) (hk : O[k]? = some (p, ce) := by rfl) (h : Bd F (O.eraseIdx k) l ts D P r) : Bd F O l ts D P r := fun hr σ H kk => h hr σ H (kk.frz hk).1
end
end TL
namespace TL
open PySem L2

/-! ### mirrors of loops -/
inductive Stp (S ρ : Type) where
  | go (s : S)
  | ret (r : ρ)
def Stp.out {S ρ : Type} (o : Stp S ρ) (k : S → ρ) : ρ := match o with
  | .go s => k s
  | .ret r => r
def Stp.bnd {S T ρ : Type} (o : Stp S ρ) (k : S → Stp T ρ) : Stp T ρ := match o with
  | .go s => k s
  | .ret r => .ret r
def forL {S ρ α : Type} (f : S → α → Stp S ρ) : List α → S → Stp S ρ
  | [], s => .go s
  | x :: xs, s => (f s x).bnd (forL f xs)
/-- n: more than the turns -/
def whileL {S ρ : Type} (c : S → Prop) [DecidablePred c] (f : S → Stp S ρ) : Nat → S → Stp S ρ
  | 0, s => .go s
  | n + 1, s => if c s then (f s).bnd (whileL c f n) else .go s
def mapS {S α β : Type} (f : S → α → β × S) : List α → S → List β × S
  | [], s => ([], s)
  | x :: xs, s => let y := f s x; let r := mapS f xs y.2; (y.1 :: r.1, r.2)

section
variable {F : Fx} {O O1 O2 O3 O' : Own} {l l' : Lc} {α β γ ρ S : Type} {K : PySem.W.Frag}
  {ta tb tc te : TE} {t : Ty α} {u : Ty β} {w : Ty γ} {a : α} {b : β} {c : γ} {D : Ends} {P : ρ → Prop} {r : ρ}

/-! ### less is known -/
def Sw (a b : Sl) : Prop := b = a ∨ b = .any
structure Wk (l l' : Lc) : Prop where
  s : A2 Sw l.s l'.s
  g : l'.g = l.g
theorem sw_ok {B : Hp} {o : Option V} {a b : Sl} (h : Sw a b) (k : SlOk B o a) : SlOk B o b := by
  rcases h with h | h
  · rw [h]; exact k
  · rw [h]; trivial
theorem wk_ok {B : Hp} : ∀ {σ : St} {s s' : List Sl}, A2 Sw s s' → A2 (SlOk B) σ s → A2 (SlOk B) σ s'
  | _, _, _, .nil, .nil => .nil
  | _, _, _, .cons h t, .cons k r => .cons (sw_ok h k) (wk_ok t r)
theorem Ok.wk {σ : St} {H : Hp} (h : Wk l l') (k : Ok F O l σ H) : Ok F O l' σ H := ⟨wk_ok h.s k.sl, by rw [h.g]; exact k.gh, k.hx⟩
theorem Nx.wk {nx : St → Hp → Prop} (h : Wk l l') (n : Nx F O l' nx) : Nx F O l nx := fun σ H k => n σ H (k.wk h)
theorem b_wk {ts : TS} (h : Wk l l') (n : Bd F O l' ts D P r) : Bd F O l ts D P r := fun p σ H k => n p σ H (k.wk h)
theorem Sw.refl (s : Sl) : Sw s s := .inl rfl
theorem Sw.any (s : Sl) : Sw s .any := .inr rfl
theorem a2_refl {R : Sl → Sl → Prop} (h : ∀ s, R s s) : ∀ l : List Sl, A2 R l l
  | [] => .nil
  | x :: l => .cons (h x) (a2_refl h l)
theorem Wk.refl (l : Lc) : Wk l l := ⟨a2_refl Sw.refl _, rfl⟩
theorem a2_appS {R : Option V → Sl → Prop} : ∀ {vs : List (Option V)} {xs : List Sl} {vs2 : List (Option V)} {xs2 : List Sl}, A2 R vs xs → A2 R vs2 xs2 → A2 R (vs ++ vs2) (xs ++ xs2)
  | _, _, _, _, .nil, h => h
  | _, _, _, _, .cons r h, h2 => .cons r (a2_appS h h2)
theorem a2_drop {R : Option V → Sl → Prop} : ∀ {gs : List Sl} {ws : List (Option V)} {g : List Sl}, A2 R ws (gs ++ g) → (∃ w1, A2 R w1 gs) ∧ ∃ w2, A2 R w2 g
  | [], ws, g, h => ⟨⟨[], .nil⟩, ⟨ws, h⟩⟩
  | x :: gs, _, g, .cons r h => let ⟨⟨w1, h1⟩, h2⟩ := a2_drop h; ⟨⟨_ :: w1, .cons r h1⟩, h2⟩
theorem Ok.push {σ : St} {H : Hp} {gs : List Sl} {ws : List (Option V)} (k : Ok F O l σ H) (h : A2 (SlOk (br F O H)) ws gs) : Ok F O (l.push gs) σ H :=
  let ⟨w2, h2⟩ := k.gh
  ⟨k.sl, ⟨ws ++ w2, a2_appS h h2⟩, k.hx⟩
theorem Ok.pop {σ : St} {H : Hp} {gs : List Sl} (k : Ok F O (l.push gs) σ H) : Ok F O l σ H :=
  let ⟨_, h⟩ := k.gh
  ⟨k.sl, (a2_drop h).2, k.hx⟩
theorem Ok.top {σ : St} {H : Hp} {gs : List Sl} (k : Ok F O (l.push gs) σ H) : ∃ ws, A2 (SlOk (br F O H)) ws gs :=
  let ⟨_, h⟩ := k.gh
  (a2_drop h).1
theorem Rt.push {rt : VK} (h : Rt F O t a rt) : Rt F O t a rt := h

/-! ### what is walked -/
structure ItOk (J : It) (t : Ty α) (xs : List α) (gs : List Sl) : Prop where
  ex : ∃ (G : Hp → Prop) (Y : Nat → Hp → V → Hp → Prop), Walk J xs.length G Y ∧ (∀ B H, Same B H → (∃ ws, A2 (SlOk B) ws gs) → G H) ∧
    (∀ (F : Fx) (O : Own) i H x H', Hx F O H → (∃ ws, A2 (SlOk (br F O H)) ws gs) → i < xs.length → Y i H x H' → Same H H' ∧ ∃ a, xs[i]? = some a ∧ t.rp (br F O H') x a)
/-- wi walks xs -/
def Iv (F : Fx) (O : Own) (l : Lc) (wi : TI) (t : Ty α) (xs : List α) (O' : Own) : Prop :=
  ∀ σ H, Ok F O l σ H → ∀ R : It → Hp → Prop, (∀ J H1 gs, Mv O O' H H1 → Ok F O' (l.push gs) σ H1 → ItOk J t xs gs → R J H1) → wi σ H R
def yLA {α : Type} (a : Addr) (t : Ty α) : Ty (List α) :=
  ⟨fun H v xs => v = .ref a ∧ ∃ vs, H a = some (.lst vs) ∧ A2 (t.rp H) vs xs, fun s ⟨e, vs, h, p⟩ => ⟨e, vs, s _ _ h, p.imp fun _ _ z => t.mono s z⟩⟩
def yTA {α : Type} (a : Addr) (t : Ty α) : Ty (List α) :=
  ⟨fun H v xs => v = .ref a ∧ ∃ vs, H a = some (.tup vs) ∧ A2 (t.rp H) vs xs, fun s ⟨e, vs, h, p⟩ => ⟨e, vs, s _ _ h, p.imp fun _ _ z => t.mono s z⟩⟩
theorem a2_get2 {R : V → α → Prop} {vs : List V} {xs : List α} {j : Nat} {v : V} (h : A2 R vs xs) (e : vs[j]? = some v) : ∃ x, xs[j]? = some x ∧ R v x := by
  have hj : j < xs.length := by rw [← h.length]; exact (List.getElem?_eq_some_iff.mp e).1
  obtain ⟨v', x, h1, h2, h3⟩ := a2_get h hj
  rw [e] at h1
  cases h1
  exact ⟨x, h2, h3⟩
/-- two walks over a list, of the same places -/
theorem itOk_seq {J : It} {a : Addr} {xs : List α} {gs : List Sl} {Y : List V → Nat → Hp → V → Hp → Prop} (pl : Nat → Nat) (ys : List α) (hy : ∀ i, i < ys.length → ys[i]? = xs[pl i]?) (hn : ys.length = xs.length)
    (vsOf : Hp → List V → Prop) (hg : ∀ B, (∃ ws, A2 (SlOk B) ws gs) → ∃ vs, vsOf B vs ∧ A2 (t.rp B) vs xs) (up : ∀ B H vs, Same B H → vsOf B vs → vsOf H vs) (un : ∀ H vs vs', vsOf H vs → vsOf H vs' → vs = vs')
    (goes : ∀ i H vs, i < xs.length → vs.length = xs.length → vsOf H vs → J.go i H) (stops : ∀ H vs, vs.length = xs.length → vsOf H vs → J.stop xs.length H)
    (yields : ∀ i H x H' vs, i < xs.length → vs.length = xs.length → vsOf H vs → J.yld i H x H' → H' = H ∧ vs[pl i]? = some x) : ItOk J t ys gs := by
  refine ⟨fun H => ∃ vs, vsOf H vs ∧ vs.length = xs.length, fun i H x H' => H' = H ∧ ∀ vs, vsOf H vs → vs.length = xs.length → vs[pl i]? = some x, ⟨?_, ?_, ?_⟩, ?_, ?_⟩
  · rintro i H hi ⟨vs, h1, h2⟩
    exact goes i H vs (by rw [← hn]; exact hi) h2 h1
  · rintro H ⟨vs, h1, h2⟩
    rw [hn]
    exact stops H vs h2 h1
  · rintro i H x H' hi ⟨vs, h1, h2⟩ hy'
    have := yields i H x H' vs (by rw [← hn]; exact hi) h2 h1 hy'
    exact ⟨this.1, fun vs' h3 h4 => by rw [un H vs' vs h3 h1]; exact this.2⟩
  · intro B H s hB
    obtain ⟨vs, h1, h2⟩ := hg B hB
    exact ⟨vs, up B H vs s h1, h2.length⟩
  · rintro F O i H x H' hx hB hi ⟨rfl, h⟩
    obtain ⟨vs, h1, h2⟩ := hg _ hB
    have h3 := h vs (up _ _ vs bar_sub h1) h2.length
    obtain ⟨z, e1, e2⟩ := a2_get2 h2 h3
    exact ⟨same_refl _, z, by rw [hy i hi]; exact e1, e2⟩
theorem sql_inj {H : Hp} {a : Addr} {xs : List V} {vs : List V} (h : H a = some (.lst vs)) (q : SqL K H a xs) (nk : K.lookup a = none) : vs = xs := by
  rcases q with (q | ⟨o, q⟩) | ⟨_, _, _, q, _⟩
  · rw [h] at q
    cases q
    rfl
  · rw [h] at q
    cases q
  · rw [nk] at q
    cases q
theorem ghost_l {B : Hp} {a : Addr} {xs : List α} (h : ∃ ws, A2 (SlOk B) ws [.val (yLA a t) xs]) : ∃ vs, B a = some (.lst vs) ∧ A2 (t.rp B) vs xs := by
  obtain ⟨ws, h⟩ := h
  cases h with
  | cons r h =>
    obtain ⟨v, _, _, vs, h1, h2⟩ := r
    exact ⟨vs, h1, h2⟩
theorem ghost_t {B : Hp} {a : Addr} {xs : List α} (h : ∃ ws, A2 (SlOk B) ws [.val (yTA a t) xs]) : ∃ vs, B a = some (.tup vs) ∧ A2 (t.rp B) vs xs := by
  obtain ⟨ws, h⟩ := h
  cases h with
  | cons r h =>
    obtain ⟨v, _, _, vs, h1, h2⟩ := r
    exact ⟨vs, h1, h2⟩
theorem itOk_list {a : Addr} {xs : List α} : ItOk (Itl K a) t xs [.val (yLA a t) xs] := by
  refine itOk_seq (Y := fun _ _ _ _ _ => True) (a := a) (fun i => i) xs (fun _ _ => rfl) rfl (fun H vs => H a = some (.lst vs)) (fun B h => ghost_l h) (fun B H vs s h => s _ _ h) (fun H vs vs' h1 h2 => by rw [h1] at h2; cases h2; rfl) ?_ ?_ ?_
  · intro i H vs hi hl hv
    exact ⟨vs, vs[i]'(by omega), SqL.of hv, by simp [show i < vs.length by omega]⟩
  · intro H vs hl hv
    exact ⟨vs, SqL.of hv, by omega⟩
  · intro i H x H' vs hi hl hv hy
    exact ⟨hy.1, hy.2 vs (SqL.of hv)⟩
theorem itOk_tup {a : Addr} {xs : List α} : ItOk (Itt K a) t xs [.val (yTA a t) xs] := by
  refine itOk_seq (Y := fun _ _ _ _ _ => True) (a := a) (fun i => i) xs (fun _ _ => rfl) rfl (fun H vs => H a = some (.tup vs)) (fun B h => ghost_t h) (fun B H vs s h => s _ _ h) (fun H vs vs' h1 h2 => by rw [h1] at h2; cases h2; rfl) ?_ ?_ ?_
  · intro i H vs hi hl hv
    exact ⟨vs, vs[i]'(by omega), SqT.of hv, by simp [show i < vs.length by omega]⟩
  · intro H vs hl hv
    exact ⟨vs, SqT.of hv, by omega⟩
  · intro i H x H' vs hi hl hv hy
    exact ⟨hy.1, hy.2 vs (SqT.of hv)⟩
theorem itOk_rev {a : Addr} {xs : List α} : ItOk (Itv K a xs.length) t xs.reverse [.val (yLA a t) xs] := by
  refine itOk_seq (Y := fun _ _ _ _ _ => True) (a := a) (fun i => xs.length - 1 - i) xs.reverse (fun i hi => by rw [List.length_reverse] at hi; rw [List.getElem?_reverse (by omega)]) (by simp) (fun H vs => H a = some (.lst vs)) (fun B h => ghost_l h) (fun B H vs s h => s _ _ h) (fun H vs vs' h1 h2 => by rw [h1] at h2; cases h2; rfl) ?_ ?_ ?_
  · intro i H vs hi hl hv
    exact ⟨hi, vs, vs[xs.length - 1 - i]'(by omega), SqL.of hv, by simp [show xs.length - 1 - i < vs.length by omega]⟩
  · intro H vs hl hv
    exact Nat.le_refl _
  · intro i H x H' vs hi hl hv hy
    exact ⟨hy.1, hy.2 vs (SqL.of hv)⟩
theorem iv_list {xs : List α} (he : Ev F O l te (yL t) xs O1) : Iv F O l (iList K te) t xs O1 := fun σ H k R q =>
  he σ H k _ fun v H1 s1 k1 r1 => by
    obtain ⟨p, vs, e, h, hl, r⟩ := r1
    exact ⟨p, e, ⟨vs, SqL.of (bar_some.mp h).2⟩, q _ H1 _ s1 (k1.push (gs := [.val (yLA p t) xs]) (ws := [some v]) (.cons (show SlOk _ (some v) (.val (yLA p t) xs) from ⟨v, rfl, e, vs, h, r⟩) .nil)) itOk_list⟩
theorem iv_tup {xs : List α} (he : Ev F O l te (yT t) xs O1) : Iv F O l (iTup K te) t xs O1 := fun σ H k R q =>
  he σ H k _ fun v H1 s1 k1 r1 => by
    obtain ⟨p, vs, e, h, hl, r⟩ := r1
    exact ⟨p, e, ⟨vs, SqT.of (bar_some.mp h).2⟩, q _ H1 _ s1 (k1.push (gs := [.val (yTA p t) xs]) (ws := [some v]) (.cons (show SlOk _ (some v) (.val (yTA p t) xs) from ⟨v, rfl, e, vs, h, r⟩) .nil)) itOk_tup⟩
theorem iv_rev {xs : List α} (he : Ev F O l te (yL t) xs O1) : Iv F O l (iRev K (tCons te tNil)) t xs.reverse O1 := fun σ H k R q =>
  he σ H k _ fun v H1 s1 k1 r1 => by
    obtain ⟨p, vs, e, h, hl, r⟩ := r1
    have en : vs.length = xs.length := r.length
    exact ⟨p, vs, by rw [e], SqL.of (bar_some.mp h).2, by rw [en]; exact q _ H1 _ s1 (k1.push (gs := [.val (yLA p t) xs]) (ws := [some v]) (.cons (show SlOk _ (some v) (.val (yLA p t) xs) from ⟨v, rfl, e, vs, h, r⟩) .nil)) itOk_rev⟩
/-- lo, lo + 1, .. (n of them) -/
def rng (lo : Int) (n : Nat) : List Int := (List.range n).map fun i => lo + (i : Nat)
theorem rng_length (lo : Int) (n : Nat) : (rng lo n).length = n := by unfold rng; simp
theorem itOk_rng {lo : Int} {n : Nat} : ItOk (Itr lo n) yI (rng lo n) [] := by
  refine ⟨fun _ => True, fun i H x H' => H' = H ∧ x = .int (lo + i), ?_, fun _ _ _ _ => trivial, fun F O i H x H' hx hB hi hy => ?_⟩
  · rw [rng_length]
    exact ⟨fun _ _ hi _ => hi, fun _ _ => Nat.le_refl _, fun _ _ _ _ _ _ y => y⟩
  · obtain ⟨rfl, e⟩ := hy
    rw [rng_length] at hi
    exact ⟨same_refl _, lo + i, by unfold rng; simp [hi], e⟩
theorem iv_rng1 {n : Int} (he : Ev F O l te yI n O1) (h1 : -(2 ^ 62) ≤ n) (h2 : n < 2 ^ 62) : Iv F O l (iRng1 (tCons te tNil)) yI (rng 0 n.toNat) O1 := fun σ H k R q =>
  he σ H k _ fun v H1 s1 k1 r1 => ⟨n, by rw [show v = _ from r1], h1, h2, q _ H1 [] s1 (k1.push (ws := []) .nil) itOk_rng⟩
theorem iv_rng2 {m n : Int} (he : Ev F O l te yI m O1) (he2 : Ev F O1 l ta yI n O2) (h1 : -(2 ^ 62) ≤ m) (h2 : m < 2 ^ 62) (h3 : -(2 ^ 62) ≤ n) (h4 : n < 2 ^ 62) : Iv F O l (iRng2 (tCons te (tCons ta tNil))) yI (rng m (n - m).toNat) O2 := fun σ H k R q =>
  he σ H k _ fun v H1 s1 k1 r1 => he2 σ H1 k1 _ fun v2 H2 s2 k2 r2 => ⟨m, n, by rw [show v = _ from r1, show v2 = _ from r2], ⟨h1, h2, h3, h4⟩, q _ H2 [] (s1.trans s2) (k2.push (ws := []) .nil) itOk_rng⟩

/-! ### for -/
theorem b_for {g : TG} {wi : TI} {tb rest : TS} {up : α → Lc → Lc} {is : List Nat} {xs : List α} {k : S → ρ} (f : S → α → Stp S ρ) (Os : S → Own) (Ls : S → Lc) (J : List α → S → Prop) (s0 : S)
    (hI : Iv F O l wi t xs O1) (hg : Tg g t up is) (hO : Os s0 = O1) (hl : Wk l (Ls s0)) (hJ0 : J [] s0)
    (hJ : ∀ pre x post s s', xs = pre ++ x :: post → J pre s → f s x = .go s' → J (pre ++ [x]) s')
    (hb : ∀ gs pre x post s, xs = pre ++ x :: post → J pre s → ∀ (N B : St → Hp → Prop) (P' : Stp S ρ → Prop), (∀ s', P' (.go s') → Nx F (Os s') ((Ls s').push gs) N) → (∀ r, P' (.ret r) → P r) →
      Bd F (Os s) (up x ((Ls s).push gs)) tb { D with nx := N, ct := N, bk := B } P' (f s x))
    (hk : ∀ s, J xs s → Bd F (Os s) (Ls s) rest D P (k s)) :
    Bd F O l (tSeq (tFor wi g tb) rest) D P ((forL f xs s0).out k) := fun hr σ H kk =>
  hI σ H kk _ fun Jt H1 gs s1 k1 it => by
    obtain ⟨G, Y, w, hG, hY⟩ := it.ex
    subst hO
    refine for_it w (D := { D with nx := rest D }) (fun i σ H => ∃ s, P ((forL f (xs.drop i) s).out k) ∧ J (xs.take i) s ∧ Ok F (Os s) ((Ls s).push gs) σ H)
      ⟨s0, hr, hJ0, ⟨wk_ok hl.s k1.sl, by show ∃ ws, A2 _ ws (gs ++ (Ls s0).g); rw [hl.g]; exact k1.gh, k1.hx⟩⟩ (fun i σ H _ ⟨s, _, _, k2⟩ => hG _ _ bar_sub k2.top) ?_ ?_
    · rintro i x σ H H' hi ⟨s, hP, hJs, k2⟩ hy
      obtain ⟨sm, z, hz, rz⟩ := hY F (Os s) i H x H' k2.hx k2.top hi hy
      have k3 := k2.grow sm
      have e1 : xs.drop i = z :: xs.drop (i + 1) := by
        obtain ⟨h1, h2⟩ := List.getElem?_eq_some_iff.mp hz
        rw [← h2]
        exact List.drop_eq_getElem_cons h1
      have e2 : xs = xs.take i ++ z :: xs.drop (i + 1) := by rw [← e1, List.take_append_drop]
      have e3 : xs.take (i + 1) = xs.take i ++ [z] := by
        rw [List.take_add_one, hz]
        rfl
      rw [e1] at hP
      have step : forL f (z :: xs.drop (i + 1)) s = (f s z).bnd (forL f (xs.drop (i + 1))) := rfl
      rw [step] at hP
      refine hg F (Os s) _ σ H' x z k3 rz _ fun σ' _ k4 => ?_
      refine hb gs (xs.take i) z (xs.drop (i + 1)) s e2 hJs _ _ (fun o => f s z = o) (fun s' hs' σ2 H2 k5 => ?_) (fun r hr' => ?_) rfl σ' H' k4
      · rw [hs'] at hP
        exact ⟨s', hP, by rw [e3]; exact hJ _ _ _ _ _ e2 hJs hs', k5⟩
      · rw [hr'] at hP
        exact hP
    · rintro σ H ⟨s, hP, hJs, k2⟩
      rw [List.drop_length] at hP
      rw [List.take_length] at hJs
      exact hk s hJs hP σ H k2.pop

/-! ### while -/
theorem whileL_stop {c : S → Prop} [DecidablePred c] {f : S → Stp S ρ} {s : S} (h : ¬ c s) : ∀ n, whileL c f n s = .go s
  | 0 => rfl
  | n + 1 => by unfold whileL; rw [if_neg h]
theorem whileL_step {c : S → Prop} [DecidablePred c] {f : S → Stp S ρ} {s : S} (h : c s) (n : Nat) : whileL c f (n + 1) s = (f s).bnd (whileL c f n) := by
  show (if c s then (f s).bnd (whileL c f n) else .go s) = _
  rw [if_pos h]
theorem b_while {tc : TT} {tb rest : TS} {k : S → ρ} (cn : S → Prop) [DecidablePred cn] (f : S → Stp S ρ) (Os : S → Own) (Ls : S → Lc) (J : S → Prop) (μ : S → Nat) (s0 : S)
    (hO : Os s0 = O) (hl : Wk l (Ls s0)) (hJ0 : J s0) (hc : ∀ s, J s → Tt F (Os s) (Ls s) tc (cn s) (Os s))
    (hJ : ∀ s s', J s → cn s → f s = .go s' → J s' ∧ μ s' < μ s)
    (hb : ∀ s, J s → cn s → ∀ (N B : St → Hp → Prop) (P' : Stp S ρ → Prop), (∀ s', P' (.go s') → Nx F (Os s') (Ls s') N) → (∀ r, P' (.ret r) → P r) →
      Bd F (Os s) (Ls s) tb { D with nx := N, ct := N, bk := B } P' (f s))
    (hk : ∀ s, J s → ¬ cn s → Bd F (Os s) (Ls s) rest D P (k s)) :
    Bd F O l (tSeq (tWhile tc tb) rest) D P ((whileL cn f (μ s0 + 1) s0).out k) := fun hr σ H kk => by
  subst hO
  refine ⟨fun m σ H => ∃ s n, m = μ s ∧ μ s < n ∧ P ((whileL cn f n s).out k) ∧ J s ∧ Ok F (Os s) (Ls s) σ H, ⟨_, s0, _, rfl, Nat.lt_succ_self _, hr, hJ0, kk.wk hl⟩, ?_⟩
  rintro m σ H ⟨s, n, rfl, hn, hP, hJs, k1⟩
  refine hc s hJs σ H k1 _ fun b H1 i s1 k2 => ?_
  cases b with
  | true =>
    have hcs := i.mp rfl
    obtain ⟨n', rfl⟩ : ∃ n', n = n' + 1 := ⟨n - 1, by omega⟩
    rw [whileL_step hcs] at hP
    rw [if_pos rfl]
    refine ⟨fun σ' H' => ∃ s', (J s' ∧ μ s' < μ s) ∧ f s = .go s' ∧ Ok F (Os s') (Ls s') σ' H', fun σ' H' ⟨s', ⟨h1, h2⟩, h3, k3⟩ => ⟨μ s', h2, s', n', rfl, by omega, ?_, h1, k3⟩, ?_⟩
    · rw [h3] at hP
      exact hP
    · refine hb s hJs hcs _ _ (fun o => f s = o) (fun s' hs' σ2 H2 k5 => ⟨s', hJ s s' hJs hcs hs', hs', k5⟩) (fun r hr' => ?_) rfl σ H1 k2
      rw [hr'] at hP
      exact hP
  | false =>
    have hcs : ¬ cn s := fun y => by cases i.mpr y
    rw [whileL_stop hcs] at hP
    exact hk s hJs hcs hP σ H1 k2
end
end TL
namespace TL
open PySem L2

/-! ### comprehensions -/
def Lc.wipe (l : Lc) : List Nat → Lc
  | [] => l
  | v :: vs => (l.wipe vs).set v .any
theorem wipe_ok {B : Hp} : ∀ {σ : St} {l : Lc} (vs : List Nat), A2 (SlOk B) σ l.s → A2 (SlOk B) (L2.wipe σ vs) (l.wipe vs).s
  | _, _, [], h => h
  | σ, l, v :: vs, h => paired_set (show SlOk B none .any from trivial) v (wipe_ok vs h)
theorem wipe_g {l : Lc} : ∀ vs : List Nat, (l.wipe vs).g = l.g
  | [] => rfl
  | v :: vs => wipe_g vs
theorem Ok.wipe {F : Fx} {O : Own} {l : Lc} {σ : St} {H : Hp} (k : Ok F O l σ H) (vs : List Nat) : Ok F O (l.wipe vs) (L2.wipe σ vs) H := ⟨wipe_ok vs k.sl, by rw [wipe_g]; exact k.gh, k.hx⟩
/-- one more that is others' -/
def Fx.more (F : Fx) (D : Addr) : Fx := ⟨F.H0, F.W, D :: F.M⟩
section
variable {F : Fx} {O O1 O2 O3 O' : Own} {l l' : Lc} {α β γ ρ S : Type} {K : PySem.W.Frag}
  {ta tb tc te : TE} {t : Ty α} {u : Ty β} {w : Ty γ} {a : α} {b : β} {c : γ} {D : Ends} {P : ρ → Prop} {r : ρ}
theorem ad_more {D : Addr} (b : Addr) : b ∈ ad (F.more D) O ↔ b = D ∨ b ∈ ad F O := by
  unfold ad Fx.more
  constructor
  · intro z
    rcases List.mem_append.mp z with z | z
    · exact .inr (List.mem_append_left _ z)
    · rcases List.mem_cons.mp z with z | z
      · exact .inl z
      · exact .inr (List.mem_append_right _ z)
  · rintro (z | z)
    · exact List.mem_append_right _ (by rw [z]; exact List.mem_cons_self)
    · rcases List.mem_append.mp z with z | z
      · exact List.mem_append_left _ z
      · exact List.mem_append_right _ (List.mem_cons_of_mem _ z)
/-- without what stands at D -/
def cut (H : Hp) (D : Addr) : Hp := fun b => if b = D then none else H b
theorem br_cut {H : Hp} {D : Addr} : br F O (cut H D) = br (F.more D) O H := by
  funext b
  unfold br bar cut
  by_cases h1 : b ∈ ad F O
  · rw [if_pos h1, if_pos ((ad_more b).mpr (.inr h1))]
  · by_cases h2 : b = D
    · rw [if_neg h1, if_pos h2, if_pos ((ad_more b).mpr (.inl h2))]
    · rw [if_neg h1, if_neg h2, if_neg fun z => ((ad_more b).mp z).elim h2 h1]
theorem upd_cut {H : Hp} {D : Addr} {o : HO} (h : H D = some o) : upd (cut H D) D o = H := by
  funext b
  unfold upd cut
  by_cases h2 : b = D
  · rw [if_pos h2, h2, h]
  · rw [if_neg h2, if_neg h2]
/-- from the context with a list under construction, back -/
theorem Hx.cut {H : Hp} {D : Addr} (h : Hx (F.more D) O H) (nD : D ∉ F.M) (n0 : F.H0 D = none) (nW : D ∉ F.W) : Hx F O (cut H D) := by
  have ne : ∀ q ∈ O, q.1 ≠ D := fun q hq z => h.ndM q hq (by rw [z]; exact List.mem_cons_self)
  refine ⟨fun q hq => ?_, h.nd, fun q hq z => h.ndM q hq (List.mem_cons_of_mem _ z), h.acc, fun b hb z => ?_, fun b ob hb hw => ?_⟩
  · obtain ⟨o, e, k⟩ := h.own q hq
    exact ⟨o, by unfold TL.cut; rw [if_neg (ne q hq)]; exact e, by rw [br_cut]; exact k⟩
  · unfold TL.cut at z
    by_cases h2 : b = D
    · rcases hb with y | y
      · exact nW (h2 ▸ y)
      · exact nD (h2 ▸ y)
    · rw [if_neg h2] at z
      exact h.dom b (hb.imp id fun y => List.mem_cons_of_mem _ y) z
  · have := h.keep b ob hb hw
    unfold TL.cut
    rw [if_neg (fun z => by rw [z, n0] at hb; cases hb)]
    exact this
theorem Hx.add {H : Hp} {D : Addr} {o : HO} (h : Hx F O H) (np : H D = none) : Hx (F.more D) O (upd H D o) ∧ Same (br F O H) (br (F.more D) O (upd H D o)) := by
  have nf := h.fresh np
  have sm : Same (br F O H) (br (F.more D) O (upd H D o)) := fun b ob hb => by
    obtain ⟨h1, h2⟩ := bar_some.mp hb
    have hne : b ≠ D := ne_of_none h2 np
    exact bar_some.mpr ⟨fun z => ((ad_more b).mp z).elim hne h1, by rw [upd_ne hne]; exact h2⟩
  refine ⟨⟨fun q hq => ?_, h.nd, fun q hq z => ?_, h.acc, fun b hb z => ?_, fun b ob hb hw => Same.new np _ _ (h.keep b ob hb hw)⟩, sm⟩
  · obtain ⟨o2, e2, k2⟩ := h.own q hq
    exact ⟨o2, Same.new np _ _ e2, q.2.mono sm k2⟩
  · rcases List.mem_cons.mp z with y | y
    · exact nf (List.mem_append_left _ (y ▸ List.mem_map_of_mem hq))
    · exact h.ndM q hq y
  · by_cases h2 : b = D
    · rw [h2, upd_same] at z
      cases z
    · rw [upd_ne h2] at z
      rcases hb with y | y
      · exact h.dom b (.inl y) z
      · rcases List.mem_cons.mp y with y | y
        · exact h2 y
        · exact h.dom b (.inr y) z
theorem Hx.updM {H : Hp} {D : Addr} {o : HO} (h : Hx F O H) (hM : D ∈ F.M) (n0 : F.H0 D = none) : Hx F O (upd H D o) := by
  have hD : D ∈ ad F O := List.mem_append_right _ hM
  refine ⟨fun q hq => ?_, h.nd, h.ndM, h.acc, fun b hb z => ?_, fun b ob hb hw => ?_⟩
  · obtain ⟨o2, e2, k2⟩ := h.own q hq
    have hne : q.1 ≠ D := fun z => h.ndM q hq (by rw [z]; exact hM)
    exact ⟨o2, by rw [upd_ne hne]; exact e2, by unfold br; rw [bar_upd hD]; exact k2⟩
  · by_cases h2 : b = D
    · rw [h2, upd_same] at z
      cases z
    · rw [upd_ne h2] at z
      exact h.dom b hb z
  · rw [upd_ne (fun z => by rw [z, n0] at hb; cases hb)]
    exact h.keep b ob hb hw
theorem cut_ne {H : Hp} {D b : Addr} (h : b ≠ D) : cut H D b = H b := by unfold cut; rw [if_neg h]
theorem cut_same {H : Hp} {D : Addr} : cut H D D = none := by unfold cut; rw [if_pos rfl]
theorem cut_upd {H : Hp} {D : Addr} {o : HO} : cut (upd H D o) D = cut H D := by
  funext b
  by_cases h : b = D
  · rw [h, cut_same, cut_same]
  · rw [cut_ne h, cut_ne h, upd_ne h]
/-- the items of a comprehension, with a state -/
def lcS (p : S → α → Bool) (f : S → α → β × S) : List α → S → List β × S
  | [], s => ([], s)
  | x :: xs, s => if p s x = true then ((f s x).1 :: (lcS p f xs (f s x).2).1, (lcS p f xs (f s x).2).2) else lcS p f xs s
theorem a2_snoc {R : V → β → Prop} : ∀ {vs : List V} {xs : List β} {v : V} {x : β}, A2 R vs xs → R v x → A2 R (vs ++ [v]) (xs ++ [x])
  | _, _, _, _, .nil, r => .cons r .nil
  | _, _, _, _, .cons q h, r => .cons q (a2_snoc h r)
theorem lc_gen {g : TG} {wi : TI} {tt : TT} {up : α → Lc → Lc} {is vs : List Nat} {xs : List α} (p : S → α → Bool) (f : S → α → β × S) (Os : S → Own) (s0 : S) (J : List α → S → Prop)
    (hI : Iv F O l wi t xs O1) (hg : Tg g t up is) (hw : ∀ i ∈ is, i ∈ vs) (hO : Os s0 = O1) (hn : xs.length ≤ sizeLine) (hJ0 : J [] s0)
    (hJ : ∀ pre x post s, xs = pre ++ x :: post → J pre s → J (pre ++ [x]) (if p s x = true then (f s x).2 else s))
    (ht : ∀ D gs pre x post s, xs = pre ++ x :: post → J pre s → Tt (F.more D) (Os s) (up x ((l.push gs).wipe vs)) tt (p s x = true) (Os s))
    (he : ∀ D gs pre x post s, xs = pre ++ x :: post → J pre s → p s x = true → Ev (F.more D) (Os s) (up x ((l.push gs).wipe vs)) te u (f s x).1 (Os (f s x).2)) :
    EvL F O l (tLc wi g tt te vs) u (lcS p f xs s0).1 (Os (lcS p f xs s0).2) := fun σ H kk Q q =>
  hI σ H kk _ fun Jt H1 gs s1 k1 it => by
    obtain ⟨G, Y, w, hG, hY⟩ := it.ex
    subst hO
    intro D hD
    have nf := k1.hx.fresh hD
    have n0 := k1.hx.fresh0 hD
    have nM : D ∉ F.M := fun z => nf (List.mem_append_right _ z)
    have nW : D ∉ F.W := fun z => k1.hx.dom D (.inl z) hD
    have inM : D ∈ (F.more D).M := List.mem_cons_self
    have inA : ∀ O : Own, D ∈ ad (F.more D) O := fun O => List.mem_append_right _ inM
    have notO : ∀ {O : Own} {H : Hp}, Hx (F.more D) O H → D ∉ O.map (·.1) := fun h z => by
      obtain ⟨q, hq, e⟩ := List.mem_map.mp z
      exact h.ndM q hq (by rw [e]; exact inM)
    obtain ⟨hx2, sm2⟩ := k1.hx.add (o := .lst []) hD
    have start : Ok (F.more D) (Os s0) (l.push gs) σ (upd H1 D (.lst [])) := ⟨k1.sl.imp fun _ _ z => z.mono sm2, let ⟨ws, z⟩ := k1.gh; ⟨ws, z.imp fun _ _ y => y.mono sm2⟩, hx2⟩
    refine lc_it w (fun i H => ∃ (s : S) (vsD : List V) (done : List β), (done ++ (lcS p f (xs.drop i) s).1, (lcS p f (xs.drop i) s).2) = lcS p f xs s0 ∧ J (xs.take i) s ∧ Ok (F.more D) (Os s) (l.push gs) σ H ∧
        H D = some (.lst vsD) ∧ vsD.length ≤ i ∧ A2 (u.rp (br (F.more D) (Os s) H)) vsD done ∧ Mv (Os s0) (Os s) H1 (cut H D))
      ⟨s0, [], [], rfl, hJ0, start, upd_same, Nat.le_refl _, .nil, ⟨fun _ h => h, fun b ob hb _ => by rw [cut_upd, cut_ne (ne_of_none hb hD)]; exact hb⟩⟩ (fun i H _ ⟨s, _, _, _, _, k2, _⟩ => hG _ _ bar_sub k2.top) ?_ ?_
    · rintro i x H H' hi ⟨s, vsD, done, hP, hJs, k2, hDv, hlen, hA, hM⟩ hy
      obtain ⟨sm, z, hz, rz⟩ := hY (F.more D) (Os s) i H x H' k2.hx k2.top hi hy
      have k3 := k2.grow sm
      have e1 : xs.drop i = z :: xs.drop (i + 1) := by
        obtain ⟨h1, h2⟩ := List.getElem?_eq_some_iff.mp hz
        rw [← h2]
        exact List.drop_eq_getElem_cons h1
      have e2 : xs = xs.take i ++ z :: xs.drop (i + 1) := by rw [← e1, List.take_append_drop]
      have e3 : xs.take (i + 1) = xs.take i ++ [z] := by
        rw [List.take_add_one, hz]
        rfl
      have hJ1 := hJ _ _ _ _ e2 hJs
      rw [e1] at hP
      have step : lcS p f (z :: xs.drop (i + 1)) s = if p s z = true then ((f s z).1 :: (lcS p f (xs.drop (i + 1)) (f s z).2).1, (lcS p f (xs.drop (i + 1)) (f s z).2).2) else lcS p f (xs.drop (i + 1)) s := rfl
      rw [step] at hP
      refine hg (F.more D) (Os s) _ _ H' x z (k3.wipe vs) rz _ fun σ2 w2 k4 => ⟨(w2 vs hw).trans (wipe_wipe vs (fun _ h => h)), ?_⟩
      refine ht D gs _ z _ s e2 hJs σ2 H' k4 _ fun bb H3 ib s3 k5 => ?_
      have m3 : Mv (Os s) (Os s) H H3 := (Mv.refl.grow sm).trans s3
      have move : ∀ {s' : S} {H4 : Hp}, Mv (Os s) (Os s') H H4 → Mv (Os s0) (Os s') H1 (cut H4 D) := fun {s' H4} m => ⟨fun b hb => hM.sub b (m.sub b hb), fun b ob hb hn => by
        have h5 := hM.frm b ob hb hn
        have hne : b ≠ D := ne_of_none hb hD
        rw [cut_ne hne] at h5
        rw [cut_ne hne]
        exact m.frm b ob h5 fun y => hn (hM.sub b y)⟩
      have back : ∀ {s' : S} {H4 : Hp}, Mv (Os s) (Os s') H H4 → Hx (F.more D) (Os s') H4 → Ok (F.more D) (Os s') (l.push gs) σ H4 := fun {s' H4} m h => ⟨k2.sl.imp fun _ _ y => y.mono m.same, let ⟨ws, y⟩ := k2.gh; ⟨ws, y.imp fun _ _ y => y.mono m.same⟩, h⟩
      cases bb with
      | true =>
        have hp := ib.mp rfl
        rw [if_pos rfl]
        rw [if_pos hp] at hP hJ1
        refine he D gs _ z _ s e2 hJs hp σ2 H3 k5 _ fun y H4 s4 k6 r6 => ?_
        have m4 := m3.trans s4
        have hD4 : H4 D = some (.lst vsD) := m4.frm D _ hDv (notO k2.hx)
        have eb : br (F.more D) (Os (f s z).2) (upd H4 D (.lst (vsD ++ [y]))) = br (F.more D) (Os (f s z).2) H4 := bar_upd (inA _)
        have k7 := back m4 k6.hx
        refine ⟨vsD, hD4, by omega, (f s z).2, vsD ++ [y], done ++ [(f s z).1], ?_, by rw [e3]; exact hJ1, ⟨by rw [eb]; exact k7.sl, by rw [eb]; exact k7.gh, k7.hx.updM inM n0⟩, upd_same, by rw [List.length_append, List.length_singleton]; omega, ?_, ?_⟩
        · rw [← hP, List.append_assoc]
          rfl
        · rw [eb]
          exact a2_snoc (hA.imp fun _ _ h => u.mono m4.same h) r6
        · rw [cut_upd]
          exact move m4
      | false =>
        have hp : ¬ p s z = true := fun y => by cases ib.mpr y
        rw [if_neg Bool.false_ne_true]
        rw [if_neg hp] at hP hJ1
        exact ⟨s, vsD, done, hP, by rw [e3]; exact hJ1, back m3 k5.hx, m3.frm D _ hDv (notO k2.hx), by omega, hA.imp fun _ _ h => u.mono m3.same h, move m3⟩
    · rintro H ⟨s, vsD, done, hP, hJs, k2, hDv, hlen, hA, hM⟩
      rw [List.drop_length] at hP
      have e1 : done = (lcS p f xs s0).1 := by rw [← hP]; show done = done ++ []; rw [List.append_nil]
      have e2 : s = (lcS p f xs s0).2 := by rw [← hP]; rfl
      have k3 := k2.pop
      have hc := k2.hx.cut nM n0 nW
      have fin := q D vsD (cut H D)
      rw [upd_cut hDv] at fin
      rw [← e1, ← e2] at fin
      exact fin (s1.trans hM) ⟨by rw [br_cut]; exact k3.sl, by rw [br_cut]; exact k3.gh, hc⟩ cut_same n0 (by omega) (by rw [br_cut]; exact hA)
/-- no test, no state -/
theorem lcS_map (f : α → β) : ∀ xs : List α, lcS (S := Unit) (fun _ _ => true) (fun _ x => (f x, ())) xs () = (xs.map f, ())
  | [] => rfl
  | x :: xs => by
    show (if true = true then (f x :: (lcS (S := Unit) (fun _ _ => true) (fun _ x => (f x, ())) xs ()).1, (lcS (S := Unit) (fun _ _ => true) (fun _ x => (f x, ())) xs ()).2) else _) = _
    rw [if_pos rfl, lcS_map f xs]
    rfl
theorem tt_yes : Tt F O l tYes True O := fun σ H k Q q => q true H ⟨fun _ => trivial, fun _ => rfl⟩ .refl k
theorem lc_map {g : TG} {wi : TI} {up : α → Lc → Lc} {is vs : List Nat} {xs : List α} (f : α → β) (hI : Iv F O l wi t xs O1) (hg : Tg g t up is) (hw : ∀ i ∈ is, i ∈ vs) (hn : xs.length ≤ sizeLine)
    (he : ∀ D gs x, x ∈ xs → Ev (F.more D) O1 (up x ((l.push gs).wipe vs)) te u (f x) O1) : EvL F O l (tLc wi g tYes te vs) u (xs.map f) O1 := by
  have h := lc_gen (S := Unit) (te := te) (u := u) (tt := tYes) (fun _ _ => true) (fun _ x => (f x, ())) (fun _ => O1) () (fun _ _ => True) hI hg hw rfl hn trivial (fun _ _ _ _ _ _ => trivial)
    (fun D gs pre x post s e _ => tt_iff tt_yes (by simp)) (fun D gs pre x post s e _ _ => he D gs x (by rw [e]; simp))
  rw [lcS_map] at h
  exact h
theorem lcS_filter (p : α → Bool) (f : α → β) : ∀ xs : List α, lcS (S := Unit) (fun _ x => p x) (fun _ x => (f x, ())) xs () = ((xs.filter p).map f, ())
  | [] => rfl
  | x :: xs => by
    show (if p x = true then (f x :: (lcS (S := Unit) (fun _ x => p x) (fun _ x => (f x, ())) xs ()).1, (lcS (S := Unit) (fun _ x => p x) (fun _ x => (f x, ())) xs ()).2) else lcS (S := Unit) (fun _ x => p x) (fun _ x => (f x, ())) xs ()) = _
    rw [lcS_filter p f xs]
    by_cases h : p x = true
    · rw [if_pos h, List.filter_cons_of_pos h]
      rfl
    · rw [if_neg h, List.filter_cons_of_neg h]
theorem lc_filter {g : TG} {wi : TI} {tt : TT} {up : α → Lc → Lc} {is vs : List Nat} {xs : List α} (p : α → Bool) (f : α → β) (hI : Iv F O l wi t xs O1) (hg : Tg g t up is) (hw : ∀ i ∈ is, i ∈ vs) (hn : xs.length ≤ sizeLine)
    (ht : ∀ D gs x, x ∈ xs → Tt (F.more D) O1 (up x ((l.push gs).wipe vs)) tt (p x = true) O1)
    (he : ∀ D gs x, x ∈ xs → p x = true → Ev (F.more D) O1 (up x ((l.push gs).wipe vs)) te u (f x) O1) : EvL F O l (tLc wi g tt te vs) u ((xs.filter p).map f) O1 := by
  have h := lc_gen (S := Unit) (te := te) (u := u) (tt := tt) (fun _ x => p x) (fun _ x => (f x, ())) (fun _ => O1) () (fun _ _ => True) hI hg hw rfl hn trivial (fun _ _ _ _ _ _ => trivial)
    (fun D gs pre x post s e _ => ht D gs x (by rw [e]; simp)) (fun D gs pre x post s e _ hp => he D gs x (by rw [e]; simp) hp)
  rw [lcS_filter] at h
  exact h
theorem lcS_st (f : S → α → β × S) : ∀ (xs : List α) (s : S), lcS (fun _ _ => true) f xs s = mapS f xs s
  | [], s => rfl
  | x :: xs, s => by
    show (if true = true then ((f s x).1 :: (lcS (fun _ _ => true) f xs (f s x).2).1, (lcS (fun _ _ => true) f xs (f s x).2).2) else _) = _
    rw [if_pos rfl, lcS_st f xs]
    rfl
theorem lc_st {g : TG} {wi : TI} {up : α → Lc → Lc} {is vs : List Nat} {xs : List α} (f : S → α → β × S) (Os : S → Own) (s0 : S) (J : List α → S → Prop) (hI : Iv F O l wi t xs O1) (hg : Tg g t up is) (hw : ∀ i ∈ is, i ∈ vs) (hO : Os s0 = O1) (hn : xs.length ≤ sizeLine)
    (hJ0 : J [] s0) (hJ : ∀ pre x post s, xs = pre ++ x :: post → J pre s → J (pre ++ [x]) (f s x).2)
    (he : ∀ D gs pre x post s, xs = pre ++ x :: post → J pre s → Ev (F.more D) (Os s) (up x ((l.push gs).wipe vs)) te u (f s x).1 (Os (f s x).2)) : EvL F O l (tLc wi g tYes te vs) u (mapS f xs s0).1 (Os (mapS f xs s0).2) := by
  have h := lc_gen (te := te) (u := u) (tt := tYes) (fun _ _ => true) f Os s0 J hI hg hw hO hn hJ0 (fun pre x post s e j => by rw [if_pos rfl]; exact hJ pre x post s e j)
    (fun D gs pre x post s e _ => tt_iff tt_yes (by simp)) (fun D gs pre x post s e j _ => he D gs pre x post s e j)
  rw [lcS_st] at h
  exact h

/-! ### what an owned list is asked and told -/
theorem ev_bm0 {T : String} {rl : V → List V → Hp → VK → Prop} {xs xs' : List α} {p : Addr} (k : Nat) (he : Ev F O l te (yV (.ref p)) () O1) (hT : T = "list") (hk : O1[k]? = some (p, cL t xs) := by rfl)
    (hr : ∀ H vs, A2 (t.rp (br F O1 H)) vs xs → vs.length ≤ sizeLine → H p = some (.lst vs) → ∀ Q : VK, (∀ v vs', vs'.length ≤ sizeLine → A2 (t.rp (br F O1 H)) vs' xs' → u.rp (br F O1 H) v b → Q v (upd H p (.lst vs'))) → rl (.ref p) [] H Q) :
    Ev F O l (tBM0 K T rl te) u b (O1.set k (p, cL t xs')) := fun σ H kk Q q =>
  he σ H kk _ fun v H1 s1 k1 r1 => by
    obtain ⟨o, ho, vs, e, hl, rr⟩ := own_at k1.hx hk
    subst e hT
    have r1' : v = .ref p := r1
    subst r1'
    have hpad : p ∈ ad F O1 := List.mem_append_left _ (List.mem_map_of_mem (List.mem_of_getElem? hk))
    refine ⟨Or.inl ⟨rfl, _, SqL.of ho⟩, hr H1 vs rr hl ho Q fun v vs' hl' h2 h3 => ?_⟩
    have eb : br F O1 (upd H1 p (.lst vs')) = br F O1 H1 := bar_upd hpad
    obtain ⟨k2, s2⟩ := k1.chg (ce' := cL t xs') (o' := .lst vs') hk (H' := upd H1 p (.lst vs')) (fun b ob hb hn => by rw [upd_ne (fun z => hn (by rw [z]; exact List.mem_singleton_self _))]; exact hb) upd_same ⟨vs', rfl, hl', by rw [eb]; exact h2⟩
    refine q v _ (s1.trans s2) k2 ?_
    have ea : br F (O1.set k (p, cL t xs')) (upd H1 p (.lst vs')) = br F O1 (upd H1 p (.lst vs')) := by unfold br; rw [ad_set hk]
    rw [ea, eb]
    exact h3
theorem ev_bm1 {T : String} {rl : V → List V → Hp → VK → Prop} {xs xs' : List α} {p : Addr} (k : Nat) {tx : TE} {x : γ} (he : Ev F O l te (yV (.ref p)) () O1) (hx : Ev F O1 l tx w x O2) (hT : T = "list") (hk : O2[k]? = some (p, cL t xs) := by rfl) (hk1 : (O1[k]?).isSome = true := by rfl)
    (hr : ∀ H vs y, A2 (t.rp (br F O2 H)) vs xs → vs.length ≤ sizeLine → H p = some (.lst vs) → w.rp (br F O2 H) y x → ∀ Q : VK, (∀ v vs', vs'.length ≤ sizeLine → A2 (t.rp (br F O2 H)) vs' xs' → u.rp (br F O2 H) v b → Q v (upd H p (.lst vs'))) → rl (.ref p) [y] H Q)
    (hO : ∃ ce, O1[k]? = some (p, ce) ∧ ∀ B o, ce.ok B o → ∃ vs, o = .lst vs) :
    Ev F O l (tBM K T rl te (tCons tx tNil)) u b (O2.set k (p, cL t xs')) := fun σ H kk Q q =>
  he σ H kk _ fun v H1 s1 k1 r1 => by
    obtain ⟨ce, hk0, hce⟩ := hO
    obtain ⟨o, ho, hok⟩ := own_at k1.hx hk0
    obtain ⟨vs0, e0⟩ := hce _ _ hok
    subst hT e0
    have r1' : v = .ref p := r1
    subst r1'
    refine ⟨Or.inl ⟨rfl, _, SqL.of ho⟩, hx σ H1 k1 _ fun y H2 s2 k2 r2 => ?_⟩
    obtain ⟨o, ho, vs, e, hl, rr⟩ := own_at k2.hx hk
    subst e
    have hpad : p ∈ ad F O2 := List.mem_append_left _ (List.mem_map_of_mem (List.mem_of_getElem? hk))
    refine hr H2 vs y rr hl ho r2 Q fun v vs' hl' h2 h3 => ?_
    have eb : br F O2 (upd H2 p (.lst vs')) = br F O2 H2 := bar_upd hpad
    obtain ⟨k3, s3⟩ := k2.chg (ce' := cL t xs') (o' := .lst vs') hk (H' := upd H2 p (.lst vs')) (fun b ob hb hn => by rw [upd_ne (fun z => hn (by rw [z]; exact List.mem_singleton_self _))]; exact hb) upd_same ⟨vs', rfl, hl', by rw [eb]; exact h2⟩
    refine q v _ ((s1.trans s2).trans s3) k3 ?_
    have ea : br F (O2.set k (p, cL t xs')) (upd H2 p (.lst vs')) = br F O2 (upd H2 p (.lst vs')) := by unfold br; rw [ad_set hk]
    rw [ea, eb]
    exact h3
theorem cL_isL {xs : List α} : ∀ B o, (cL t xs).ok B o → ∃ vs, o = .lst vs := fun _ _ ⟨vs, e, _⟩ => ⟨vs, e⟩
/-- found.append(x) -/
theorem ev_append {xs : List α} {x : α} {p : Addr} (k : Nat) {tx : TE} (he : Ev F O l te (yV (.ref p)) () O1) (hx : Ev F O1 l tx t x O2) (hl : xs.length < sizeLine) (hk : O2[k]? = some (p, cL t xs) := by rfl)
    (hO : ∃ ce, O1[k]? = some (p, ce) ∧ ∀ B o, ce.ok B o → ∃ vs, o = .lst vs := by exact ⟨_, rfl, cL_isL⟩) : Ev F O l (tBM K "list" rAppend te (tCons tx tNil)) yN () (O2.set k (p, cL t (xs ++ [x]))) :=
  ev_bm1 (xs := xs) k he hx rfl hk (by obtain ⟨ce, h, _⟩ := hO; rw [h]; rfl) (fun H vs y h1 h2 h3 h4 Q q => ⟨p, vs, y, rfl, rfl, h3, by rw [h1.length]; exact hl, q .non (vs ++ [y]) (by rw [List.length_append, List.length_singleton, h1.length]; omega) (a2_snoc h1 h4) rfl⟩) hO
theorem a2_erase {R : V → α → Prop} : ∀ {vs : List V} {xs : List α} (i : Nat), A2 R vs xs → A2 R (vs.eraseIdx i) (xs.eraseIdx i)
  | _, _, _, .nil => .nil
  | _, _, 0, .cons _ h => h
  | _, _, i + 1, .cons r h => .cons r (a2_erase i h)
/-- pool.pop(0) -/
theorem ev_pop0 {xs : List α} {x : α} {p : Addr} (k : Nat) (he : Ev F O l te (yV (.ref p)) () O1) (hk : O1[k]? = some (p, cL t (x :: xs)) := by rfl) : Ev F O l (tBM K "list" rPopAt te (tCons (tC (.int 0)) tNil)) t x (O1.set k (p, cL t xs)) :=
  ev_bm1 (xs := x :: xs) k he ev_int rfl hk (by rw [hk]; rfl) (fun H vs y h1 h2 h3 h4 Q q => by
    cases h1 with
    | cons r h =>
      rename_i v vs
      refine ⟨p, v :: vs, 0, 0, v, rfl, by rw [show y = _ from h4], h3, by decide, by decide, (by unfold seqIndex?; simp <;> omega), rfl, ?_⟩
      exact q v vs (by have := h2; rw [List.length_cons] at this; omega) h r) ⟨_, hk, cL_isL⟩
/-- found.pop() -/
theorem a2_last {R : V → α → Prop} {x : α} : ∀ {vs : List V} {xs : List α}, A2 R vs (xs ++ [x]) → ∃ vs0 v, vs = vs0 ++ [v] ∧ A2 R vs0 xs ∧ R v x
  | _, [], .cons r .nil => ⟨[], _, rfl, .nil, r⟩
  | _, y :: xs, .cons r h => by
    obtain ⟨vs0, v, e, h1, h2⟩ := a2_last h
    exact ⟨_ :: vs0, v, by rw [e]; rfl, .cons r h1, h2⟩
theorem ev_pop {xs : List α} {x : α} {p : Addr} (k : Nat) (he : Ev F O l te (yV (.ref p)) () O1) (hk : O1[k]? = some (p, cL t (xs ++ [x]))) : Ev F O l (tBM0 K "list" rPop te) t x (O1.set k (p, cL t xs)) :=
  ev_bm0 (xs := xs ++ [x]) k he rfl hk fun H vs h1 h2 h3 Q q => by
    obtain ⟨vs0, v, e, h4, h5⟩ := a2_last h1
    subst e
    refine ⟨p, vs0 ++ [v], v, rfl, rfl, h3, by simp, ?_⟩
    rw [List.dropLast_concat]
    exact q v vs0 (by rw [List.length_append, List.length_singleton] at h2; omega) h4 h5
/-- found[i] = x -/
def setI {α : Type} (xs : List α) (i : Int) (x : α) : List α := match ixN xs.length i with
  | some j => xs.set j x
  | none => xs
theorem a2_set {R : V → α → Prop} {v : V} {x : α} (r : R v x) : ∀ {vs : List V} {xs : List α} (j : Nat), A2 R vs xs → A2 R (vs.set j v) (xs.set j x)
  | _, _, _, .nil => .nil
  | _, _, 0, .cons _ h => .cons r h
  | _, _, j + 1, .cons q h => .cons q (a2_set r j h)
theorem b_setI {ts : TS} {tv to ti : TE} {xs : List α} {x : α} {i : Int} {p : Addr} (k : Nat) (hv : Ev F O l tv t x O1) (ho : Ev F O1 l to (yV (.ref p)) () O2) (hi : Ev F O2 l ti yI i O3) (hb : Inb xs i) (hk : O3[k]? = some (p, cL t xs))
    (h : Bd F (O3.set k (p, cL t (setI xs i x))) l ts D P r) : Bd F O l (tSeq (tAsg tv (gSub to ti rSetL)) ts) D P r := fun hr σ H kk =>
  hv σ H kk _ fun v H1 s1 k1 r1 => ho σ H1 k1 _ fun o H2 s2 k2 r2 => hi σ H2 k2 _ fun iv H3 s3 k3 r3 => by
    obtain ⟨ob, hob, vs, e, hl, rr⟩ := own_at k3.hx hk
    subst e
    obtain ⟨j, hj, hlt⟩ := ixN_of hb
    have hj' : ixN vs.length i = some j := by rw [rr.length]; exact hj
    have hpad : p ∈ ad F O3 := List.mem_append_left _ (List.mem_map_of_mem (List.mem_of_getElem? hk))
    have eb : br F O3 (upd H3 p (.lst (vs.set j v))) = br F O3 H3 := bar_upd hpad
    refine ⟨p, vs, i, j, r2, r3, hob, hj', ?_⟩
    have es : setI xs i x = xs.set j x := by unfold setI; rw [hj]
    obtain ⟨k4, s4⟩ := k3.chg (ce' := cL t (setI xs i x)) (o' := .lst (vs.set j v)) hk (H' := upd H3 p (.lst (vs.set j v))) (fun b ob hb hn => by rw [upd_ne (fun z => hn (by rw [z]; exact List.mem_singleton_self _))]; exact hb) upd_same
      ⟨vs.set j v, rfl, by rw [List.length_set]; exact hl, by rw [eb, es]; exact a2_set (t.mono (s2.trans s3).same r1) j rr⟩
    exact h hr σ _ k4
end
end TL
namespace TL
open PySem L2

/-! ### from a body to a def -/
section
variable {α β γ ρ S A : Type} {K : PySem.W.Frag}
theorem start_ok {B : Hp} {N : List Str} : ∀ {vs : List V} {sls : List Sl}, AOk B vs sls → A2 (SlOk B) (L2.start N vs) (sls ++ List.replicate (N.length - sls.length) .any) := fun {vs sls} h => by
  unfold L2.start
  have hl : vs.length = sls.length := A2.length h
  rw [hl]
  refine a2_appS ?_ ?_
  · clear hl
    induction h with
    | nil => exact .nil
    | cons r _ ih => exact .cons r ih
  · generalize N.length - sls.length = n
    induction n with
    | zero => exact .nil
    | succ n ih => exact .cons trivial ih
/-- the slots ahead of the body -/
def slots (sls : List Sl) (n : Nat) : Lc := ⟨sls ++ List.replicate (n - sls.length) .any, []⟩
def ends (rt : VK) : Ends := { nx := fun _ H' => rt .non H', rt := rt }
theorem nx_end {F : Fx} {O : Own} {l : Lc} {rt : VK} (h : Rt F O yN () rt) : Nx F O l (ends rt).nx := fun σ H k => h l σ .non H k rfl
/-- every way out with this value -/
def Outs (F : Fx) (u : Ty β) (rt : VK) (b : β) : Prop := ∀ O, Rt F O u b rt
theorem run_F {args : A → List Sl} {pre : A → Prop} {u : Ty β} {f : A → β} {N : List Str} {tf : TS}
    (hb : ∀ F a rt, pre a → Bd F [] (slots (args a) N.length) tf (ends rt) (Outs F u rt) (f a)) : ∀ vs H Q E, spF args pre u f vs H Q E → tf (ends Q) (L2.start N vs) H := by
  rintro vs H Q E ⟨M, a, hM, hA, hp, hQ⟩
  refine hb ⟨H, [], M⟩ a Q hp (fun O l σ v H' k r => hQ v H' (fun b o h => k.hx.keep b o h List.not_mem_nil) (u.mono (bar_mono fun b hb => List.mem_append_right _ hb) r)) _ H ⟨?_, ⟨[], .nil⟩, ?_⟩
  · exact start_ok hA
  · exact ⟨fun q hq => (by cases hq), List.nodup_nil, fun q hq => (by cases hq), fun q hq => (by cases hq), fun b hb => hM b (hb.elim (fun z => by cases z) id), Frm.refl⟩
def OutsP (F : Fx) (p : Addr) (cc : S → Cell) (u : Ty β) (rt : VK) (r : β × S) : Prop := ∀ O, Rt F ((p, cc r.2) :: O) u r.1 rt
theorem run_P {args : Addr → A → List Sl} {c : A → Cell} {cc : S → Cell} {pre : A → Prop} {u : Ty β} {m : A → β × S} {N : List Str} {tf : TS}
    (hb : ∀ F p a rt, pre a → Bd F [(p, c a)] (slots (args p a) N.length) tf (ends rt) (OutsP F p cc u rt) (m a)) : ∀ vs H Q E, spP args c cc pre u m vs H Q E → tf (ends Q) (L2.start N vs) H := by
  rintro vs H Q E ⟨M, p, a, o, hpM, hM, hp0, hc, hA, hp, hQ⟩
  refine hb ⟨H, [p], M⟩ p a Q hp (fun O l σ v H' k r => ?_) _ H ⟨?_, ⟨[], .nil⟩, ?_⟩
  · obtain ⟨o', e, hok⟩ := k.hx.own _ List.mem_cons_self
    have sub : ∀ b ∈ p :: M, b ∈ ad ⟨H, [p], M⟩ ((p, cc (m a).2) :: O) := fun b hb => by
      rcases List.mem_cons.mp hb with z | z
      · rw [z]
        exact List.mem_append_left _ List.mem_cons_self
      · exact List.mem_append_right _ z
    exact hQ v H' o' k.hx.keep e (Cell.mono _ (bar_mono sub) hok) (u.mono (bar_mono sub) r)
  · exact start_ok hA
  · exact ⟨fun q hq => by rw [List.mem_singleton.mp hq]; exact ⟨o, hp0, hc⟩, List.nodup_cons.mpr ⟨List.not_mem_nil, List.nodup_nil⟩, fun q hq => by rw [List.mem_singleton.mp hq]; exact hpM, fun q hq => by rw [List.mem_singleton.mp hq]; exact .inl List.mem_cons_self,
      fun b hb z => hb.elim (fun y => by rw [List.mem_singleton.mp y, hp0] at z; cases z) (fun y => hM b y z), Frm.refl⟩

/-! ### defs that may raise one exception (none: raised) -/
def spO (args : A → List Sl) (pre : A → Prop) (u : Ty β) (cls : Value) (f : A → Option β) : Sp := fun vs H Q E =>
  ∃ (M : List Addr) (a : A), (∀ m ∈ M, H m ≠ none) ∧ AOk (bar H M) vs (args a) ∧ pre a ∧ (∀ b, f a = some b → ∀ v H', Same H H' → u.rp (bar H' M) v b → Q v H') ∧ (f a = none → ∀ H', Same H H' → E cls none H')
/-- raising is what is wanted -/
def Rx (F : Fx) (cls : Value) (E : XK) : Prop := ∀ O l σ H', Ok F O l σ H' → E cls none H'
def OutsO (F : Fx) (u : Ty β) (cls : Value) (rt : VK) (E : XK) (r : Option β) : Prop := (∀ b, r = some b → Outs F u rt b) ∧ (r = none → Rx F cls E)
theorem run_O {args : A → List Sl} {pre : A → Prop} {u : Ty β} {cls : Value} {f : A → Option β} {N : List Str} {tf : TS} {E : XK}
    (hb : ∀ F a rt, pre a → Bd F [] (slots (args a) N.length) tf (ends rt) (OutsO F u cls rt E) (f a)) : ∀ vs H Q, spO args pre u cls f vs H Q E → tf (ends Q) (L2.start N vs) H := by
  rintro vs H Q ⟨M, a, hM, hA, hp, hQ, hX⟩
  refine hb ⟨H, [], M⟩ a Q hp ⟨fun b e O l σ v H' k r => hQ b e v H' (fun b o h => k.hx.keep b o h List.not_mem_nil) (u.mono (bar_mono fun b hb => List.mem_append_right _ hb) r), fun e O l σ H' k => hX e H' fun b o h => k.hx.keep b o h List.not_mem_nil⟩ _ H ⟨?_, ⟨[], .nil⟩, ?_⟩
  · exact start_ok hA
  · exact ⟨fun q hq => (by cases hq), List.nodup_nil, fun q hq => (by cases hq), fun q hq => (by cases hq), fun b hb => hM b (hb.elim (fun z => by cases z) id), Frm.refl⟩
end

section
variable {F : Fx} {O O1 O2 O3 O' : Own} {l l' : Lc} {α β γ ρ S A : Type} {K : PySem.W.Frag}
  {ta tb tc te : TE} {t : Ty α} {u : Ty β} {w : Ty γ} {a : α} {b : β} {c : γ} {D : Ends} {P : ρ → Prop} {r : ρ}
/-- a call that does not raise -/
theorem ev_callO {args : A → List Sl} {pre : A → Prop} {cls : Value} {f : A → Option β} {tr : TA} {sls : List Sl} {E : XK} (a : A) (h : EvA F O l tr sls O') (e : sls = args a) (hp : pre a) (hv : f a = some b) : Ev F O l (tCall (spO args pre u cls f) [] E tr) u b O' := fun σ H k Q q =>
  h σ H k _ fun vs H1 s1 k1 r1 => by
    subst e
    rw [List.append_nil]
    refine ⟨ad F O', a, k1.hx.adom, r1, hp, fun b' e v H' s r => ?_, fun e => ?_⟩
    · rw [hv] at e
      cases e
      exact q v H' (s1.grow s) (k1.grow s) r
    · rw [hv] at e
      cases e
/-- return f(..), f may raise -/
theorem b_retO {args : A → List Sl} {pre : A → Prop} {cls : Value} {f : A → Option β} {tr : TA} {sls : List Sl} {E : XK} (a : A) (h : EvA F O l tr sls O') (e : sls = args a) (hp : pre a)
    (hv : P r → ∀ b, f a = some b → Rt F O' u b D.rt) (hx : P r → f a = none → Rx F cls E) : Bd F O l (tRet (tCall (spO args pre u cls f) [] E tr)) D P r := fun hr σ H k =>
  h σ H k _ fun vs H1 s1 k1 r1 => by
    subst e
    rw [List.append_nil]
    exact ⟨ad F O', a, k1.hx.adom, r1, hp, fun b' e v H' s r => hv hr b' e l σ v H' (k1.grow s) r, fun e H' s => hx hr e O' l σ H' (k1.grow s)⟩
/-- raise C() -/
theorem b_raise {E : XK} {cls : Value} (h : P r → Rx F cls E) : Bd F O l (fun _ σ H => E cls none H) D P r := fun hr σ H k => h hr O l σ H k

/-! ### objects -/
def fldsOk (B : Hp) (ns : List Str) (vs : List (Str × V)) (sls : List Sl) : Prop := vs.map (·.1) = ns ∧ A2 (fun (p : Str × V) s => SlOk B (some p.2) s) vs sls
theorem fldsOk.mono {B B' : Hp} {ns : List Str} {vs : List (Str × V)} {sls : List Sl} (s : Same B B') (h : fldsOk B ns vs sls) : fldsOk B' ns vs sls := ⟨h.1, h.2.imp fun _ _ z => z.mono s⟩
/-- an instance of the class at C, its attributes -/
def yO (C : Addr) (ns : List Str) (sl : α → List Sl) : Ty α :=
  ⟨fun H v x => ∃ a dx vs, v = .ref a ∧ H a = some (.ins C dx vs) ∧ fldsOk H ns vs (sl x), fun s ⟨a, dx, vs, e, h, k⟩ => ⟨a, dx, vs, e, s _ _ h, k.mono s⟩⟩
def cO (C : Addr) (ns : List Str) (sl : List Sl) : Cell :=
  ⟨fun H o => ∃ dx vs, o = .ins C dx vs ∧ fldsOk H ns vs sl, fun s ⟨dx, vs, e, k⟩ => ⟨dx, vs, e, k.mono s⟩⟩
theorem fld_at {B : Hp} {f : Str} {s : Sl} : ∀ {vs : List (Str × V)} {ns : List Str} {sls : List Sl} {i : Nat}, fldsOk B ns vs sls → ns.Nodup → ns[i]? = some f → sls[i]? = some s → ∃ v, vs.lookup f = some v ∧ SlOk B (some v) s
  | [], ns, _, i, h, _, e, _ => by
    rw [← h.1] at e
    simp at e
  | (n, v) :: vs, ns, sls, i, ⟨h1, h2⟩, hn, e, e2 => by
    subst h1
    cases h2 with
    | cons q h2 =>
      cases i with
      | zero =>
        have e' : n = f := Option.some.inj e
        have e2' := Option.some.inj e2
        subst e' e2'
        exact ⟨v, by simp, q⟩
      | succ i =>
        have hne : f ≠ n := fun z => (List.nodup_cons.mp hn).1 (by rw [← z]; exact List.mem_of_getElem? (by simpa using e))
        obtain ⟨v', h3, h4⟩ := fld_at (vs := vs) (i := i) ⟨rfl, h2⟩ (List.nodup_cons.mp hn).2 (by simpa using e) (by simpa using e2)
        exact ⟨v', by rw [List.lookup_cons]; rw [show (f == n) = false from by simp [hne]]; exact h3, h4⟩
theorem fld_none {B : Hp} {f : Str} : ∀ {vs : List (Str × V)} {ns : List Str} {sls : List Sl}, fldsOk B ns vs sls → f ∉ ns → vs.lookup f = none
  | [], _, _, _, _ => rfl
  | (n, v) :: vs, ns, sls, ⟨h1, h2⟩, hn => by
    subst h1
    cases h2 with
    | cons q h2 =>
      have hne : f ≠ n := fun z => hn (by rw [z]; exact List.mem_cons_self)
      rw [List.lookup_cons, show (f == n) = false from by simp [hne]]
      exact fld_none ⟨rfl, h2⟩ fun z => hn (List.mem_cons_of_mem _ z)
theorem ev_fld {C : Addr} {ns : List Str} {sl : α → List Sl} {f : Str} (i : Nat) {x : α} (he : Ev F O l te (yO C ns sl) x O1) (hc : Cls K C) (ha : NoAttr K C f) (hn : ns.Nodup) (hi : ns[i]? = some f) (hs : (sl x)[i]? = some (.val u b)) : Ev F O l (tFld K te f) u b O1 := fun σ H k Q q =>
  he σ H k _ fun v H1 s1 k1 r1 => by
    obtain ⟨p, dx, vs, e, hp, hk⟩ := r1
    obtain ⟨z, h1, h2⟩ := fld_at hk hn hi hs
    exact ⟨p, C, dx, vs, z, e, (bar_some.mp hp).2, hc, ha, h1, q z H1 s1 k1 (slv h2)⟩
theorem ev_fldO {C : Addr} {ns : List Str} {sl : List Sl} {f : Str} (i : Nat) {p : Addr} (kk : Nat) (he : Ev F O l te (yV (.ref p)) () O1) (hk : O1[kk]? = some (p, cO C ns sl)) (hc : Cls K C) (ha : NoAttr K C f) (hn : ns.Nodup) (hi : ns[i]? = some f) (hs : sl[i]? = some (.val u b)) : Ev F O l (tFld K te f) u b O1 := fun σ H k Q q =>
  he σ H k _ fun v H1 s1 k1 r1 => by
    obtain ⟨o, ho, dx, vs, e, hk⟩ := own_at k1.hx hk
    subst e
    obtain ⟨z, h1, h2⟩ := fld_at hk hn hi hs
    exact ⟨p, C, dx, vs, z, r1, ho, hc, ha, h1, q z H1 s1 k1 (slv h2)⟩
theorem putF_new {f : Str} {v : V} : ∀ {vs : List (Str × V)}, f ∉ vs.map (·.1) → putF f v vs = vs ++ [(f, v)]
  | [], _ => rfl
  | (n, w) :: vs, h => by
    have hne : ¬ n = f := fun z => h (by rw [← z]; exact List.mem_cons_self)
    show (if n = f then _ else _) = _
    rw [if_neg hne, putF_new fun z => h (List.mem_cons_of_mem _ z)]
    rfl
theorem a2_snocF {R : Str × V → Sl → Prop} {p : Str × V} {s : Sl} : ∀ {vs : List (Str × V)} {xs : List Sl}, A2 R vs xs → R p s → A2 R (vs ++ [p]) (xs ++ [s])
  | _, _, .nil, r => .cons r .nil
  | _, _, .cons q h, r => .cons q (a2_snocF h r)
/-- self.f = e, f a new attribute of an owned object -/
theorem b_fld {ts : TS} {C : Addr} {ns : List Str} {sl : List Sl} {f : Str} {p : Addr} {tv : TE} (kk : Nat) (hv : Ev F O l tv t a O1) (he : Ev F O1 l te (yV (.ref p)) () O2) (hk : O2[kk]? = some (p, cO C ns sl)) (hc : Cls K C) (ha : NoAttr K C f) (hn : f ∉ ns) (hlt : ns.length < 1000)
    (h : Bd F (O2.set kk (p, cO C (ns ++ [f]) (sl ++ [.val t a]))) l ts D P r) : Bd F O l (tSeq (sFld K te tv f) ts) D P r := fun hr σ H k =>
  hv σ H k _ fun y H1 s1 k1 r1 => he σ H1 k1 _ fun v H2 s2 k2 r2 => by
    obtain ⟨o, ho, dx, vs, e, hok⟩ := own_at k2.hx hk
    subst e
    have hn' : f ∉ vs.map (·.1) := by rw [hok.1]; exact hn
    have hlen : vs.length < 1000 := by
      have e : vs.length = ns.length := by rw [← hok.1, List.length_map]
      omega
    have hpad : p ∈ ad F O2 := List.mem_append_left _ (List.mem_map_of_mem (List.mem_of_getElem? hk))
    have eb : br F O2 (upd H2 p (.ins C dx (putF f y vs))) = br F O2 H2 := bar_upd hpad
    obtain ⟨k3, s3⟩ := k2.chg (ce' := cO C (ns ++ [f]) (sl ++ [.val t a])) (o' := .ins C dx (putF f y vs)) hk (H' := upd H2 p (.ins C dx (putF f y vs))) (fun b ob hb hn => by rw [upd_ne (fun z => hn (by rw [z]; exact List.mem_singleton_self _))]; exact hb) upd_same
      ⟨dx, _, rfl, by rw [eb, putF_new hn']; exact ⟨by rw [List.map_append, hok.1]; rfl, a2_snocF hok.2 (show SlOk _ (some y) (.val t a) from ⟨y, rfl, t.mono s2.same r1⟩)⟩⟩
    exact ⟨p, C, dx, vs, r2, ho, hc, ha, hlen, h hr σ _ k3⟩

/-! ### methods: the same calls, the receiver first -/
theorem ev_meth {C : Addr} {m : Str} {ns : List Str} {sl : γ → List Sl} {args : A → List Sl} {pre : A → Prop} {f : A → β} {tr : TA} {sls : List Sl} {E : XK} {x : γ} (a : A) (he : Ev F O l te (yO C ns sl) x O1) (hm : m ∉ ns) (h : EvA F O1 l tr sls O') (e : Sl.val (yO C ns sl) x :: sls = args a) (hp : pre a) :
    Ev F O l (tMeth C m (spF args pre u f) [] E te tr) u (f a) O' := fun σ H k Q q =>
  he σ H k _ fun v H1 s1 k1 r1 => by
    obtain ⟨p, dx, vs, e1, hp1, hk⟩ := id r1
    refine ⟨p, dx, vs, e1, (bar_some.mp hp1).2, fld_none hk hm, h σ H1 k1 _ fun ws H2 s2 k2 r2 => ?_⟩
    rw [List.append_nil]
    exact ⟨ad F O', a, k2.hx.adom, by rw [← e]; exact .cons (show SlOk _ (some v) (.val _ x) from ⟨v, rfl, (yO C ns sl).mono s2.same r1⟩) r2, hp, fun v H' s r => q v H' ((s1.trans s2).grow s) (k2.grow s) r⟩
theorem ev_methO {C : Addr} {m : Str} {ns : List Str} {sl : γ → List Sl} {args : A → List Sl} {pre : A → Prop} {cls : Value} {f : A → Option β} {tr : TA} {sls : List Sl} {E : XK} {x : γ} (a : A) (he : Ev F O l te (yO C ns sl) x O1) (hm : m ∉ ns) (h : EvA F O1 l tr sls O') (e : Sl.val (yO C ns sl) x :: sls = args a) (hp : pre a) (hv : f a = some b) :
    Ev F O l (tMeth C m (spO args pre u cls f) [] E te tr) u b O' := fun σ H k Q q =>
  he σ H k _ fun v H1 s1 k1 r1 => by
    obtain ⟨p, dx, vs, e1, hp1, hk⟩ := id r1
    refine ⟨p, dx, vs, e1, (bar_some.mp hp1).2, fld_none hk hm, h σ H1 k1 _ fun ws H2 s2 k2 r2 => ?_⟩
    rw [List.append_nil]
    refine ⟨ad F O', a, k2.hx.adom, by rw [← e]; exact .cons (show SlOk _ (some v) (.val _ x) from ⟨v, rfl, (yO C ns sl).mono s2.same r1⟩) r2, hp, fun b' e v H' s r => ?_, fun e => ?_⟩
    · rw [hv] at e
      cases e
      exact q v H' ((s1.trans s2).grow s) (k2.grow s) r
    · rw [hv] at e
      cases e
theorem b_retMO {C : Addr} {m : Str} {ns : List Str} {sl : γ → List Sl} {args : A → List Sl} {pre : A → Prop} {cls : Value} {f : A → Option β} {tr : TA} {sls : List Sl} {E : XK} {x : γ} (a : A) (he : Ev F O l te (yO C ns sl) x O1) (hm : m ∉ ns) (h : EvA F O1 l tr sls O') (e : Sl.val (yO C ns sl) x :: sls = args a) (hp : pre a)
    (hv : P r → ∀ b, f a = some b → Rt F O' u b D.rt) (hx : P r → f a = none → Rx F cls E) : Bd F O l (tRet (tMeth C m (spO args pre u cls f) [] E te tr)) D P r := fun hr σ H k =>
  he σ H k _ fun v H1 s1 k1 r1 => by
    obtain ⟨p, dx, vs, e1, hp1, hk⟩ := id r1
    refine ⟨p, dx, vs, e1, (bar_some.mp hp1).2, fld_none hk hm, h σ H1 k1 _ fun ws H2 s2 k2 r2 => ?_⟩
    rw [List.append_nil]
    exact ⟨ad F O', a, k2.hx.adom, by rw [← e]; exact .cons (show SlOk _ (some v) (.val _ x) from ⟨v, rfl, (yO C ns sl).mono s2.same r1⟩) r2, hp, fun b' e v H' s r => hv hr b' e l σ v H' (k2.grow s) r, fun e H' s => hx hr e O' l σ H' (k2.grow s)⟩
/-- C(..): an object that stays -/
theorem ev_make {C : Addr} {args : Addr → A → List Sl} {cc : S → Cell} {pre : A → Prop} {m : A → Unit × S} {tr : TA} {sls : List Sl} {E : XK} {ns : List Str} {sl : γ → List Sl} (a : A) (x : γ) (h : EvA F O l tr sls O') (e : ∀ p, Sl.val (yV (.ref p)) () :: sls = args p a) (hp : pre a) (hc : cc (m a).2 = cO C ns (sl x)) :
    Ev F O l (tMake C (spP args (fun _ => cO C [] []) cc pre yN m) [] E tr) (yO C ns sl) x O' := fun σ H k Q q =>
  h σ H k _ fun vs H1 s1 k1 r1 p dx np ndx hne => by
    rw [List.append_nil]
    have s2 : Same H1 (upd (upd H1 dx (.own p)) p (.ins C dx [])) := fun b o hb => by
      rw [upd_ne (ne_of_none hb np), upd_ne (ne_of_none hb ndx)]
      exact hb
    have np' := k1.hx.fresh np
    have k2 := k1.grow s2
    have nb : ∀ b, b ∈ p :: ad F O' ↔ b = p ∨ b ∈ ad F O' := fun b => List.mem_cons
    have sm : Same (br F O' H1) (bar (upd (upd H1 dx (.own p)) p (.ins C dx [])) (p :: ad F O')) := fun b o hb => by
      obtain ⟨h1, h2⟩ := bar_some.mp hb
      exact bar_some.mpr ⟨fun z => ((nb b).mp z).elim (ne_of_none h2 np) h1, s2 _ _ h2⟩
    refine ⟨ad F O', p, a, _, np', fun b hb z => ?_, upd_same, ⟨dx, [], rfl, rfl, .nil⟩, ?_, hp, fun v H' o' fr ho hok hv => ⟨hv, ?_⟩⟩
    · exact k2.hx.adom b hb z
    · rw [← e p]
      exact .cons (show SlOk _ (some (.ref p)) (.val (yV (.ref p)) ()) from ⟨_, rfl, rfl⟩) (r1.imp fun _ _ z => z.mono sm)
    · have s3 : Same H1 H' := fun b o hb => fr b o (s2 b o hb) fun z => ne_of_none hb np (List.mem_singleton.mp z)
      rw [hc] at hok
      obtain ⟨dx', vs', e1, hk⟩ := hok
      subst e1
      refine q _ H' (s1.grow s3) (k1.grow s3) ⟨p, dx', vs', rfl, bar_some.mpr ⟨np', ho⟩, hk.mono (bar_mono fun b hb => List.mem_cons_of_mem _ hb)⟩

/-! ### isinstance -/
theorem ev_cb2 {rl : List V → Hp → VK → Prop} (ha : Ev F O l ta t a O1) (hb : Ev F O1 l tb u b O2)
    (hr : ∀ H x y, Hx F O2 H → t.rp (br F O2 H) x a → u.rp (br F O2 H) y b → ∀ Q : VK, (∀ v H', Same H H' → w.rp (br F O2 H') v c → Q v H') → rl [x, y] H Q) : Ev F O l (tCB rl (tCons ta (tCons tb tNil))) w c O2 := fun σ H k Q q =>
  ha σ H k _ fun x H1 s1 k1 r1 => hb σ H1 k1 _ fun y H2 s2 k2 r2 => hr H2 x y k2.hx (t.mono s2.same r1) r2 Q fun v H3 s3 r3 => q v H3 ((s1.trans s2).grow s3) (k2.grow s3) r3
/-- what type the values of t have -/
class HasTy (t : Ty α) (K : PySem.W.Frag) (c : outParam Value) : Prop where
  ty : ∀ {B H : Hp} {v : V} {a : α}, Same B H → t.rp B v a → TyX K H v c
instance : HasTy yI K (.type "int") := ⟨fun _ h => by rw [show _ = _ from h]; exact .base (.int _)⟩
instance : HasTy yB K (.type "bool") := ⟨fun _ h => by rw [show _ = _ from h]; exact .base (.bl _)⟩
instance : HasTy yS K (.type "str") := ⟨fun _ h => by rw [show _ = _ from h.1]; exact .base (.str _)⟩
instance : HasTy yN K (.type "NoneType") := ⟨fun _ h => by rw [show _ = _ from h]; exact .base .non⟩
instance : HasTy (yL t) K (.type "list") := ⟨fun s ⟨p, vs, e, h, _⟩ => by rw [e]; exact .base (.lst (s _ _ h))⟩
instance : HasTy (yT t) K (.type "tuple") := ⟨fun s ⟨p, vs, e, h, _⟩ => by rw [e]; exact .base (.tup (s _ _ h))⟩
instance : HasTy (yP t u) K (.type "tuple") := ⟨fun s ⟨p, x, y, e, h, _⟩ => by rw [e]; exact .base (.tup (s _ _ h))⟩
theorem ev_isi {ct : Value} [hT : HasTy t K ct] {n : String} {bb : Bool} (ha : Ev F O l ta t a O1) (h : PySem.W.kitOne K ct (.type n) = some bb) : Ev F O l (tCB (rIsi K) (tCons ta (tCons (tC (.ty n)) tNil))) yB bb O1 :=
  ev_cb2 ha ev_val fun H x y hx r1 r2 Q q => ⟨x, y, ct, .type n, bb, rfl, by rw [show y = _ from r2]; exact .ty n, hT.ty bar_sub r1, h, q _ H (same_refl _) rfl⟩
theorem ev_isiC {ct : Value} [hT : HasTy t K ct] {C : Addr} {bb : Bool} (ha : Ev F O l ta t a O1) (h : PySem.W.kitOne K ct (.ref C) = some bb) : Ev F O l (tCB (rIsi K) (tCons ta (tCons (tC (.ref C)) tNil))) yB bb O1 :=
  ev_cb2 ha ev_val fun H x y hx r1 r2 Q q => ⟨x, y, ct, .ref C, bb, rfl, by rw [show y = _ from r2]; exact .own C, hT.ty bar_sub r1, h, q _ H (same_refl _) rfl⟩

/-! ### == of data -/
class Dat (t : Ty α) (K : PySem.W.Frag) [DecidableEq α] where
  toD : α → PyData
  dp : ∀ {B H : Hp} {v : V} {a : α}, Same B H → t.rp B v a → Dp K H v (toD a)
  dep : Nat
  sh : ∀ {B : Hp} {v : V} {a : α}, t.rp B v a → (toD a).canLay0 = true ∧ (toD a).depth ≤ dep
  eq : ∀ a b, PyData.eqv (toD a) (toD b) = decide (a = b)
theorem ev_eqD [DecidableEq α] [d : Dat t K] {b : α} (ha : Ev F O l ta t a O1) (hb : Ev F O1 l tb t b O2) (hd : d.dep ≤ 64 := by exact Nat.le_of_ble_eq_true rfl) : Ev F O l (tOp (rEqD K) ta tb) yB (decide (a = b)) O2 :=
  ev_op ha hb fun H x y _ e1 e2 Q q => ⟨_, _, d.dp bar_sub e1, d.dp bar_sub e2, Bool.and_eq_true_iff.mpr ⟨(d.sh e1).1, decide_eq_true (Nat.le_trans (d.sh e1).2 hd)⟩, Bool.and_eq_true_iff.mpr ⟨(d.sh e2).1, decide_eq_true (Nat.le_trans (d.sh e2).2 hd)⟩, by rw [d.eq]; exact q _ H (same_refl _) rfl⟩
theorem ev_neD [DecidableEq α] [d : Dat t K] {b : α} (ha : Ev F O l ta t a O1) (hb : Ev F O1 l tb t b O2) (hd : d.dep ≤ 64 := by exact Nat.le_of_ble_eq_true rfl) : Ev F O l (tOp (rNeD K) ta tb) yB (!decide (a = b)) O2 :=
  ev_op ha hb fun H x y _ e1 e2 Q q => ⟨_, _, d.dp bar_sub e1, d.dp bar_sub e2, Bool.and_eq_true_iff.mpr ⟨(d.sh e1).1, decide_eq_true (Nat.le_trans (d.sh e1).2 hd)⟩, Bool.and_eq_true_iff.mpr ⟨(d.sh e2).1, decide_eq_true (Nat.le_trans (d.sh e2).2 hd)⟩, by rw [d.eq]; exact q _ H (same_refl _) rfl⟩
end
end TL
/-! super().__init__(..) as the first statement of a method -/
namespace TL
open PySem L2

structure ScS (N ps : List Str) (sc : Scope) (me : Str) : Prop where
  kind : sc.kind = .function
  co : sc.isCoroutine = false
  gen : sc.isGenerator = false
  nd : N.Nodup
  pre : N.take ps.length = ps
  par : ∀ x ∈ ps, sc.names.lookup x = some .local
  nocell : ∀ y ∈ sc.names, y.2 ≠ .cell
  free : ∀ y ∈ sc.names, y.2 = .free → y.1 = ("__class__" : Str)
  sup : sc.names.lookup ("super" : Str) = some .globalImplicit
  cls : sc.names.lookup ("__class__" : Str) = some .free
  first : ps[0]? = some me
/-- the def, its code object and its class cell as they stand in K -/
structure SupF (P : Program) (K : PySem.W.Frag) (cda cc D : Addr) : Prop where
  code : ∃ ccl cdd vs ccs file tf, K.lookup cda = some ⟨ccl, cdd, .fields vs, ccs⟩ ∧ vs[2]? = some (.str file tf) ∧ ((P.main.file : Str) == file) = true
  cell : ∃ cl cld csl, K.lookup cc = some ⟨cl, cld, .cell (some (.ref D)), csl⟩
  clsD : (PySem.W.clsIn K D).isSome = true
  top : (P.main.scope.names.lookup ("super" : Str)).isSome = false
/-- of the class C of the object: what its super is asked -/
structure SupC (K : PySem.W.Frag) (C D : Addr) (m : Str) (f2 : Addr) : Prop where
  sub : PySem.W.mroIn K C (.ref D) = some true
  find : PySem.W.ks_superIn K C D m = some (some (.ref f2))
  ty : PySem.W.typeIn K (.ref f2) = some (.type "function")
  fn : PySem.W.fnIn K f2 = true
  stat : PySem.W.nsIn K cStatics "thirdparty.any" = some none

abbrev envS (qual : Str) (sc : Scope) (L f cda cc : Addr) : Env := PySem.W.envX qual sc L f (.ref cda) [("__class__", cc)]
def cxS (CX : CXT) (P : Program) (w : World) (K : PySem.W.Frag) (mg : Str → Option Value) (base : Heap) (N : List Str) (qual : Str) (sc : Scope) (f cda cc : Addr) (A : Around) (outer : List Env) (s : Shared) (H : Hp) (E : XK) : Cx where
  prog := P
  w := w
  K := K
  mg := mg
  base := base
  A := A.deeper (envS qual sc s.heap.objs.size f cda cc)
  N := N
  s_0 := s
  H_0 := H
  env := envS qual sc s.heap.objs.size f cda cc
  outer := outer
  stack := envS qual sc s.heap.objs.size f cda cc :: outer
  ex := []
  calm := true
  fn := fun _ => false
  pn := []
  xe := fun e s' => wpAny (model P w) (A.deeper (envS qual sc s.heap.objs.size f cda cc)) (leaving (envS qual sc s.heap.objs.size f cda cc) e) (fun _ s'' => CX outer H s E e s'') (fun e' s'' => CX outer H s E e' s'') s'

section
variable {CX : CXT} {P : Program} {w : World} {K : PySem.W.Frag} {mg : Str → Option Value} {base : Heap} {N ps : List Str} {name qual me : Str} {params : Arguments} {sc : Scope} {f cda cc D : Addr} {A : Around} {outer : List Env} {s : Shared} {H : Hp} {E : XK} {us : List Value} {vs : List V}
theorem inv_startS {h₁ : Heap} {tk : Nat} (S : ScS N ps sc me) (hd : A.handled = none) (e0 : Env0 P w K mg base A outer s H) (hl : vs.length = ps.length) (r : Vals vs us) (C : ∃ cl cld csl v, K.lookup cc = some ⟨cl, cld, .cell v, csl⟩) (hns : h₁.Ns s.heap.objs.size fun y => (ps.zip us).reverse.lookup y)
    (kp : ∀ b o, s.heap.get? b = some o → h₁.get? b = some o) : Inv (cxS CX P w K mg base N qual sc f cda cc A outer s H E) [] (L2.start N vs) H { s with heap := h₁, toks := tk } := by
  obtain ⟨cl, cld, csl, cv, hcc⟩ := C
  have hpl : ps.length ≤ N.length := by have := congrArg List.length S.pre; rw [List.length_take] at this; omega
  have noA : ∀ b : Addr, b ∉ (cxS CX P w K mg base N qual sc f cda cc A outer s H E).ex := fun b z => absurd (show b ∈ ([] : List Addr) from z) (by simp)
  have hcb := e0.mod.kin _ _ hcc
  have one : ∀ x c, ([("__class__", cc)] : List (Str × Addr)).lookup x = some c → x = "__class__" ∧ c = cc := fun x c h => by
    rw [List.lookup_cons] at h
    split at h
    · rename_i q
      exact ⟨beq_iff_eq.mp q, (Option.some.inj h).symm⟩
    · cases h
  refine ⟨⟨e0.mod, S.kind, rfl, rfl, Nat.le_refl _, fun x y c h1 h2 => (one x c h1).1.trans (one y c h2).1.symm, fun y hy => ?_, fun y c z _ => ?_, fun _ => hd, Around.frames_deeper e0.frames, .inr ⟨rfl, rfl⟩, fun b z => absurd z (noA b), e0.bs, e0.bsz, fun b _ _ => noA b,
      fun b z => absurd z (noA b), e0.funs, e0.frf⟩,
    rfl, e0.bare, Un.kept kp, ⟨_, hns, fun i y v e1 e2 e3 => ?_⟩, fun y c e => ?_, e0.hok.fresh (Nat.le_refl _), fun y c e => ?_, fun q hq => absurd (show q ∈ ([] : List (Addr × Obj)) ++ [] from hq) (by simp), e0.hok.kept kp, ?_⟩
  · have hy : sc.names.lookup y = some .cell ∨ sc.names.lookup y = some .free := hy
    rcases hy with hy | hy
    · exact absurd rfl (S.nocell _ (PySem.mem_of_lookup hy))
    · have e : y = "__class__" := S.free _ (PySem.mem_of_lookup hy) rfl
      subst e
      exact ⟨cc, by show List.lookup ("__class__" : Str) ([(("__class__" : Str), cc)] : List (Str × Addr)) = some cc; rw [List.lookup_cons_self]⟩
  · cases (show false = true from z)
  · have e1 : N[i]? = some y := e1
    unfold L2.start at e2
    by_cases h1 : i < ps.length
    · have hq : ps[i]? = some y := by
        rw [← S.pre, List.getElem?_take_of_lt (by omega)]
        exact e1
      rw [List.getElem?_append_left (by rw [List.length_map]; omega), List.getElem?_map] at e2
      have ha : vs[i]? = some v := by
        cases e : vs[i]? with
        | none => rw [e] at e2; cases e2
        | some a => rw [e] at e2; cases e2; rfl
      obtain ⟨u, hu, rv⟩ := r.get ha
      have ndP : ps.Nodup := by
        have q := S.nd.sublist (List.take_sublist ps.length N)
        rw [S.pre] at q
        exact q
      exact ⟨u, rv, .inl ⟨S.par y (List.mem_of_getElem? hq), NdefX.zip_look ndP hq hu⟩⟩
    · rw [List.getElem?_append_right (by rw [List.length_map]; omega), List.getElem?_replicate] at e2
      split at e2 <;> cases e2
  · obtain ⟨_, e2⟩ := one y c e
    subst e2
    exact ⟨cv, _, kp _ _ (e0.bs _ _ hcb).1, rfl⟩
  · obtain ⟨_, e2⟩ := one y c e
    subst e2
    exact (e0.bs _ _ hcb).2
  · unfold L2.start
    show _ = N.length
    rw [List.length_append, List.length_map, List.length_replicate]
    omega

theorem fn_super {k k2 : Nat} {body rest : List Stmt} {dV kV doc pm ct oc : Value} {an od : Option Addr} {osl : Array (Option Value)} {p0 p1 apos cpos epos : Pos} {e : Expr} {es : List Expr} {m : Str} {sp sp2 : Sp} {ar : Arg} {pl : Env → Sem Bool}
    (lk : K.lookup f = some ⟨oc, od, .func (PySem.W.fnX name qual params body sc [("__class__", cc)] dV kV doc pm an (.ref cda) ct), osl⟩) (hcd : PySem.W.codeIn K (.ref cda) qual = true) (S : ScS N ps sc me) (SF : SupF P K cda cc D)
    (hp : (params.posonlyargs ++ params.args).head? = some ar) (har : ar.arg = me) (hsup : mg "super" = none) (hm : (m == ("__class__" : Str)) = false)
    (hbd : body = .Expr (.Call (.Attribute (.Call (.Name "super" p0) [] [] p1) m apos) (e :: es) [] cpos) epos :: rest)
    (he : ∀ env : Env, eval (.Call (.Attribute (.Call (.Name "super" p0) [] [] p1) m apos) (e :: es) [] cpos) env = (do
      let ov ← attributeBase (.Call (.Name "super" p0) [] [] p1) m env (eval (.Call (.Name "super" p0) [] [] p1) env)
      standAt apos.atName
      let (f, first) ← holding [ov] (getMethod ov m (pl env))
      callWith cpos f first (backTo cpos (starEach (e :: es) env)) []))
    (hst : ∀ env : Env, starEach (e :: es) env = (false, eval e env) :: starEach es env) (hpl : ∀ env : Env, (backTo cpos (starEach es env)).any (·.1) = false)
    (len : ∀ vs H Q E, sp vs H Q E → vs.length = ps.length)
    (hbody : ∀ (A : Around) (outer : List Env) (s : Shared) (H : Hp) (vs : List V) (Q : VK) (E : XK), Room k (A.deeper (envS qual sc s.heap.objs.size f cda cc)) → sp vs H Q E →
      ∃ (x C dx f2 : Addr) (fs : List (Str × V)) (fd2 : FuncData) (ps2 : List Str) (tA : TA) (t : TS), vs[0]? = some (.ref x) ∧ H x = some (.ins C dx fs) ∧ SupC K C D m f2 ∧ FnOk P w K mg base CX k2 f2 fd2 ps2 sp2 ∧ k2 ≤ k ∧ Binds K fd2 ps2 [] ∧
        PA (cxS CX P w K mg base N qual sc f cda cc A outer s H E) (e :: es) tA ∧ PSs (cxS CX P w K mg base N qual sc f cda cc A outer s H E) rest t ∧ Passes CX (cxS CX P w K mg base N qual sc f cda cc A outer s H E) E0 ∧
        ∀ q, H q = none → tA (L2.start N vs) (upd H q (.met f2 x)) fun ws H1 => H1 q = some (.met f2 x) ∧ sp2 (.ref x :: ws) H1 (fun _ H2 => t { nx := fun _ H' => Q .non H', rt := Q } (L2.start N vs) H2) E0) :
    FnOk P w K mg base CX (k + 1) f (PySem.W.fnX name qual params body sc [("__class__", cc)] dV kV doc pm an (.ref cda) ct) ps sp := by
  refine ⟨len, fun A outer s H args us vs Q E hr e0 hb r hsp => ?_⟩
  have hl := len _ _ _ _ hsp
  have KX : K.In s.heap := e0.mod.kin.keeps fun b o e => (e0.bs b o e).1
  have lim : s.heap.NoLimit := e0.mod.nolimit.keeps fun b o e => (e0.bs b o e).1
  obtain ⟨x, C, dx, f2, fs, fd2, ps2, tA, t, hv0, hx, SC, F2, hk2, b2, hA, hR, hps, hq⟩ := hbody A outer s H vs Q E (hr.deeper _) hsp
  refine ks_codeAny_call_defAt (fd := PySem.W.fnX name qual params body sc [("__class__", cc)] dV kV doc pm an (.ref cda) ct) hr.depth (KX _ _ lk) rfl lim (PySem.W.codeRec_of KX hcd) rfl hb S.nocell (fun y hy => S.par y.1 (List.of_mem_zip hy).1) (fun h₀ hns kp => ?_) S.co S.gen S.kind
  have I : Inv (cxS CX P w K mg base N qual sc f cda cc A outer s H E) [] (L2.start N vs) H { s with heap := h₀, toks := s.toks + (ps.zip us).length } := by
    obtain ⟨cl, cld, csl, hc⟩ := SF.cell
    exact inv_startS S hr.hd e0 hl r ⟨cl, cld, csl, _, hc⟩ hns kp
  subst hbd
  have fin : ∀ {σ' : St} {H' : Hp} {v : V} {u : Value} {s' : Shared}, Inv (cxS CX P w K mg base N qual sc f cda cc A outer s H E) [] σ' H' s' → RelV v u → Q v H' → CE outer P w H s Q u s' :=
    fun {σ' H' v u s'} J rv q => ⟨v, H', J.os, J.bare, J.base, J.hok, rv, q⟩
  have X0 : K.In h₀ := KX.keeps kp
  obtain ⟨ccl, cdd, vs2, ccs, file, tf, hcode, hvs2, hfile⟩ := SF.code
  obtain ⟨cl, cld, csl, hcell⟩ := SF.cell
  obtain ⟨cdD, hcD⟩ := Option.isSome_iff_exists.mp SF.clsD
  obtain ⟨oD, hD1, hD2⟩ : ∃ oD, h₀.get? D = some oD ∧ oD.data = .cls cdD := by
    unfold PySem.W.clsIn at hcD
    split at hcD
    · rename_i c d cd' sl ho
      cases hcD
      exact ⟨_, X0 _ _ ho, rfl⟩
    · cases hcD
  refine ks_wpAt_execs_cons (ks_wpAt_Expr_any (ks_wpAt_MethodCall ?_ (he _)) I.quiet rfl)
  have hself : (ps.zip us).reverse.lookup me = some (.ref x) := by
    obtain ⟨u, hu, ru⟩ := r.get hv0
    have ndP : ps.Nodup := by
      have q := S.nd.sublist (List.take_sublist ps.length N)
      rw [S.pre] at q
      exact q
    have e := NdefX.zip_look ndP S.first hu
    rw [show u = .ref x from ru] at e
    exact e
  obtain ⟨mA, O0, _⟩ := ins_get I.hok hx
  obtain ⟨od0, J0, _⟩ := O0.look
  have hC' : x ≠ C := by
    rintro rfl
    cases hc : PySem.W.clsIn K x with
    | none =>
      have z := SC.sub
      unfold PySem.W.mroIn at z
      rw [hc] at z
      cases z
    | some cd => exact PySem.W.ks_ne I.kIn J0 hc rfl
  refine ks_wpAt_super_base (env := envS qual sc s.heap.objs.size f cda cc) (ar := ar) S.sup S.cls hm rfl (X0 _ _ lk) rfl hp rfl (X0 _ _ hcode) rfl hvs2 hfile SF.top ?_
  obtain ⟨mb, hb1, hb2⟩ := I.mod.blt
  refine PySem.W.ks_loadName_global S.kind S.sup (Calls.loadGlobal_builtin (env := envS qual sc s.heap.objs.size f cda cc) (I.mod.glob.keeps I.bk) hsup (hb1.keeps I.bk) ((hb2 _ (by decide +kernel)).trans (by decide +kernel)) ⟨rfl, ?_⟩)
  refine wpAny_loadName_free S.kind S.cls rfl ⟨_, X0 _ _ hcell, rfl⟩ ?_
  rw [har]
  refine wpAny_loadName_local S.kind (S.par _ (List.mem_of_getElem? S.first)) hns hself ?_
  refine ks_wpAny_isType_cls hD1 hD2 ⟨rfl, ?_⟩
  refine ks_wpAny_call_super hD1 hD2 J0.at_ J0.cls (fun c e => ?_) (PySem.W.looks_mroIn X0 SC.sub) (fun h' e k => ?_)
  · have := J0.no
    unfold PySem.W.notCls at this
    rw [e] at this
    exact Bool.noConfusion this
  have I1 := I.kept (h' := h') (t' := s.toks + (ps.zip us).length) k
  have X1 : K.In h' := X0.keeps k
  obtain ⟨of2, hof2, hofc⟩ : ∃ of, h'.get? f2 = some of ∧ of.cls = .type "function" := by
    have ht' : (K.lookup f2).map (·.cls) = some (.type "function") := SC.ty
    cases z : K.lookup f2 with
    | none => rw [z] at ht'; cases ht'
    | some of => rw [z] at ht'; exact ⟨of, X1 _ _ z, Option.some.inj ht'⟩
  cases hc : PySem.W.clsIn K C with
  | none =>
    have z := SC.find
    unfold PySem.W.ks_superIn at z
    rw [hc] at z
    cases z
  | some cd =>
  have hfind := SC.find
  unfold PySem.W.ks_superIn at hfind
  rw [hc] at hfind
  refine ks_wpAny_getMethod_super e (PySem.W.looks_opaque X1 SC.stat) (l₀ := cd.mro) ?_ rfl X1 hfind hof2 hofc hC' hm ?_
  · exact fun A Q E s k q => wpAny_bind ((PySem.W.looks_clsIn X1 hc) A _ E s k (wpAny_pure q))
  have nq : H h'.objs.size = none := I1.hok.fresh (Nat.le_refl _)
  have I2 := I1.laid (t' := s.toks + (ps.zip us).length + 1) (a := h'.objs.size) (o := .met f2 x) (h' := h'.push (PySem.W.methodObj (.ref f2) (.ref x))) (fun b u z => Heap.get?_push_of_some _ z) (Nat.le_refl _)
    (show (h'.push (PySem.W.methodObj (.ref f2) (.ref x))).get? h'.objs.size = some (PySem.W.methodObj (.ref f2) (.ref x)) from Heap.get?_push_size h' rfl)
  refine callwith_met (X := cxS CX P w K mg base N qual sc f cda cc A outer s H E) (g := f2) (a := x) (by rw [hst]; show ((false || (backTo cpos (starEach es _)).any (·.1)) || false) = false; rw [hpl]; rfl) SC.fn ?_
  have hAr := hA.run cpos [] _ _ _ _ I2 (hq _ nq)
  rw [hst] at hAr ⊢
  refine Calls.evalArgs_plain ?_
  refine thn hAr fun us3 s3 ⟨ws, H3, I3, r3, hm3, hsp2⟩ => ⟨met_P I3 hm3, ?_⟩
  refine wpAny_call (PySem.W.method_call (met_P I3 hm3).1 ?_)
  have r4 : Vals (.ref x :: ws) (.ref x :: us3) := .cons rfl r3
  have hl4 : (Value.ref x :: us3).length = ps2.length := by rw [← r4.length]; exact F2.len _ _ _ _ hsp2
  have bb := b2 s3 (.ref x :: us3) I3.kIn (by rw [List.append_nil]; exact hl4)
  rw [List.append_nil] at bb
  refine codeAny_mono (F2.run _ _ s3 H3 _ _ _ _ E0 ((hr.deeper _).mono hk2) I3.env0 bb r4 hsp2) fun r5 s5 hq5 => ?_
  cases r5 with
  | error e5 => exact hps [] _ H3 s3 e5 s5 I3 hq5
  | ok fl5 =>
    cases fl5 with
    | ret u5 =>
      obtain ⟨v5, H5, I5, rv5, q5⟩ := I3.after hq5
      refine wpAt_of_wpAny (wpAny_mono (hR.run [] s5 _ H5 _ I5 q5) (fun fl s6 h6 => ?_) fun e6 s6 h6 => h6)
      cases fl with
      | ret u =>
        obtain ⟨v6, σ6, H6, J6, rv6, q6⟩ := h6
        exact fin J6 rv6 q6
      | next =>
        obtain ⟨σ6, H6, J6, q6⟩ := h6
        exact fin (v := V.non) (u := Value.none) J6 rfl q6
      | brk =>
        obtain ⟨_, _, _, q6⟩ := h6
        exact False.elim q6
      | cont =>
        obtain ⟨_, _, _, q6⟩ := h6
        exact False.elim q6
    | next => exact False.elim hq5
    | brk => exact False.elim hq5
    | cont => exact False.elim hq5
end
end TL
namespace TL
open PySem L2 PyProof.Rows

/-! ### a name for a value -/
def bnd {α : Type u} {β : Type v} (a : α) (k : α → β) : β := k a
section
variable {F : Fx} {O O1 O2 O3 O' : Own} {l l' : Lc} {α β γ ρ S T A : Type} {K : PySem.W.Frag}
  {ta tb tc te : TE} {t : Ty α} {u : Ty β} {w : Ty γ} {a : α} {b : β} {c : γ} {D : Ends} {P : ρ → Prop} {r : ρ}
theorem b_gen {ts : TS} {x : α} {k : α → ρ} (h : ∀ y, y = x → Bd F O l ts D P (k y)) : Bd F O l ts D P (bnd x k) := h x rfl
theorem b_let {ts : TS} {i : Nat} {k : α → ρ} (he : Ev F O l te t a O1) (h : ∀ x, x = a → Bd F O1 (l.set i (.val t x)) ts D P (k x)) : Bd F O l (tSeq (tAsg te (gName i)) ts) D P (bnd a k) := b_set he (h a rfl)
theorem b_letG {ts : TS} {g : TG} {up : α → Lc → Lc} {is : List Nat} {k : α → ρ} (he : Ev F O l te t a O1) (hg : Tg g t up is) (h : ∀ x, x = a → Bd F O1 (up x l) ts D P (k x)) : Bd F O l (tSeq (tAsg te g) ts) D P (bnd a k) := b_asg he hg (h a rfl)
theorem b_letO {ts : TS} {i : Nat} {xs : List α} {k : List α → ρ} (he : EvL F O l te t xs O1) (h : ∀ (p : Addr) x, x = xs → Bd F (O1 ++ [(p, cL t x)]) (l.set i (.val (yV (.ref p)) ())) ts D P (k x)) : Bd F O l (tSeq (tAsg te (gName i)) ts) D P (bnd xs k) := b_own he fun p => h p xs rfl
theorem b_letP {ts : TS} {i j : Nat} {tr : TA} {k : α × β → ρ} (he : EvA F O l tr [.val t a, .val u b] O1) (h : ∀ x, x = (a, b) → Bd F O1 ((l.set i (.val t x.1)).set j (.val u x.2)) ts D P (k x)) : Bd F O l (tSeq (tPar i j tr) ts) D P (bnd (a, b) k) := b_par he (h (a, b) rfl)
/-- an if that falls through on both ways: the slots by a value -/
def Sx (F : Fx) (O : Own) (l : Lc) (ts : TS) (O' : Own) (l' : Lc) : Prop := ∀ D σ H, Ok F O l σ H → Nx F O' l' D.nx → ts D σ H
theorem b_sx {t1 ts : TS} (h1 : Sx F O l t1 O1 l') (h : Bd F O1 l' ts D P r) : Bd F O l (tSeq t1 ts) D P r := fun hr σ H k => h1 _ σ H k (h hr)
theorem sx_next : Sx F O l tNext O l := fun D σ H k n => n σ H k
theorem sx_set {ts : TS} {i : Nat} (he : Ev F O l te t a O1) (h : Sx F O1 (l.set i (.val t a)) ts O2 l') : Sx F O l (tSeq (tAsg te (gName i)) ts) O2 l' := fun D σ H k n =>
  he σ H k _ fun v H1 s k1 r1 => h _ _ H1 (k1.set i r1) n
theorem sx_drop {ts : TS} (he : Ev F O l te t a O1) (h : Sx F O1 l ts O2 l') : Sx F O l (tSeq (tDrop te) ts) O2 l' := fun D σ H k n =>
  he σ H k _ fun v H1 s k1 r1 => h _ _ H1 k1 n
theorem sx_if {tt : TT} {t1 t2 : TS} {p : Prop} [Decidable p] {G : T → Lc} {OG : T → Own} {x1 x2 : T} (ht : Tt F O l tt p O1) (h1 : p → Sx F O1 l t1 (OG x1) (G x1)) (h2 : ¬ p → Sx F O1 l t2 (OG x2) (G x2)) : Sx F O l (tIfS tt t1 t2) (OG (if p then x1 else x2)) (G (if p then x1 else x2)) := fun D σ H k n =>
  ht σ H k _ fun b H1 i s k1 => by
    cases b with
    | true =>
      have hp := i.mp rfl
      rw [if_pos hp] at n
      exact h1 hp D σ H1 k1 n
    | false =>
      have hp : ¬ p := fun y => by cases i.mpr y
      rw [if_neg hp] at n
      exact h2 hp D σ H1 k1 n
theorem sx_wk {ts : TS} {l2 : Lc} (h : Sx F O l ts O1 l') (hw : Wk l' l2) : Sx F O l ts O1 l2 := fun D σ H k n => h D σ H k (n.wk hw)
/-- if c: x = e, joined: G tells the slots of the value -/
theorem b_join {tt : TT} {t1 t2 ts : TS} {p : Prop} [Decidable p] {x1 x2 : T} {k : T → ρ} (G : T → Lc) (OG : T → Own) (ht : Tt F O l tt p O1) (h1 : p → Sx F O1 l t1 (OG x1) (G x1)) (h2 : ¬ p → Sx F O1 l t2 (OG x2) (G x2)) (h : ∀ x, x = (if p then x1 else x2) → Bd F (OG x) (G x) ts D P (k x)) :
    Bd F O l (tSeq (tIfS tt t1 t2) ts) D P (bnd (if p then x1 else x2) k) := b_sx (sx_if ht h1 h2) (h _ rfl)
end

/-! ### data that is compared -/
section
variable {α β : Type} {K : PySem.W.Frag} {t : Ty α} {u : Ty β}
theorem eqv_int (a b : Int) : PyData.eqv (.int a) (.int b) = decide (a = b) := by
  simp [PyData.eqv, Bool.beq_eq_decide_eq]
instance : Dat yI K := { toD := .int, dp := fun _ h => by rw [show _ = _ from h]; exact .int _, dep := 1, sh := fun _ => ⟨by simp [PyData.canLay0], by simp [PyData.depth]⟩, eq := eqv_int }
instance : Dat yB K := { toD := .bool, dp := fun _ h => by rw [show _ = _ from h]; exact .bl _, dep := 1, sh := fun _ => ⟨by simp [PyData.canLay0], by simp [PyData.depth]⟩, eq := fun a b => by cases a <;> cases b <;> rfl }
theorem dpAll [DecidableEq α] (d : Dat t K) {B H : Hp} (s : Same B H) : ∀ {vs : List V} {xs : List α}, A2 (t.rp B) vs xs → DpAll K H vs (xs.map d.toD)
  | _, _, .nil => .nil
  | _, _, .cons r h => .cons (d.dp s r) (dpAll d s h)
theorem shAll [DecidableEq α] (d : Dat t K) {B : Hp} : ∀ {vs : List V} {xs : List α}, A2 (t.rp B) vs xs → PyData.canLayAll0 (xs.map d.toD) = true ∧ PyData.depthAll (xs.map d.toD) ≤ d.dep
  | _, _, .nil => ⟨by simp [PyData.canLayAll0], by simp [PyData.depthAll]⟩
  | _, _, .cons r h => by
    have h1 := d.sh r
    have h2 := shAll d h
    refine ⟨?_, ?_⟩
    · rw [List.map_cons]
      show (PyData.canLay0 _ && PyData.canLayAll0 _) = true
      rw [h1.1, h2.1]
      rfl
    · rw [List.map_cons]
      show max (PyData.depth _) (PyData.depthAll _) ≤ _
      exact Nat.max_le.mpr ⟨h1.2, h2.2⟩
theorem eqAll [DecidableEq α] (d : Dat t K) : ∀ xs ys : List α, PyData.eqvAll (xs.map d.toD) (ys.map d.toD) = decide (xs = ys)
  | [], [] => by simp [PyData.eqvAll]
  | [], _ :: _ => by simp [PyData.eqvAll]
  | _ :: _, [] => by simp [PyData.eqvAll]
  | x :: xs, y :: ys => by
    rw [List.map_cons, List.map_cons]
    show (PyData.eqv _ _ && PyData.eqvAll _ _) = _
    rw [d.eq, eqAll d xs ys]
    by_cases h1 : x = y <;> by_cases h2 : xs = ys <;> simp [h1, h2]
instance [DecidableEq α] [d : Dat t K] : Dat (yL t) K := {
  toD := fun xs => .list (xs.map d.toD)
  dp := fun s ⟨p, vs, e, h, _, r⟩ => by rw [e]; exact .lst (SqL.of (s _ _ h)) (dpAll d s r)
  dep := d.dep + 1
  sh := fun ⟨_, _, _, _, _, r⟩ => ⟨(shAll d r).1, Nat.succ_le_succ (shAll d r).2⟩
  eq := fun xs ys => eqAll d xs ys }
instance [DecidableEq α] [d : Dat t K] : Dat (yT t) K := {
  toD := fun xs => .tuple (xs.map d.toD)
  dp := fun s ⟨p, vs, e, h, _, r⟩ => by rw [e]; exact .tup (SqT.of (s _ _ h)) (dpAll d s r)
  dep := d.dep + 1
  sh := fun ⟨_, _, _, _, _, r⟩ => ⟨(shAll d r).1, Nat.succ_le_succ (shAll d r).2⟩
  eq := fun xs ys => eqAll d xs ys }
instance [DecidableEq α] [DecidableEq β] [d : Dat t K] [f : Dat u K] : Dat (yP t u) K := {
  toD := fun x => .tuple [d.toD x.1, f.toD x.2]
  dp := fun s ⟨p, v, w, e, h, r1, r2⟩ => by rw [e]; exact .tup (SqT.of (s _ _ h)) (.cons (d.dp s r1) (.cons (f.dp s r2) .nil))
  dep := max d.dep f.dep + 1
  sh := fun ⟨_, _, _, _, _, r1, r2⟩ => by
    have h1 := d.sh r1
    have h2 := f.sh r2
    refine ⟨?_, ?_⟩
    · show (PyData.canLay0 _ && (PyData.canLay0 _ && true)) = true
      rw [h1.1, h2.1]
      rfl
    · show max (PyData.depth _) (max (PyData.depth _) 0) + 1 ≤ _
      have := h1.2
      have := h2.2
      omega
  eq := fun x y => by
    show (PyData.eqv _ _ && (PyData.eqv _ _ && true)) = _
    rw [d.eq, f.eq]
    obtain ⟨a, b⟩ := x
    obtain ⟨a', b'⟩ := y
    by_cases h1 : a = a' <;> by_cases h2 : b = b' <;> simp [h1, h2] }
end

/-! ### defs of the text by their bundles -/
section
variable {P : Program} {w : World} {K : PySem.W.Frag} {mg : Str → Option Value} {base : Heap}
structure Cl (P : Program) (w : World) (K : PySem.W.Frag) (mg : Str → Option Value) (base : Heap) (k : Nat) (x : Str) (sp : Sp) : Prop where
  ex : ∃ (f : Addr) (fd : FuncData) (ps : List Str), FnOk P w K mg base (L2.CX P w) k f fd ps sp ∧ mg x = some (.ref f) ∧ PySem.W.keepIn K (.ref f) = true ∧ Binds K fd ps []
structure Mt (P : Program) (w : World) (K : PySem.W.Frag) (mg : Str → Option Value) (base : Heap) (k : Nat) (C : Addr) (m : Str) (sp : Sp) : Prop where
  ex : ∃ (f : Addr) (fd : FuncData) (ps : List Str), Cls K C ∧ Meth K C m f ∧ FnOk P w K mg base (L2.CX P w) k f fd ps sp ∧ Binds K fd ps []
structure Mkr (P : Program) (w : World) (K : PySem.W.Frag) (mg : Str → Option Value) (base : Heap) (k : Nat) (x : Str) (C : Addr) (sp : Sp) : Prop where
  ex : ∃ (f : Addr) (fd : FuncData) (ps : List Str), Mk K C f ∧ FnOk P w K mg base (L2.CX P w) k f fd ps sp ∧ mg x = some (.ref C) ∧ Binds K fd ps []
/-- a def's body keeps its promise -/
theorem FunD.okC {x qual : Str} {params : Arguments} {body : List Stmt} {scope : Scope} {dvs : List V} {kws : List (Str × V)} {f : Addr} {fd : FuncData} {N ps : List Str} {k : Nat} {sp : Sp} (F : FunD K x qual params body scope dvs kws f fd) (S : FnScope N ps scope) (len : ∀ vs H Q E, sp vs H Q E → vs.length = ps.length)
    (hbody : ∀ (cdv : Value) (A : Around) (outer : List Env) (s : Shared) (H : Hp) (E : XK), Room k (A.deeper (envOfC qual scope s.heap.objs.size f cdv)) →
      ∃ t, PSs (cxOf (L2.CX P w) P w K mg base N qual scope f cdv A outer s H E) body t ∧ ∀ vs Q, sp vs H Q E → t (ends Q) (L2.start N vs) H) : FnOk P w K mg base (L2.CX P w) (k + 1) f fd ps sp :=
  F.ok S len fun cdv A outer s H vs Q E hr h => let ⟨t, a, b⟩ := hbody cdv A outer s H E hr; ⟨t, a, b vs Q h⟩
theorem lenF {A β : Type} {args : A → List Sl} {pre : A → Prop} {u : Ty β} {f : A → β} {n : Nat} (h : ∀ a, (args a).length = n) : ∀ vs H Q E, spF args pre u f vs H Q E → vs.length = n := fun vs H Q E ⟨_, a, _, hA, _⟩ => (A2.length hA).trans (h a)
theorem lenP {A β S : Type} {args : Addr → A → List Sl} {c : A → Cell} {cc : S → Cell} {pre : A → Prop} {u : Ty β} {m : A → β × S} {n : Nat} (h : ∀ p a, (args p a).length = n) : ∀ vs H Q E, spP args c cc pre u m vs H Q E → vs.length = n := fun vs H Q E ⟨_, p, a, _, _, _, _, _, hA, _⟩ => (A2.length hA).trans (h p a)
theorem lenO {A β : Type} {args : A → List Sl} {pre : A → Prop} {u : Ty β} {cls : Value} {f : A → Option β} {n : Nat} (h : ∀ a, (args a).length = n) : ∀ vs H Q E, spO args pre u cls f vs H Q E → vs.length = n := fun vs H Q E ⟨_, a, _, hA, _⟩ => (A2.length hA).trans (h a)
theorem passO {X : Cx} {W : WX} (tk : Takes X W) {E : XK} (hW : ∀ cls d σ H, E cls d H → W cls d σ H) : Passes (L2.CX X.prog X.w) X E := passes_call tk hW
end
section
variable {X : Cx} {k j : Nat} {C : Addr} {x m : Str} {sp : Sp} {p pos apos : Pos} {e o : Expr} {es : List Expr} {ta : TE} {t : TA} {E : XK}
theorem pe_cl (c : Cl X.prog X.w X.K X.mg X.base k x sp) (hr : Room j X.A) (hk : k ≤ j) (hg : Gl X x) (hx : Passes (L2.CX X.prog X.w) X E) (ha : PA X (e :: es) t)
    (hdb : (x == ("__debug__" : Str)) = false := by decide) (he : starEach (e :: es) X.env = (false, eval e X.env) :: starEach es X.env := by rfl) (hpl : (backTo pos (starEach es X.env)).any (·.1) = false := by rfl) :
    PE X (.Call (.Name x p) (e :: es) [] pos) (tCall sp [] E t) := by
  obtain ⟨f, fd, ps, F, hm, kp, b⟩ := c.ex
  exact pe_call F (hr.mono hk) hg hm kp b .nil hx ha hdb he hpl
theorem pe_cl0 (c : Cl X.prog X.w X.K X.mg X.base k x sp) (hr : Room j X.A) (hk : k ≤ j) (hg : Gl X x) (hx : Passes (L2.CX X.prog X.w) X E)
    (hdb : (x == ("__debug__" : Str)) = false := by decide) : PE X (.Call (.Name x p) [] [] pos) (tCall sp [] E tNil) := by
  obtain ⟨f, fd, ps, F, hm, kp, b⟩ := c.ex
  exact pe_call0 F (hr.mono hk) hg hm kp b .nil hx hdb
theorem pe_clS {W : WX} (c : Cl X.prog X.w X.K X.mg X.base k x sp) (hr : Room j X.A) (hk : k ≤ j) (hg : Gl X x) (tk : Takes X W) (ha : PA X (e :: es) t)
    (hdb : (x == ("__debug__" : Str)) = false := by decide) (he : starEach (e :: es) X.env = (false, eval e X.env) :: starEach es X.env := by rfl) (hpl : (backTo pos (starEach es X.env)).any (·.1) = false := by rfl) :
    PE X (.Call (.Name x p) (e :: es) [] pos) (tCallS sp (WE W) t) := by
  obtain ⟨f, fd, ps, F, hm, kp, b⟩ := c.ex
  exact pe_callS F (hr.mono hk) hg hm kp b (fun σ => passAt tk σ) ha hdb he hpl
theorem pe_mkr (c : Mkr X.prog X.w X.K X.mg X.base k x C sp) (hr : Room j X.A) (hk : k + 1 ≤ j) (hg : Gl X x) (hx : Passes (L2.CX X.prog X.w) X E) (ha : PA X (e :: es) t)
    (hdb : (x == ("__debug__" : Str)) = false := by decide) (he : starEach (e :: es) X.env = (false, eval e X.env) :: starEach es X.env := by rfl) (hpl : (backTo pos (starEach es X.env)).any (·.1) = false := by rfl) :
    PE X (.Call (.Name x p) (e :: es) [] pos) (tMake C sp [] E t) := by
  obtain ⟨f, fd, ps, M, F, hm, b⟩ := c.ex
  exact pe_make M F (hr.mono hk) hg hm b .nil hx ha hdb he hpl
theorem pe_mkr0 (c : Mkr X.prog X.w X.K X.mg X.base k x C sp) (hr : Room j X.A) (hk : k + 1 ≤ j) (hg : Gl X x) (hx : Passes (L2.CX X.prog X.w) X E)
    (hdb : (x == ("__debug__" : Str)) = false := by decide) : PE X (.Call (.Name x p) [] [] pos) (tMake C sp [] E tNil) := by
  obtain ⟨f, fd, ps, M, F, hm, b⟩ := c.ex
  exact pe_make0 M F (hr.mono hk) hg hm b .nil hx hdb
theorem pe_mth {pl : Sem Bool} (c : Mt X.prog X.w X.K X.mg X.base k C m sp) (hr : Room j X.A) (hk : k ≤ j) (hx : Passes (L2.CX X.prog X.w) X E) (he : PE X o ta) (ha : PA X (e :: es) t)
    (hst : starEach (e :: es) X.env = (false, eval e X.env) :: starEach es X.env := by rfl) (hpl : (backTo pos (starEach es X.env)).any (·.1) = false := by rfl)
    (ht : eval (.Call (.Attribute o m apos) (e :: es) [] pos) X.env = (do
      let ov ← eval o X.env
      standAt apos.atName
      let (f, first) ← holding [ov] (getMethod ov m pl)
      callWith pos f first (backTo pos (starEach (e :: es) X.env)) (backToKw pos (keywordEach [] X.env))) := by rfl) :
    PE X (.Call (.Attribute o m apos) (e :: es) [] pos) (tMeth C m sp [] E ta t) := by
  obtain ⟨f, fd, ps, hc, hm, F, b⟩ := c.ex
  exact pe_meth (pl := pl) he hc hm F (hr.mono hk) b .nil hx ha hst hpl ht
theorem pe_mth0 {pl : Sem Bool} (c : Mt X.prog X.w X.K X.mg X.base k C m sp) (hr : Room j X.A) (hk : k ≤ j) (hx : Passes (L2.CX X.prog X.w) X E) (he : PE X o ta)
    (ht : eval (.Call (.Attribute o m apos) [] [] pos) X.env = (do
      let ov ← eval o X.env
      standAt apos.atName
      let (f, first) ← holding [ov] (getMethod ov m pl)
      callWith pos f first (backTo pos (starEach [] X.env)) (backToKw pos (keywordEach [] X.env))) := by rfl) :
    PE X (.Call (.Attribute o m apos) [] [] pos) (tMeth C m sp [] E ta tNil) := by
  obtain ⟨f, fd, ps, hc, hm, F, b⟩ := c.ex
  exact pe_meth0 (pl := pl) he hc hm F (hr.mono hk) b .nil hx ht
/-- X() of an own error class without own __init__ -/
theorem pmk_own0 {bmB : List Value} {B newId initId : String} (F : ExcBaseFacts B newId initId bmB) (q : PySem.W.excIn X.K C bmB newId = true) (gC : X.mg x = some (.ref C)) (kC : PySem.W.keepIn X.K (.ref C) = true) (r : Raises X (.ref C)) (hg : Gl X x)
    (hdb : (x == ("__debug__" : Str)) = false := by decide) : PMk X (.Call (.Name x p) [] [] pos) (fun _ H Q => Q (.ref C) none H) := by
  intro pins s σ H Q I h
  refine wpAny_Call_Name_kw (ld_glob I hg gC ?_ hdb)
  refine PySem.W.callWith_K0 I.kIn kC ?_
  show wpAny _ _ (call (.ref C) []) _ _ _
  obtain ⟨bm, N, nm, qn, bs, hdct, sn, sub, ab, col, dd, k0, k1, k2, k3, k5, mN, hC, hN, hni, T⟩ := exc_obj I.kIn q
  refine wpAny_call_exc_subT F T hC hN hni (fun h' e hm => ?_) (Nat.zero_le _)
  exact mk_of I hm r h (I.hok.gone hm.new)
end
end TL
namespace TL
open PySem L2 PyProof.Rows

section
variable {F : Fx} {O O1 O2 O3 O' : Own} {l l' : Lc} {α β γ ρ S T A : Type} {K : PySem.W.Frag}
  {ta tb tc te : TE} {t : Ty α} {u : Ty β} {w : Ty γ} {a : α} {b : β} {c : γ} {D : Ends} {P : ρ → Prop} {r : ρ}

/-! ### defs that return a new list -/
def spL (args : A → List Sl) (pre : A → Prop) (t : Ty β) (f : A → List β) : Sp := fun vs H Q _ =>
  ∃ (M : List Addr) (a : A), (∀ m ∈ M, H m ≠ none) ∧ AOk (bar H M) vs (args a) ∧ pre a ∧ ∀ p vs' H', Same H H' → H p = none → H' p = none → vs'.length ≤ sizeLine → A2 (t.rp (bar H' M)) vs' (f a) → Q (.ref p) (upd H' p (.lst vs'))
theorem ev_callL {args : A → List Sl} {pre : A → Prop} {f : A → List β} {tr : TA} {sls : List Sl} {E : XK} (a : A) (h : EvA F O l tr sls O') (e : sls = args a) (hp : pre a) : EvL F O l (tCall (spL args pre u f) [] E tr) u (f a) O' := fun σ H k Q q =>
  h σ H k _ fun vs H1 s1 k1 r1 => by
    subst e
    rw [List.append_nil]
    exact ⟨ad F O', a, k1.hx.adom, r1, hp, fun p vs' H' s n0 n1 hl hA => q p vs' H' (s1.grow s) (k1.grow s) n1 (k1.hx.fresh0 n0) hl hA⟩
theorem lenL {args : A → List Sl} {pre : A → Prop} {u : Ty β} {f : A → List β} {n : Nat} (h : ∀ a, (args a).length = n) : ∀ vs H Q E, spL args pre u f vs H Q E → vs.length = n := fun vs H Q E ⟨_, a, _, hA, _⟩ => (A2.length hA).trans (h a)
def OutsL (F : Fx) (t : Ty α) (rt : VK) (xs : List α) : Prop := F.W = [] ∧ ∀ p vs H', Frm F.W F.H0 H' → F.H0 p = none → H' p = none → vs.length ≤ sizeLine → A2 (t.rp (bar H' F.M)) vs xs → rt (.ref p) (upd H' p (.lst vs))
theorem run_L {args : A → List Sl} {pre : A → Prop} {u : Ty β} {f : A → List β} {N : List Str} {tf : TS}
    (hb : ∀ F a rt, pre a → Bd F [] (slots (args a) N.length) tf (ends rt) (OutsL F u rt) (f a)) : ∀ vs H Q E, spL args pre u f vs H Q E → tf (ends Q) (L2.start N vs) H := by
  rintro vs H Q E ⟨M, a, hM, hA, hp, hQ⟩
  refine hb ⟨H, [], M⟩ a Q hp ⟨rfl, fun p vs' H' fr n0 n1 hl hr => hQ p vs' H' (fun b o h => fr b o h List.not_mem_nil) n0 n1 hl hr⟩ _ H ⟨?_, ⟨[], .nil⟩, ?_⟩
  · exact start_ok hA
  · exact ⟨fun q hq => (by cases hq), List.nodup_nil, fun q hq => (by cases hq), fun q hq => (by cases hq), fun b hb => hM b (hb.elim (fun z => by cases z) id), Frm.refl⟩
theorem b_retL {xs : List α} (he : EvL F O l te t xs O1) (h : P r → OutsL F t D.rt xs) : Bd F O l (tRet te) D P r := fun p σ H k => he σ H k _ fun q vs H1 s k1 np n0 hl hr => (h p).2 q vs H1 k1.hx.keep n0 np hl (hr.imp fun _ _ z => t.mono (bar_mono fun b hb => List.mem_append_right _ hb) z)
theorem b_retOwn {xs : List α} {p : Addr} (k : Nat) (he : Ev F O l te (yV (.ref p)) () O1) (hk : O1[k]? = some (p, cL t xs)) (h : P r → OutsL F t D.rt xs) : Bd F O l (tRet te) D P r := fun hr σ H kk =>
  he σ H kk _ fun v H1 s1 k1 r1 => by
    obtain ⟨o, ho, vs, e, hl, rr⟩ := own_at k1.hx hk
    subst e
    have r1' : v = .ref p := r1
    subst r1'
    obtain ⟨hW, hR⟩ := h hr
    have hm := List.mem_of_getElem? hk
    have n0 : F.H0 p = none := (k1.hx.acc _ hm).elim (fun z => by rw [hW] at z; cases z) id
    have := hR p vs (cut H1 p) (fun b ob hb hw => by rw [cut_ne (fun z => by rw [z, n0] at hb; cases hb)]; exact k1.hx.keep b ob hb hw) n0 cut_same hl
      (rr.imp fun _ _ z => t.mono (fun b ob hb => by
        obtain ⟨h1, h2⟩ := bar_some.mp hb
        refine bar_some.mpr ⟨fun z => h1 (List.mem_append_right _ z), ?_⟩
        rw [cut_ne (fun z => h1 (List.mem_append_left _ (by rw [z]; exact List.mem_map_of_mem hm)))]
        exact h2) z)
    rwa [upd_cut ho] at this

/-! ### two unlike things in a list -/
def yQ (t : Ty α) (u : Ty β) : Ty (α × β) :=
  ⟨fun H v x => ∃ a p q, v = .ref a ∧ H a = some (.lst [p, q]) ∧ t.rp H p x.1 ∧ u.rp H q x.2,
   fun s ⟨a, p, q, e, h, l, r⟩ => ⟨a, p, q, e, s _ _ h, t.mono s l, u.mono s r⟩⟩
theorem ev_two {tr : TA} (h : EvA F O l tr [.val t a, .val u b] O') : Ev F O l (tLst tr) (yQ t u) (a, b) O' := fun σ H k Q q =>
  h σ H k _ fun vs H1 s1 k1 r1 => by
    cases r1 with
    | cons r1 r2 =>
      cases r2 with
      | cons r2 r3 =>
        cases r3
        rename_i x y
        refine ⟨(by show 2 ≤ sizeLine; decide), fun p hp => ?_⟩
        have np := k1.hx.fresh hp
        refine q _ _ (s1.grow (Same.new hp)) (k1.grow (Same.new hp)) ⟨p, x, y, rfl, bar_some.mpr ⟨np, upd_same⟩, t.mono (bar_same (Same.new hp)) (slv r1), u.mono (bar_same (Same.new hp)) (slv r2)⟩
theorem ev_fstQ {x : α × β} (ha : Ev F O l ta (yQ t u) x O1) : Ev F O l (tOp (rIxL K) ta (tC (.int 0))) t x.1 O1 :=
  ev_op ha ev_int fun H z y hx e1 e2 Q q => by
    obtain ⟨p, v1, v2, e, hp, r1, r2⟩ := e1
    exact ⟨p, _, 0, v1, e, e2, SqL.of (bar_some.mp hp).2, rfl, q v1 H (same_refl _) r1⟩
theorem ev_sndQ {x : α × β} (ha : Ev F O l ta (yQ t u) x O1) : Ev F O l (tOp (rIxL K) ta (tC (.int 1))) u x.2 O1 :=
  ev_op ha ev_int fun H z y hx e1 e2 Q q => by
    obtain ⟨p, v1, v2, e, hp, r1, r2⟩ := e1
    exact ⟨p, _, 1, v2, e, e2, SqL.of (bar_some.mp hp).2, rfl, q v2 H (same_refl _) r2⟩
instance : HasTy (yQ t u) K (.type "list") := ⟨fun s ⟨p, x, y, e, h, _⟩ => by rw [e]; exact .base (.lst (s _ _ h))⟩
instance [DecidableEq α] [DecidableEq β] [d : Dat t K] [f : Dat u K] : Dat (yQ t u) K := {
  toD := fun x => .list [d.toD x.1, f.toD x.2]
  dp := fun s ⟨p, v, w, e, h, r1, r2⟩ => by rw [e]; exact .lst (SqL.of (s _ _ h)) (.cons (d.dp s r1) (.cons (f.dp s r2) .nil))
  dep := max d.dep f.dep + 1
  sh := fun ⟨_, _, _, _, _, r1, r2⟩ => by
    have h1 := d.sh r1
    have h2 := f.sh r2
    refine ⟨?_, ?_⟩
    · show (PyData.canLay0 _ && (PyData.canLay0 _ && true)) = true
      rw [h1.1, h2.1]
      rfl
    · show max (PyData.depth _) (max (PyData.depth _) 0) + 1 ≤ _
      have := h1.2
      have := h2.2
      omega
  eq := fun x y => by
    show (PyData.eqv _ _ && (PyData.eqv _ _ && true)) = _
    rw [d.eq, f.eq]
    obtain ⟨a, b⟩ := x
    obtain ⟨a', b'⟩ := y
    by_cases h1 : a = a' <;> by_cases h2 : b = b' <;> simp [h1, h2] }

/-! ### one of two -/
def oul {α β : Type} [Inhabited α] : α ⊕ β → α
  | .inl a => a
  | .inr _ => default
def our {α β : Type} [Inhabited β] : α ⊕ β → β
  | .inl _ => default
  | .inr b => b
theorem ev_inl (h : Ev F O l te t a O') : Ev F O l te (ySum t u) (.inl a) O' := h
theorem ev_inr (h : Ev F O l te u b O') : Ev F O l te (ySum t u) (.inr b) O' := h
theorem ev_outl [Inhabited α] {x : α ⊕ β} (h : Ev F O l te (ySum t u) x O') (hx : x.isLeft = true) : Ev F O l te t (oul x) O' := by
  cases x with
  | inl a => exact h
  | inr b => cases hx
theorem ev_outr [Inhabited β] {x : α ⊕ β} (h : Ev F O l te (ySum t u) x O') (hx : x.isLeft = false) : Ev F O l te u (our x) O' := by
  cases x with
  | inl a => cases hx
  | inr b => exact h
class Apart (t : Ty α) (u : Ty β) (K : PySem.W.Frag) [DecidableEq α] [DecidableEq β] [d : Dat t K] [f : Dat u K] : Prop where
  ne : ∀ a b, PyData.eqv (d.toD a) (f.toD b) = false ∧ PyData.eqv (f.toD b) (d.toD a) = false
instance [DecidableEq α] [DecidableEq β] [DecidableEq γ] [d : Dat t K] [f : Dat u K] [g : Dat w K] : Apart (yL t) (yP u w) K := ⟨fun a b => ⟨by show PyData.eqv (.list _) (.tuple _) = false; simp [PyData.eqv], by show PyData.eqv (.tuple _) (.list _) = false; simp [PyData.eqv]⟩⟩
instance [DecidableEq α] [DecidableEq β] [d : Dat t K] [f : Dat u K] [ap : Apart t u K] : Dat (ySum t u) K := {
  toD := fun x => match x with | .inl a => d.toD a | .inr b => f.toD b
  dp := fun {_ _ _ x} s h => match x, h with | .inl _, h => d.dp s h | .inr _, h => f.dp s h
  dep := max d.dep f.dep
  sh := fun {_ _ x} h => match x, h with
    | .inl a, h => ⟨(d.sh h).1, Nat.le_trans (d.sh h).2 (Nat.le_max_left _ _)⟩
    | .inr b, h => ⟨(f.sh h).1, Nat.le_trans (f.sh h).2 (Nat.le_max_right _ _)⟩
  eq := fun x y => match x, y with
    | .inl a, .inl b => by rw [d.eq]; by_cases h : a = b <;> simp [h]
    | .inr a, .inr b => by rw [f.eq]; by_cases h : a = b <;> simp [h]
    | .inl a, .inr b => by rw [(ap.ne a b).1]; simp
    | .inr a, .inl b => by rw [(ap.ne b a).2]; simp }
instance : Dat yS K := { toD := .str, dp := fun _ h => by rw [show _ = _ from h.1]; exact .str _, dep := 1, sh := fun h => ⟨by show PyData.canLay0 (.str _) = true; simp only [PyData.canLay0]; exact h.2, by simp [PyData.depth]⟩, eq := fun a b => by simp [PyData.eqv, Bool.beq_eq_decide_eq] }

/-! ### powers, slices, list(..), tuple(..), pop, op= -/
theorem ev_powc {i j c : Int} (ha : Ev F O l ta yI i O1) (hb : Ev F O1 l tb yI j O2) (hc : CPow i j) (e : i ^ j.toNat = c) : Ev F O l (tOp oPow ta tb) yI c O2 := (ev_pow ha hb hc).to e
theorem a2_take {R : V → α → Prop} : ∀ {vs : List V} {xs : List α} (n : Nat), A2 R vs xs → A2 R (vs.take n) (xs.take n)
  | _, _, _, .nil => by rw [List.take_nil, List.take_nil]; exact .nil
  | _, _, 0, .cons _ _ => .nil
  | _, _, n + 1, .cons r h => .cons r (a2_take n h)
theorem a2_dropV {R : V → α → Prop} : ∀ {vs : List V} {xs : List α} (n : Nat), A2 R vs xs → A2 R (vs.drop n) (xs.drop n)
  | _, _, _, .nil => by rw [List.drop_nil, List.drop_nil]; exact .nil
  | _, _, 0, .cons r h => .cons r h
  | _, _, n + 1, .cons _ h => a2_dropV n h
theorem evl_upto {xs : List α} {n : Int} (ha : Ev F O l ta (yL t) xs O1) (hb : Ev F O1 l tb yI n O2) (hn : 0 ≤ n) : EvL F O l (tSl (rSlL K) ta tNoPart (tPart tb)) t (xs.take n.toNat) O2 := fun σ H k Q q =>
  ha σ H k _ fun x H1 s1 k1 r1 => hb σ H1 k1 _ fun y H2 s2 k2 r2 => by
    obtain ⟨p, vs, e, hp, hl, r⟩ := (yL t).mono s2.same r1
    refine ⟨n, r2, p, vs, e, SqL.of (bar_some.mp hp).2, fun z hz => ?_⟩
    have e2 : L2.cutV vs none (some n) = vs.take n.toNat := by
      unfold L2.cutV
      rw [HT.sIx_none, show n = (n.toNat : Int) by omega, HT.sIx_nat, List.drop_zero, Nat.sub_zero, Int.toNat_natCast]
      rcases Nat.le_total n.toNat vs.length with h | h
      · rw [Nat.min_eq_left h]
      · rw [Nat.min_eq_right h, List.take_length, List.take_of_length_le h]
    rw [e2]
    exact q z _ H2 (s1.trans s2) k2 hz (k2.hx.fresh0 hz) (by rw [List.length_take]; omega) (a2_take _ r)
theorem evl_from {xs : List α} {n : Int} (ha : Ev F O l ta (yL t) xs O1) (hb : Ev F O1 l tb yI n O2) (hn : 0 ≤ n) : EvL F O l (tSl (rSlL K) ta (tPart tb) tNoPart) t (xs.drop n.toNat) O2 := fun σ H k Q q =>
  ha σ H k _ fun x H1 s1 k1 r1 => hb σ H1 k1 _ fun y H2 s2 k2 r2 => by
    obtain ⟨p, vs, e, hp, hl, r⟩ := (yL t).mono s2.same r1
    refine ⟨n, r2, p, vs, e, SqL.of (bar_some.mp hp).2, fun z hz => ?_⟩
    have e2 : L2.cutV vs (some n) none = vs.drop n.toNat := by
      unfold L2.cutV
      rw [HT.sIx_none, show n = (n.toNat : Int) by omega, HT.sIx_nat, Int.toNat_natCast]
      rcases Nat.le_total n.toNat vs.length with h | h
      · rw [Nat.min_eq_left h, List.take_of_length_le (by rw [List.length_drop]; omega)]
      · rw [Nat.min_eq_right h, List.drop_eq_nil_of_le h, List.drop_eq_nil_of_le (Nat.le_refl _), List.take_nil]
    rw [e2]
    exact q z _ H2 (s1.trans s2) k2 hz (k2.hx.fresh0 hz) (by rw [List.length_drop]; omega) (a2_dropV _ r)
def rListS (K : PySem.W.Frag) : List V → Hp → VK → Prop := fun xs H Q => ∃ p ys, xs = [.ref p] ∧ (SqL K H p ys ∨ SqT K H p ys) ∧ ∀ l, H l = none → Q (.ref l) (upd H l (.lst ys))
theorem evl_listL {xs : List α} (ha : Ev F O l ta (yL t) xs O1) : EvL F O l (tCB (rListS K) (tCons ta tNil)) t xs O1 := fun σ H k Q q =>
  ha σ H k _ fun x H1 s1 k1 r1 => by
    obtain ⟨p, vs, e, hp, hl, r⟩ := r1
    exact ⟨p, vs, by rw [e], .inl (SqL.of (bar_some.mp hp).2), fun z hz => q z vs H1 s1 k1 hz (k1.hx.fresh0 hz) hl r⟩
theorem evl_listT {xs : List α} (ha : Ev F O l ta (yT t) xs O1) : EvL F O l (tCB (rListS K) (tCons ta tNil)) t xs O1 := fun σ H k Q q =>
  ha σ H k _ fun x H1 s1 k1 r1 => by
    obtain ⟨p, vs, e, hp, hl, r⟩ := r1
    exact ⟨p, vs, by rw [e], .inr (SqT.of (bar_some.mp hp).2), fun z hz => q z vs H1 s1 k1 hz (k1.hx.fresh0 hz) hl r⟩
theorem evl_listO {xs : List α} {p : Addr} (k : Nat) (ha : Ev F O l ta (yV (.ref p)) () O1) (hk : O1[k]? = some (p, cL t xs) := by rfl) : EvL F O l (tCB (rListS K) (tCons ta tNil)) t xs O1 := fun σ H kk Q q =>
  ha σ H kk _ fun x H1 s1 k1 r1 => by
    obtain ⟨o, ho, vs, e, hl, r⟩ := own_at k1.hx hk
    subst e
    exact ⟨p, vs, by rw [show x = _ from r1], .inl (SqL.of ho), fun z hz => q z vs H1 s1 k1 hz (k1.hx.fresh0 hz) hl r⟩
def rTupS (K : PySem.W.Frag) : List V → Hp → VK → Prop := fun xs H Q => ∃ p ys, xs = [.ref p] ∧ ((SqL K H p ys ∧ ∀ l, H l = none → Q (.ref l) (upd H l (.tup ys))) ∨ (SqT K H p ys ∧ Q (.ref p) H))
theorem ev_tupleL {xs : List α} (ha : Ev F O l ta (yL t) xs O1) : Ev F O l (tCB (rTupS K) (tCons ta tNil)) (yT t) xs O1 := fun σ H k Q q =>
  ha σ H k _ fun x H1 s1 k1 r1 => by
    obtain ⟨p, vs, e, hp, hl, r⟩ := r1
    refine ⟨p, vs, by rw [e], .inl ⟨SqL.of (bar_some.mp hp).2, fun z hz => ?_⟩⟩
    exact q _ _ (s1.grow (Same.new hz)) (k1.grow (Same.new hz)) ⟨z, vs, rfl, bar_some.mpr ⟨k1.hx.fresh hz, upd_same⟩, hl, r.imp fun _ _ y => t.mono (bar_same (Same.new hz)) y⟩
theorem ix0_cons [Inhabited α] (x : α) (xs : List α) : ix (x :: xs) 0 = x := ix_of (by simp [atI, ixN])
theorem ev_pop0T [Inhabited α] {xs : List α} {p : Addr} (k : Nat) (he : Ev F O l te (yV (.ref p)) () O1) (hn : xs ≠ []) (hk : O1[k]? = some (p, cL t xs) := by rfl) : Ev F O l (tBM K "list" rPopAt te (tCons (tC (.int 0)) tNil)) t (ix xs 0) (O1.set k (p, cL t xs.tail)) := by
  cases xs with
  | nil => exact absurd rfl hn
  | cons x xs =>
    rw [ix0_cons]
    exact ev_pop0 k he hk
theorem ix_last [Inhabited α] (xs : List α) (x : α) : ix (xs ++ [x]) (-1) = x := ix_of (by
  unfold atI ixN
  rw [if_neg (by omega), if_pos (by rw [List.length_append, List.length_singleton]; omega)]
  show (xs ++ [x])[_]? = _
  rw [show (-1 + ((xs ++ [x]).length : Int)).toNat = xs.length by rw [List.length_append, List.length_singleton]; omega]
  simp)
theorem ev_popT [Inhabited α] {xs : List α} {p : Addr} (k : Nat) (he : Ev F O l te (yV (.ref p)) () O1) (hn : xs ≠ []) (hk : O1[k]? = some (p, cL t xs) := by rfl) : Ev F O l (tBM0 K "list" rPop te) t (ix xs (-1)) (O1.set k (p, cL t xs.dropLast)) := by
  obtain ⟨ys, y, rfl⟩ : ∃ ys y, xs = ys ++ [y] := ⟨xs.dropLast, xs.getLast hn, (List.dropLast_concat_getLast hn).symm⟩
  rw [ix_last, List.dropLast_concat]
  exact ev_pop k he hk
theorem b_augA {ts : TS} {i : Nat} {m n : Int} {k : Int → ρ} (hi : l.s[i]? = some (.val yI m)) (he : Ev F O l te yI n O1) (h : ∀ x, x = m + n → Bd F O1 (l.set i (.val yI x)) ts D P (k x)) : Bd F O l (tSeq (tAug i te (ipI fun i j => i + j)) ts) D P (bnd (m + n) k) := fun hr σ H kk => by
  obtain ⟨o, e, v, e2, r⟩ := slot_of (σ := []) (i := 0) kk.sl hi
  subst e2
  exact ⟨v, e, he σ H kk _ fun y H1 s1 k1 r1 => ⟨m, n, r, r1, h _ rfl hr _ H1 (k1.set (t := yI) (a := m + n) i rfl)⟩⟩
theorem b_augS {ts : TS} {i : Nat} {m n : Int} {k : Int → ρ} (hi : l.s[i]? = some (.val yI m)) (he : Ev F O l te yI n O1) (h : ∀ x, x = m - n → Bd F O1 (l.set i (.val yI x)) ts D P (k x)) : Bd F O l (tSeq (tAug i te (ipI fun i j => i - j)) ts) D P (bnd (m - n) k) := fun hr σ H kk => by
  obtain ⟨o, e, v, e2, r⟩ := slot_of (σ := []) (i := 0) kk.sl hi
  subst e2
  exact ⟨v, e, he σ H kk _ fun y H1 s1 k1 r1 => ⟨m, n, r, r1, h _ rfl hr _ H1 (k1.set (t := yI) (a := m - n) i rfl)⟩⟩
theorem sx_augA {ts : TS} {i : Nat} {m n : Int} (hi : l.s[i]? = some (.val yI m)) (he : Ev F O l te yI n O1) (h : Sx F O1 (l.set i (.val yI (m + n))) ts O2 l') : Sx F O l (tSeq (tAug i te (ipI fun i j => i + j)) ts) O2 l' := fun D σ H kk nx => by
  obtain ⟨o, e, v, e2, r⟩ := slot_of (σ := []) (i := 0) kk.sl hi
  subst e2
  exact ⟨v, e, he σ H kk _ fun y H1 s1 k1 r1 => ⟨m, n, r, r1, h _ _ H1 (k1.set (t := yI) (a := m + n) i rfl) nx⟩⟩
theorem sx_augS {ts : TS} {i : Nat} {m n : Int} (hi : l.s[i]? = some (.val yI m)) (he : Ev F O l te yI n O1) (h : Sx F O1 (l.set i (.val yI (m - n))) ts O2 l') : Sx F O l (tSeq (tAug i te (ipI fun i j => i - j)) ts) O2 l' := fun D σ H kk nx => by
  obtain ⟨o, e, v, e2, r⟩ := slot_of (σ := []) (i := 0) kk.sl hi
  subst e2
  exact ⟨v, e, he σ H kk _ fun y H1 s1 k1 r1 => ⟨m, n, r, r1, h _ _ H1 (k1.set (t := yI) (a := m - n) i rfl) nx⟩⟩
theorem b_pass {ts : TS} (h : Bd F O l ts D P r) : Bd F O l (tSeq tNext ts) D P r := fun hr σ H k => h hr σ H k
theorem lc_stY {g : TG} {wi : TI} {up : α → Lc → Lc} {is vs : List Nat} {xs : List α} {f : S → α → β × S} {s0 : S} {y : List β × S} (hy : y = mapS f xs s0) (Os : S → Own) (J : List α → S → Prop) (hI : Iv F O l wi t xs O1) (hg : Tg g t up is) (hw : ∀ i ∈ is, i ∈ vs) (hO : Os s0 = O1) (hn : xs.length ≤ sizeLine)
    (hJ0 : J [] s0) (hJ : ∀ pre x post s, xs = pre ++ x :: post → J pre s → J (pre ++ [x]) (f s x).2)
    (he : ∀ D gs pre x post s, xs = pre ++ x :: post → J pre s → Ev (F.more D) (Os s) (up x ((l.push gs).wipe vs)) te u (f s x).1 (Os (f s x).2)) : EvL F O l (tLc wi g tYes te vs) u y.1 (Os y.2) := by
  subst hy
  exact lc_st f Os s0 J hI hg hw hO hn hJ0 hJ he

/-! ### calls that may raise -/
def oget [Inhabited α] (o : Option α) : α := o.getD default
theorem oget_of [Inhabited α] {o : Option α} (h : o.isSome = true) : o = some (oget o) := by
  cases o with
  | none => cases h
  | some a => rfl
def oel (o : Option α) (n : β) (s : α → β) : β := match o with
  | none => n
  | some a => s a
theorem b_tryO {args : A → List Sl} {pre : A → Prop} {cls c : Value} {f : A → Option β} {tr : TA} {sls : List Sl} {i j : Nat} {ts : Addr → Value → Option Addr → TS} {Wout : WX} {k : β → ρ} {r0 : ρ} {rest : TS} (a : A) (h : EvA F O l tr sls O') (e : sls = args a) (hp : pre a)
    (hc : PySem.W.exmOne K cls c = some true) (h1 : ∀ b, f a = some b → Bd F O' (l.set j (.val u b)) rest D P (k b))
    (h2 : f a = none → ∀ (aa : Addr) (N B C : L2.St → Hp → Prop), Bd F O' (l.set i (.val (yV (.ref aa)) ())) (ts aa cls none) ⟨N, D.rt, B, C⟩ P r0) :
    Bd F O l (tSeq (fun D σ H => tSeq (tAsg (tCallS (spO args pre u cls f) (WE (wAs K c i ts Wout D)) tr) (gName j)) tNext D σ H) rest) D P (oel (f a) r0 k) := fun hr σ H kk =>
  h σ H kk _ fun vs H1 s1 k1 r1 => by
    subst e
    refine ⟨ad F O', a, k1.hx.adom, r1, hp, fun b hb v H' s r => ?_, fun hn H' s => ?_⟩
    · rw [hb] at hr
      exact h1 b hb hr _ H' ((k1.grow s).set j r)
    · rw [hn] at hr
      exact ⟨true, hc, fun _ aa haa => h2 hn aa _ _ _ hr _ H' ((k1.grow s).set (t := yV (.ref aa)) (a := ()) i rfl), fun z => nomatch z⟩
theorem nx_wk {nx : L2.St → Hp → Prop} (n : Nx F O l' nx) (h : Wk l l') : Nx F O l nx := n.wk h
theorem lit_len {xs : List α} (n : Nat) (h : xs.length = n) (k : n ≤ sizeLine) : xs.length ≤ sizeLine := h ▸ k
theorem inb0 {xs : List α} (h : xs ≠ []) : Inb xs 0 := by
  cases xs with
  | nil => exact absurd rfl h
  | cons a xs => exact ⟨by omega, by rw [List.length_cons]; omega⟩
theorem inbl {xs : List α} (h : xs ≠ []) : Inb xs (-1) := by
  cases xs with
  | nil => exact absurd rfl h
  | cons a xs => exact ⟨by rw [List.length_cons]; omega, by omega⟩
theorem b_fall {ts : TS} (h : Bd F O l ts D P r) : Bd F O l tNext { D with nx := ts D } P r := fun p σ H k => h p σ H k
theorem b_dead {ts : TS} (h : False) : Bd F O l ts D P r := h.elim
theorem tk_never {X : Cx} : Takes X (fun _ _ _ _ => False) := fun _ _ ⟨_, _, _, _, _, _, _, _, _, _, _, _, _, _, _, _, w⟩ => w.elim
/-- isinstance(e, C) in the suite of 'except .. as e' -/
def rIsX (K : PySem.W.Frag) (cls : Value) (d : Option Addr) (a : Addr) : List V → Hp → VK → Prop := fun xs H Q => ∃ D, cls = .ref D ∧ d = none ∧ ExcC K D ∧ rIsE K D a xs H Q
theorem call_isX {X : Cx} {a : Addr} {oe : Obj} {pn : List (Addr × Obj)} {cls : Value} {d : Option Addr} (hz : Zc cls d oe) (hf : ∃ vs, oe.data = .fields vs) : CallR (X.suite a ((a, oe) :: pn)) (.builtin "isinstance") (rIsX X.K cls d a) := by
  rintro pins s σ H xs us Q I r ⟨D, rfl, rfl, hC, h⟩
  exact call_isE hC hz hf pins s σ H xs us Q I r h
theorem ev_isX {C E : Addr} {aa : Addr} {bb : Bool} (hC : ExcC K E) (he : Ev F O l te (yV (.ref aa)) () O1) (h : PySem.W.kitOne K (.ref E) (.ref C) = some bb) : Ev F O l (tCB (rIsX K (.ref E) none aa) (tCons te (tCons (tC (.ref C)) tNil))) yB bb O1 :=
  ev_cb2 he ev_val fun H x y hx r1 r2 Q q => ⟨E, rfl, rfl, hC, .ref C, .ref C, bb, by rw [show x = _ from r1, show y = _ from r2], fun u hu => hu, h, q _ H (same_refl _) rfl⟩

/-! ### an owned list that is lent -/
class Flat (u : Ty β) : Prop where
  ind : ∀ {B B' : Hp} {v : V} {b : β}, u.rp B v b → u.rp B' v b
instance : Flat yI := ⟨fun h => h⟩
instance : Flat yB := ⟨fun h => h⟩
instance : Flat yS := ⟨fun h => h⟩
instance : Flat yN := ⟨fun h => h⟩
def Bw (F : Fx) (O : Own) (l l' : Lc) : Prop := ∀ σ H, Ok F O l σ H → Ok F [] l' σ H
theorem bw_all : Bw F O l l := fun σ H k => by
  have sub : ∀ b ∈ ad F [], b ∈ ad F O := fun b hb => List.mem_append_right _ hb
  obtain ⟨ws, hw⟩ := k.gh
  exact ⟨k.sl.imp fun _ _ z => z.mono (bar_mono sub), ⟨ws, hw.imp fun _ _ z => z.mono (bar_mono sub)⟩, ⟨fun q hq => (nomatch hq), List.nodup_nil, fun q hq => (nomatch hq), fun q hq => (nomatch hq), k.hx.dom, k.hx.keep⟩⟩
theorem bw_at {p : Addr} {xs : List α} (i k : Nat) (h : Bw F O l l') (hi : l.s[i]? = some (.val (yV (.ref p)) ()) := by rfl) (hk : O[k]? = some (p, cL t xs) := by rfl) : Bw F O l (l'.set i (.val (yL t) xs)) := fun σ H kk => by
  have k2 := h σ H kk
  obtain ⟨o, ho, vs, e, hl, rr⟩ := own_at kk.hx hk
  subst e
  obtain ⟨o, e1, v, e2, rv⟩ := slot_of (σ := []) (i := 0) kk.sl hi
  have sub : ∀ b ∈ ad F [], b ∈ ad F O := fun b hb => List.mem_append_right _ hb
  have np : p ∉ ad F [] := fun z => kk.hx.ndM _ (List.mem_of_getElem? hk) z
  have k3 := k2.set (t := yL t) (a := xs) (v := .ref p) i ⟨p, vs, rfl, bar_some.mpr ⟨np, ho⟩, hl, rr.imp fun _ _ z => t.mono (bar_mono sub) z⟩
  have e3 : σ.set i (some (.ref p)) = σ := by
    have rv' : v = .ref p := rv
    subst e2 rv'
    obtain ⟨hlt, e4⟩ := List.getElem?_eq_some_iff.mp e1
    rw [← e4]
    exact List.set_getElem_self hlt
  rw [e3] at k3
  exact k3
theorem ev_bor [fl : Flat u] (hb : Bw F O l l') (he : Ev F [] l' te u b []) : Ev F O l te u b O := fun σ H k Q q =>
  he σ H (hb σ H k) _ fun v H1 s1 k1 r1 => by
    have s : Same H H1 := fun a o h => s1.frm a o h List.not_mem_nil
    exact q v H1 (Mv.refl.grow s) (k.grow s) (fl.ind r1)
end
end TL
/-! plain mathematics: sizes, loops -/
namespace TL
open PySem L2

/-! ### sizes -/
def Sz (n : Nat) (x : Int) : Prop := x.natAbs < 2 ^ n
theorem sz_mono {m n : Nat} {x : Int} (h : Sz m x) (hm : m ≤ n) : Sz n x := Nat.lt_of_lt_of_le h (Nat.pow_le_pow_right (by decide) hm)
theorem sz_mul {m n : Nat} {x y : Int} (h : Sz m x) (k : Sz n y) : Sz (m + n) (x * y) := by
  unfold Sz at *
  rw [Int.natAbs_mul, Nat.pow_add]
  exact Nat.mul_lt_mul'' h k
theorem sz_add {n : Nat} {x y : Int} (h : Sz n x) (k : Sz n y) : Sz (n + 1) (x + y) := by
  unfold Sz at *
  rw [Nat.pow_succ]
  have := Int.natAbs_add_le x y
  omega
theorem sz_sub {n : Nat} {x y : Int} (h : Sz n x) (k : Sz n y) : Sz (n + 1) (x - y) := by
  unfold Sz at *
  rw [Nat.pow_succ]
  have := Int.natAbs_sub_le x y
  omega
theorem sz_neg {n : Nat} {x : Int} (h : Sz n x) : Sz n (-x) := by
  unfold Sz at *
  rwa [Int.natAbs_neg]
theorem sz_log {n : Nat} {x : Int} (h : Sz n x) (hn : 0 < n) : x.natAbs.log2 < n := by
  by_cases h0 : x.natAbs = 0
  · rw [h0]
    simpa using hn
  · exact (Nat.log2_lt h0).mpr h
theorem sz_mulW {m n : Nat} {x y : Int} (h : Sz m x) (k : Sz n y) (hm : 0 < m := by decide) (hn : 0 < n := by decide) (hs : m + n < 1000000 := by decide) : CMulW x y := by
  have h1 := sz_log h hm
  have h2 := sz_log k hn
  unfold CMulW
  omega
theorem sz_le {n : Nat} {x y : Int} (h : Sz n x) (k : y.natAbs ≤ x.natAbs) : Sz n y := Nat.lt_of_le_of_lt k h
theorem sz_divW {n : Nat} {x y : Int} (h : Sz n y) (h0 : 0 < y) (hn : 0 < n := by decide) (hs : n ≤ 9000 := by decide) : CDivW x y := ⟨h0, by have := sz_log h hn; omega⟩
theorem sz_divZ {n : Nat} {x y : Int} (h : Sz n y) (h0 : y ≠ 0) (hn : 0 < n := by decide) (hs : n ≤ 9000 := by decide) : CDivZ x y := ⟨h0, by have := sz_log h hn; omega⟩
theorem sz_lit {n : Nat} {x : Int} (h : decide (x.natAbs < 2 ^ n) = true) : Sz n x := by
  unfold Sz
  exact of_decide_eq_true h

theorem bnd_eq {α : Type u} {β : Type v} {a : α} {k : α → β} {r : β} (h : ∀ y, y = a → k y = r) : bnd a k = r := h a rfl
/-! ### loops -/
section
variable {S ρ α β : Type}
theorem whileL_inv {c : S → Prop} [DecidablePred c] {f : S → Stp S ρ} (J : S → Prop) (hf : ∀ s, J s → c s → ∃ s', f s = .go s' ∧ J s') : ∀ (n : Nat) (s : S), J s → ∃ s', whileL c f n s = .go s' ∧ J s'
  | 0, s, h => ⟨s, rfl, h⟩
  | n + 1, s, h => by
    show ∃ s', (if c s then (f s).bnd (whileL c f n) else .go s) = .go s' ∧ J s'
    by_cases hc : c s
    · rw [if_pos hc]
      obtain ⟨s1, e, h1⟩ := hf s h hc
      rw [e]
      exact whileL_inv J hf n s1 h1
    · rw [if_neg hc]
      exact ⟨s, rfl, h⟩
/-- .. with the test false at the end -/
theorem whileL_end {c : S → Prop} [DecidablePred c] {f : S → Stp S ρ} (J : S → Prop) (μ : S → Nat) (hf : ∀ s, J s → c s → ∃ s', f s = .go s' ∧ J s' ∧ μ s' < μ s) : ∀ (n : Nat) (s : S), J s → μ s < n → ∃ s', whileL c f n s = .go s' ∧ J s' ∧ ¬ c s'
  | 0, s, h, hn => absurd hn (Nat.not_lt_zero _)
  | n + 1, s, h, hn => by
    show ∃ s', (if c s then (f s).bnd (whileL c f n) else .go s) = .go s' ∧ J s' ∧ ¬ c s'
    by_cases hc : c s
    · rw [if_pos hc]
      obtain ⟨s1, e, h1, h2⟩ := hf s h hc
      rw [e]
      exact whileL_end J μ hf n s1 h1 (by omega)
    · rw [if_neg hc]
      exact ⟨s, rfl, h, hc⟩
/-- a loop that never returns keeps what its turns keep -/
theorem forL_go {f : S → α → Stp S ρ} (J : List α → S → Prop) : ∀ (xs pre : List α) (s : S), J pre s → (∀ p x q s, pre ++ xs = p ++ x :: q → J p s → ∃ s', f s x = .go s' ∧ J (p ++ [x]) s') → ∃ s', forL f xs s = .go s' ∧ J (pre ++ xs) s'
  | [], pre, s, h, _ => ⟨s, rfl, by rw [List.append_nil]; exact h⟩
  | x :: xs, pre, s, h, hf => by
    obtain ⟨s1, e, h1⟩ := hf pre x xs s rfl h
    obtain ⟨s2, e2, h2⟩ := forL_go J xs (pre ++ [x]) s1 h1 (fun p y q s e3 => hf p y q s (by rw [← e3, List.append_assoc]; rfl))
    refine ⟨s2, ?_, by rw [List.append_assoc] at h2; exact h2⟩
    show (f s x).bnd (forL f xs) = _
    rw [e]
    exact e2
theorem forL_go0 {f : S → α → Stp S ρ} (J : List α → S → Prop) {xs : List α} {s : S} (h : J [] s) (hf : ∀ p x q s, xs = p ++ x :: q → J p s → ∃ s', f s x = .go s' ∧ J (p ++ [x]) s') : ∃ s', forL f xs s = .go s' ∧ J xs s' := forL_go J xs [] s h hf
/-- every turn goes on: nothing is changed -/
theorem forL_unit {f : Unit → α → Stp Unit ρ} {xs : List α} (h : ∀ x ∈ xs, f () x = .go ()) : forL f xs () = .go () := by
  obtain ⟨s, e, _⟩ := forL_go (f := f) (fun _ _ => True) xs [] () trivial (fun p x q s e _ => ⟨(), h x (by rw [show xs = p ++ x :: q from e]; simp), trivial⟩)
  exact e
theorem mapS_inv {f : S → α → β × S} (J : S → Prop) (R : β → Prop) (hf : ∀ s x, J s → R (f s x).1 ∧ J (f s x).2) : ∀ (xs : List α) (s : S), J s → (∀ y ∈ (mapS f xs s).1, R y) ∧ J (mapS f xs s).2 ∧ (mapS f xs s).1.length = xs.length
  | [], s, h => ⟨fun _ z => (nomatch z), h, rfl⟩
  | x :: xs, s, h => by
    obtain ⟨h1, h2⟩ := hf s x h
    obtain ⟨h3, h4, h5⟩ := mapS_inv J R hf xs _ h2
    refine ⟨fun y hy => ?_, h4, congrArg Nat.succ h5⟩
    rcases List.mem_cons.mp hy with e | e
    · rw [e]; exact h1
    · exact h3 y e
theorem mem_rng {lo x : Int} {n : Nat} (h : x ∈ rng lo n) : lo ≤ x ∧ x < lo + n := by
  unfold rng at h
  obtain ⟨i, hi, e⟩ := List.mem_map.mp h
  have := List.mem_range.mp hi
  omega
theorem ix_mem {α : Type} [Inhabited α] {xs : List α} {i : Int} (h : Inb xs i) : ix xs i ∈ xs := by
  obtain ⟨j, e, hj⟩ := ixN_of h
  have : atI xs i = xs[j]? := by unfold atI; rw [e]; rfl
  rw [ix_of (x := xs[j]) (by rw [this]; exact List.getElem?_eq_getElem hj)]
  exact List.getElem_mem hj
end

/-! ### the greatest common divisor -/
theorem fmod_abs_lt (a : Int) {b : Int} (h : b ≠ 0) : (a.fmod b).natAbs < b.natAbs := by
  rcases Int.lt_or_lt_of_ne h with hb | hb
  · have h1 : a.fmod b = -((-a).fmod (-b)) := by rw [Int.neg_fmod_neg]; omega
    have h2 := Int.fmod_nonneg_of_pos (-a) (b := -b) (by omega)
    have h3 := Int.fmod_lt_of_pos (-a) (b := -b) (by omega)
    omega
  · have h2 := Int.fmod_nonneg_of_pos a hb
    have h3 := Int.fmod_lt_of_pos a hb
    omega
theorem gcd_fmod (a b : Int) : Int.gcd b (a.fmod b) = Int.gcd a b := by
  rw [Int.fmod_def, Int.gcd_sub_mul_left_right, Int.gcd_comm]
theorem gcd_loop {ρ : Type} {f : Int × Int → Stp (Int × Int) ρ} (hf : ∀ s, f s = .go (s.2, s.1.fmod s.2)) (a b : Int) (n : Nat) (hn : b.natAbs < n) : ∃ g, whileL (fun s : Int × Int => ¬ s.2 = 0) f n (a, b) = .go (g, 0) ∧ g.natAbs = Int.gcd a b ∧ (0 ≤ a → 0 ≤ b → 0 ≤ g) := by
  obtain ⟨s, e, ⟨h1, h2⟩, h3⟩ := whileL_end (c := fun s : Int × Int => ¬ s.2 = 0) (f := f) (fun s => Int.gcd s.1 s.2 = Int.gcd a b ∧ (0 ≤ a → 0 ≤ b → 0 ≤ s.1 ∧ 0 ≤ s.2)) (fun s => s.2.natAbs)
    (fun s hJ hc => ⟨_, hf s, ⟨(gcd_fmod _ _).trans hJ.1, fun ha hb => ⟨(hJ.2 ha hb).2, Int.fmod_nonneg (hJ.2 ha hb).1 (hJ.2 ha hb).2⟩⟩, fmod_abs_lt _ hc⟩) n (a, b) ⟨rfl, fun ha hb => ⟨ha, hb⟩⟩ hn
  obtain ⟨g, z⟩ := s
  have hz : z = 0 := Decidable.of_not_not h3
  subst hz
  exact ⟨g, e, by rw [← h1]; simp, fun ha hb => (h2 ha hb).1⟩
end TL
namespace TL
open PySem L2 PyProof.Rows
section
variable {A A2 S S2 β : Type} {K : PySem.W.Frag}
theorem ok_P {c : A → Cell} {args : Addr → A → List Sl} {H : Hp} {M : List Addr} {p : Addr} {a : A} {o : HO} {vs : List V} {N : List Str} (hpM : p ∉ M) (hM : ∀ m ∈ M, H m ≠ none) (hp0 : H p = some o) (hc : (c a).ok (bar H (p :: M)) o) (hA : AOk (bar H (p :: M)) vs (args p a)) :
    Ok ⟨H, [p], M⟩ [(p, c a)] (slots (args p a) N.length) (L2.start N vs) H := by
  refine ⟨?_, ⟨[], .nil⟩, ?_⟩
  · exact start_ok hA
  · exact ⟨fun q hq => by rw [List.mem_singleton.mp hq]; exact ⟨o, hp0, hc⟩, List.nodup_cons.mpr ⟨List.not_mem_nil, List.nodup_nil⟩, fun q hq => by rw [List.mem_singleton.mp hq]; exact hpM, fun q hq => by rw [List.mem_singleton.mp hq]; exact .inl List.mem_cons_self,
      fun b hb z => hb.elim (fun y => by rw [List.mem_singleton.mp y, hp0] at z; cases z) (fun y => hM b y z), Frm.refl⟩
/-- what fn_super asks of a body: the call of super's method, the rest -/
theorem super_go {C : Addr} {ns : List Str} {sl : A → List Sl} {args : Addr → A → List Sl} {cc : S → Cell} {pre : A → Prop} {u : Ty β} {m : A → β × S} {args2 : Addr → A2 → List Sl} {c2 : A2 → Cell} {cc2 : S2 → Cell} {pre2 : A2 → Prop} {m2 : A2 → Unit × S2} {N : List Str} {tA : TA} {t : TS} {vs : List V} {H : Hp} {Q : VK} {E : XK} {f2 : Addr}
    (h : spP args (fun a => cO C ns (sl a)) cc pre u m vs H Q E) (h0 : ∀ p a, ∃ r, args p a = .val (yV (.ref p)) () :: r)
    (hb : ∀ F p a rt, pre a → ∃ a2 sls, EvA F [(p, cO C ns (sl a))] (slots (args p a) N.length) tA sls [(p, cO C ns (sl a))] ∧ Sl.val (yV (.ref p)) () :: sls = args2 p a2 ∧ cO C ns (sl a) = c2 a2 ∧ pre2 a2 ∧ Bd F [(p, cc2 (m2 a2).2)] (slots (args p a) N.length) t (ends rt) (OutsP F p cc u rt) (m a)) :
    ∃ x dx fs, vs[0]? = some (.ref x) ∧ H x = some (.ins C dx fs) ∧ ∀ q, H q = none → tA (L2.start N vs) (upd H q (.met f2 x)) fun ws H1 => H1 q = some (.met f2 x) ∧ spP args2 c2 cc2 pre2 yN m2 (.ref x :: ws) H1 (fun _ H2 => t (ends Q) (L2.start N vs) H2) E0 := by
  obtain ⟨M, p, a, o, hpM, hM, hp0, hc, hA, hp, hQ⟩ := h
  have k0 : Ok ⟨H, [p], M⟩ [(p, cO C ns (sl a))] (slots (args p a) N.length) (L2.start N vs) H := ok_P (c := fun a => cO C ns (sl a)) (args := args) hpM hM hp0 hc hA
  obtain ⟨dx, vs', eo, hk⟩ := id hc
  obtain ⟨r0, er0⟩ := h0 p a
  have hv0 : vs[0]? = some (.ref p) := by
    have hA' := hA
    rw [er0] at hA'
    cases hA' with
    | cons r _ =>
      obtain ⟨v, e, r⟩ := r
      cases e
      have r' : _ = V.ref p := r
      rw [r']
      rfl
  subst eo
  refine ⟨p, dx, vs', hv0, hp0, fun q hq => ?_⟩
  obtain ⟨a2, sls, hE, e1, e2, hp2, hB⟩ := hb ⟨H, [p], M⟩ p a Q hp
  have hO : OutsP ⟨H, [p], M⟩ p cc u Q (m a) := fun O l σ v H' k r => by
    obtain ⟨o', e, hok⟩ := k.hx.own _ List.mem_cons_self
    have sub : ∀ b ∈ p :: M, b ∈ ad ⟨H, [p], M⟩ ((p, cc (m a).2) :: O) := fun b hb => by
      rcases List.mem_cons.mp hb with z | z
      · rw [z]
        exact List.mem_append_left _ List.mem_cons_self
      · exact List.mem_append_right _ z
    exact hQ v H' o' k.hx.keep e (Cell.mono _ (bar_mono sub) hok) (u.mono (bar_mono sub) r)
  refine hE _ _ (k0.grow (Same.new hq)) _ fun ws H1 mv k2 r2 => ⟨?_, ?_⟩
  · refine mv.frm q _ upd_same fun z => ?_
    rw [List.mem_singleton.mp z] at hq
    rw [hp0] at hq
    cases hq
  · obtain ⟨o2, ho2, hok2⟩ := k2.hx.own _ List.mem_cons_self
    have eb : ∀ H : Hp, bar H (p :: M) = br ⟨H1, [p], M⟩ [(p, cO C ns (sl a))] H := fun H => bar_congr fun b => Iff.rfl
    have eb2 : ∀ H' : Hp, bar H' (p :: M) = br ⟨H, [p], M⟩ [(p, cO C ns (sl a))] H' := fun H' => bar_congr fun b => Iff.rfl
    refine ⟨M, p, a2, o2, hpM, fun b hb => k2.hx.dom b (.inr hb), ho2, ?_, ?_, hp2, fun v H' o' fr ho' hok' hv => ?_⟩
    · rw [← e2, eb2]
      exact hok2
    · rw [← e1, eb2]
      exact .cons (show SlOk _ (some (.ref p)) (.val (yV (.ref p)) ()) from ⟨_, rfl, rfl⟩) r2
    · rw [eb2] at hok'
      obtain ⟨k3, _⟩ := k2.chg (k := 0) (p := p) (ce := cO C ns (sl a)) (ce' := cc2 (m2 a2).2) rfl fr ho' hok'
      exact hB hO _ H' k3
/-- a def that asks super: how it stands in K -/
def SupD (P : Program) (K : PySem.W.Frag) (st : Stmt) (name qual : Str) (f D : Addr) : Prop :=
  ∃ cda cc oc od osl kV doc pm an ct, K.lookup f = some ⟨oc, od, .func (PySem.W.fnX name qual (defArgs st) (defBody st) (defScope st) [("__class__", cc)] .none kV doc pm an (.ref cda) ct), osl⟩ ∧ PySem.W.codeIn K (.ref cda) qual = true ∧ SupF P K cda cc D
end
end TL
/-! the head: facts by names, with defs that ask super -/
namespace TL
open PySem L2 PyProof.Rows
abbrev FnS : Type := Option (Str × Str × Arguments × FuncBody × Scope × Addr × List Str × Value × Addr)
def fnS (K : PySem.W.Frag) (f : Addr) : FnS := match K.lookup f with
  | some ⟨_, _, .func fd, _⟩ => some (fd.name, fd.qualname, fd.params, fd.body, fd.scope, fd.globals, fd.closure.map (·.1), fd.defaults, fd.builtins)
  | _ => none
/-- one def that asks super: its class, its name, its text -/
structure SDf where
  cls : Str
  name : Str
  qual : Str
  st : Stmt
def SDf.ad (K : PySem.W.Frag) (d : SDf) : Addr := He.ma K (He.ga K d.cls) d.name
def SDf.val (d : SDf) : FnS := some (d.name, d.qual, defArgs d.st, .stmts (defBody d.st), defScope d.st, mainGlobals, ["__class__"], .none, builtinsNs)
def supOk (P : Program) (K : PySem.W.Frag) (f D : Addr) (qual : Str) : Bool := match K.lookup f with
  | some ⟨_, _, .func fd, _⟩ => (match fd.closure with
    | [(_, cc)] => (match K.lookup cc with
      | some ⟨_, _, .cell (some (.ref E)), _⟩ => E == D
      | _ => false)
    | _ => false) && (PySem.W.codeIn K fd.code qual && ((match fd.code with
    | .ref cda => (match K.lookup cda with
      | some ⟨_, _, .fields vs, _⟩ => (match (vs[2]? : Option Value) with
        | some (Value.str file _) => (P.main.file : Str) == file
        | _ => false)
      | _ => false)
    | _ => false) && ((PySem.W.clsIn K D).isSome && !(P.main.scope.names.lookup ("super" : Str)).isSome)))
  | _ => false
theorem supD_of {P : Program} {K : PySem.W.Frag} {d : SDf} (e : fnS K (d.ad K) = d.val) (c : supOk P K (d.ad K) (He.ga K d.cls) d.qual = true) : SupD P K d.st d.name d.qual (d.ad K) (He.ga K d.cls) := by
  unfold fnS at e
  unfold supOk at c
  cases q : K.lookup (d.ad K) with
  | none =>
    rw [q] at c
    cases c
  | some o =>
    obtain ⟨oc, od, dt, osl⟩ := o
    rw [q] at c e
    cases dt with
    | func fd =>
      obtain ⟨n1, n2, n3, n4, n5, n6, n7, n8, n9, n10, n11, n12, n13, n14, n15⟩ := fd
      have e2 : (some (n1, n2, n3, n4, n5, n6, n7.map (·.1), n8, n15) : FnS) = d.val := e
      unfold SDf.val at e2
      simp only [Option.some.injEq, Prod.mk.injEq] at e2
      obtain ⟨h1, h2, h3, h4, h5, h6, h7, h8, h9⟩ := e2
      subst h1 h2 h3 h4 h5 h6 h8 h9
      obtain ⟨c1, c2⟩ := He.ba c
      obtain ⟨c3, c4⟩ := He.ba c2
      obtain ⟨c5, c6⟩ := He.ba c4
      obtain ⟨c7, c8⟩ := He.ba c6
      cases n7 with
      | nil => cases h7
      | cons p r =>
        obtain ⟨nm, cc⟩ := p
        cases r with
        | cons p2 r2 => cases h7
        | nil =>
          have hnm : nm = "__class__" := (List.cons.inj h7).1
          subst hnm
          cases q2 : K.lookup cc with
          | none =>
            simp only [q2] at c1
            cases c1
          | some oo =>
            obtain ⟨cl, cld, cdt, csl⟩ := oo
            simp only [q2] at c1
            cases cdt with
            | cell v =>
              cases v with
              | none => cases c1
              | some v =>
                cases v with
                | ref E =>
                  have hE : E = He.ga K d.cls := beq_iff_eq.mp c1
                  subst hE
                  cases n13 with
                  | ref cda =>
                    simp only at c5
                    cases q3 : K.lookup cda with
                    | none =>
                      rw [q3] at c5
                      cases c5
                    | some ooo =>
                      obtain ⟨ccl, cdd, ddt, ccs⟩ := ooo
                      rw [q3] at c5
                      cases ddt with
                      | fields vs =>
                        simp only at c5
                        cases q4 : vs[2]? with
                        | none =>
                          rw [q4] at c5
                          cases c5
                        | some fv =>
                          rw [q4] at c5
                          cases fv with
                          | str file tf =>
                            refine ⟨cda, cc, oc, od, osl, n9, n10, n11, n12, n14, q, c3, ⟨_, _, vs, _, file, tf, q3, q4, c5⟩, ⟨_, _, _, q2⟩, c7, ?_⟩
                            cases hh : (P.main.scope.names.lookup ("super" : Str)).isSome with
                            | true =>
                              rw [hh] at c8
                              cases c8
                            | false => rfl
                          | _ => cases c5
                      | _ => cases c5
                  | _ => cases c5
                | _ => cases c1
            | _ => cases c1
    | _ => cases c
abbrev AlQ : Type := He.AlD × List FnS × Bool
def obsQ (fa : List He.Fa) (fn : List He.DefD) (sd : List SDf) (ex : PySem.W.Frag → List Bool) (K : PySem.W.Frag) : AlQ := (He.obsD fa fn K, sd.map (fun d => fnS K (d.ad K)), (ex K).all id)
def valQ (fn : List He.DefD) (sd : List SDf) : AlQ := (He.valD fn, sd.map SDf.val, true)
/-- what stands within n steps of the module's names: new places alone are looked at again; m tells as a mask what was seen -/
def addE : List Addr → List Addr → Nat → (List Addr → Nat → List Addr × Nat) → List Addr × Nat
  | [], acc, m, k => k acc m
  | r :: rs, acc, m, k => match Nat.ble 1 (Nat.land (Nat.shiftRight m r) 1) with
    | true => addE rs acc m k
    | false => addE rs (r :: acc) (Nat.lor m (Nat.shiftLeft 1 r)) k
def lvlE (g : Addr → Option Obj) : List Addr → List Addr → Nat → List Addr × Nat
  | [], acc, m => (acc, m)
  | a :: as, acc, m => match g a with
    | some o => addE (He.refsD o) acc m (lvlE g as)
    | none => lvlE g as acc m
def asE (g : Addr → Option Obj) : Nat → List Addr → List Addr → Nat → List Addr
  | 0, all, _, _ => all
  | n + 1, all, fr, m => match lvlE g fr [] m with
    | (x, m2) => asE g n (x ++ all) x m2
def asF (g : Addr → Option Obj) (n : Nat) : List Addr := asE g n [mainGlobals] [mainGlobals] (Nat.shiftLeft 1 mainGlobals)
def obsQG (n : Nat) (fa : List He.Fa) (fn : List He.DefD) (sd : List SDf) (ex : PySem.W.Frag → List Bool) (g : Addr → Option Obj) : AlQ := obsQ fa fn sd ex (He.frG g (cStatics :: asF g n))
def SaysQ (fa : List He.Fa) (fn : List He.DefD) (sd : List SDf) (ex : PySem.W.Frag → List Bool) (K : PySem.W.Frag) : Prop := obsQ fa fn sd ex K = valQ fn sd
def hookQ (n : Nat) (fa : List He.Fa) (fn : List He.DefD) (sd : List SDf) (ex : PySem.W.Frag → List Bool) : PySem.W.Hook where
  α := AlQ
  obs := fun s => obsQG n fa fn sd ex s.heap.get?
  val := fun _ => valQ fn sd
  says := fun _ h => ∃ K : PySem.W.Frag, K.In h ∧ SaysQ fa fn sd ex K
  of := fun _ _ e => ⟨_, He.frG_in, e⟩
  keeps := fun _ _ _ ⟨K, hK, c⟩ k => ⟨K, PySem.W.Frag.In.keeps hK k, c⟩
theorem obsQG_eq {n : Nat} {fa : List He.Fa} {fn : List He.DefD} {sd : List SDf} {ex : PySem.W.Frag → List Bool} {g : Addr → Option Obj} {s : Shared} (h : ∀ a, g a = s.heap.get? a) : obsQG n fa fn sd ex g = (hookQ n fa fn sd ex).obs s := by
  have e : g = s.heap.get? := funext h
  rw [e] <;> rfl
section
variable {fa : List He.Fa} {fn : List He.DefD} {sd : List SDf} {ex : PySem.W.Frag → List Bool} {K : PySem.W.Frag}
theorem SaysQ.d (c : SaysQ fa fn sd ex K) : He.SaysD fa fn K := congrArg (fun z : AlQ => z.1) c
theorem SaysQ.more (c : SaysQ fa fn sd ex K) (i : Nat) {b : Bool} (h : (ex K)[i]? = some b) : b = true := by
  have e : (ex K).all id = true := congrArg (fun z : AlQ => z.2.2) c
  exact List.all_eq_true.mp e b (List.mem_of_getElem? h)
theorem SaysQ.sup (c : SaysQ fa fn sd ex K) (i : Nat) {d : SDf} (h : sd[i]? = some d) : fnS K (d.ad K) = d.val := by
  have e : sd.map (fun d => fnS K (d.ad K)) = sd.map SDf.val := congrArg (fun z : AlQ => z.2.1) c
  have e2 : (sd.map (fun d => fnS K (d.ad K)))[i]? = (sd.map SDf.val)[i]? := by rw [e]
  rw [List.getElem?_map, List.getElem?_map, h] at e2
  exact Option.some.inj e2
end
theorem of_dec {p : Prop} [Decidable p] {b : Bool} (h : b = true) (e : b = decide p) : p := of_decide_eq_true (e ▸ h)

/-! ### the script -/
def yF {α : Type} (K : PySem.W.Frag) (t : Ty α) : Ty (List α) :=
  ⟨fun H v xs => ∃ a vs, v = .ref a ∧ SqL K H a vs ∧ vs.length ≤ sizeLine ∧ A2 (t.rp H) vs xs, fun s ⟨a, vs, e, h, l, p⟩ => ⟨a, vs, e, by
    rcases h with (h | ⟨o, h⟩) | h
    · exact .inl (.inl (s _ _ h))
    · exact .inl (.inr ⟨o, s _ _ h⟩)
    · exact .inr h, l, p.imp fun _ _ z => t.mono s z⟩⟩
theorem sqL_sub {K : PySem.W.Frag} {B H : Hp} {a : Addr} {vs : List V} (s : Same B H) (h : SqL K B a vs) : SqL K H a vs := by
  rcases h with (h | ⟨o, h⟩) | h
  · exact .inl (.inl (s _ _ h))
  · exact .inl (.inr ⟨o, s _ _ h⟩)
  · exact .inr h
theorem evl_uptoF {α : Type} {F : Fx} {O O1 O2 : Own} {l : Lc} {K : PySem.W.Frag} {ta tb : TE} {t : Ty α} {xs : List α} {n : Int} (ha : Ev F O l ta (yF K t) xs O1) (hb : Ev F O1 l tb yI n O2) (hn : 0 ≤ n) : EvL F O l (tSl (rSlL K) ta tNoPart (tPart tb)) t (xs.take n.toNat) O2 := fun σ H k Q q =>
  ha σ H k _ fun x H1 s1 k1 r1 => hb σ H1 k1 _ fun y H2 s2 k2 r2 => by
    obtain ⟨p, vs, e, hp, hl, r⟩ := (yF K t).mono s2.same r1
    refine ⟨n, r2, p, vs, e, sqL_sub bar_sub hp, fun z hz => ?_⟩
    have e2 : L2.cutV vs none (some n) = vs.take n.toNat := by
      unfold L2.cutV
      rw [HT.sIx_none, show n = (n.toNat : Int) by omega, HT.sIx_nat, List.drop_zero, Nat.sub_zero, Int.toNat_natCast]
      rcases Nat.le_total n.toNat vs.length with h | h
      · rw [Nat.min_eq_left h]
      · rw [Nat.min_eq_right h, List.take_length, List.take_of_length_le h]
    rw [e2]
    exact q z _ H2 (s1.trans s2) k2 hz (k2.hx.fresh0 hz) (by rw [List.length_take]; omega) (a2_take _ r)
theorem a2_ofInts {B : Hp} : ∀ ns : List Int, A2 (yI.rp B) (ns.map V.int) ns
  | [] => .nil
  | n :: ns => .cons rfl (a2_ofInts ns)
/-- the law's def, asked of a script -/
theorem law_sp {K : PySem.W.Frag} {f : List Int → Bool} {H : Hp} {a : Addr} {ns : List Int} {E : XK} (pre : List Int → Prop) (hp : pre ns) (hn : ns.length ≤ 63) (h : SqL K H a (ns.map V.int)) (ht : f ns = true) :
    spF (fun a : List Int => [.val (yF K yI) a]) pre yB f [.ref a] H (fun v _ => v = .bl true) E := by
  refine ⟨[], ns, fun _ z => (nomatch z), ?_, hp, fun v H' _ r => ?_⟩
  · refine .cons (show SlOk _ (some (.ref a)) (.val (yF K yI) ns) from ⟨_, rfl, a, ns.map V.int, rfl, ?_, ?_, a2_ofInts ns⟩) .nil
    · have e : bar H [] = H := by
        funext b
        unfold bar
        rw [if_neg List.not_mem_nil]
      rw [e]
      exact h
    · rw [List.length_map]
      exact Nat.le_trans hn (by decide)
  · rw [show v = _ from r, ht]
theorem cx_never {P : Program} {w : World} {H : Hp} {s : Shared} {e : Value} {s' : Shared} (h : L2.CX P w [] H s (fun _ _ _ => False) e s') : False := by
  obtain ⟨_, _, _, _, _, _, _, _, _, _, _, _, h⟩ := h
  exact h
end TL
/-! zip of two or three sequences, each a list or a tuple -/
namespace TL
open PySem L2 PyProof.Rows PySem.Spec

def SqK (K : PySem.W.Frag) (H : Hp) (k : Bool) (a : Addr) (xs : List V) : Prop := match k with
  | true => SqL K H a xs
  | false => SqT K H a xs
def ItK (h : Heap) (k : Bool) (it a : Addr) (i : Nat) : Prop := match k with
  | true => h.IsListIter it a i
  | false => h.IsTupleIter it a i
def HasK (h : Heap) (k : Bool) (a : Addr) (its : Array Value) : Prop := match k with
  | true => h.IsList a its
  | false => h.IsTuple a its
def oItK (k : Bool) (a : Addr) : Obj := match k with
  | true => { cls := .type "list_iterator", data := .fields #[.ref a, .int 0 0] }
  | false => { cls := .type "tuple_iterator", data := .fields #[.ref a, .int 0 0] }
theorem drawsK {prog : Program} {w : World} {A : Around} (hh : A.handled = none) (k : Bool) (it l : Addr) (hne : l ≠ it) (items : Array Value) :
    Draws prog w A it [it, l] items.size (fun i v => items[i]? = some v) (fun i h => ItK h k it l i ∧ HasK h k l items) := by
  cases k with
  | true => exact Draws.list hh it l hne items
  | false => exact Draws.tuple hh it l hne items
theorem beginsK (k : Bool) (l : Addr) (items : Array Value) : Begins (.ref l) (oItK k l) (fun h => HasK h k l items) := by
  cases k with
  | true => exact begins_list l items
  | false => exact begins_tuple l items
section
variable {X : Cx} {pins : List (Addr × Obj)} {σ : L2.St} {H : Hp} {s : Shared}
theorem hasK (I : Inv X pins σ H s) {k : Bool} {a : Addr} {xs : List V} (h : SqK X.K H k a xs) : ∃ its : List Value, Vals xs its ∧ HasK s.heap k a its.toArray := by
  cases k with
  | true =>
    obtain ⟨its, r, p, _⟩ := I.list h
    exact ⟨its, r, p.isList⟩
  | false =>
    obtain ⟨its, r, p, _⟩ := I.tuple h
    exact ⟨its, r, p⟩
theorem sqK_inj (I : Inv X pins σ H s) {k : Bool} {a : Addr} {xs ys : List V} (h : SqK X.K H k a xs) (h' : SqK X.K H k a ys) : xs = ys := by
  cases k with
  | true => exact I.list_inj h h'
  | false => exact I.tuple_inj h h'
theorem hasK_lt {h : Heap} {k : Bool} {a : Addr} {its : Array Value} (x : HasK h k a its) : a < h.objs.size := by
  cases k with
  | true =>
    obtain ⟨o, ho, _⟩ := id (show h.IsList a its from x)
    exact Heap.lt_size ho
  | false =>
    obtain ⟨o, ho, _⟩ := id (show h.IsTuple a its from x)
    exact Heap.lt_size ho
theorem itK_obj {h : Heap} {k : Bool} {it a : Addr} {i : Nat} (x : ItK h k it a i) : ∃ o, h.get? it = some o ∧ ∀ v, o.data ≠ .cell v := by
  cases k with
  | true =>
    obtain ⟨o, e, _, d⟩ := id (show h.IsListIter it a i from x)
    exact ⟨o, e, fun v q => by rw [d] at q; cases q⟩
  | false =>
    obtain ⟨o, e, _, d⟩ := id (show h.IsTupleIter it a i from x)
    exact ⟨o, e, fun v q => by rw [d] at q; cases q⟩
theorem itK_at {h h' : Heap} {k : Bool} {it a : Addr} {i : Nat} (x : ItK h k it a i) (e : ∀ o, h.get? it = some o → h'.get? it = some o) : ItK h' k it a i := by
  cases k with
  | true => exact (show h.IsListIter it a i from x).at e
  | false => exact (show h.IsTupleIter it a i from x).at e
theorem itK_new {h : Heap} {k : Bool} {it a : Addr} (e : h.get? it = some (oItK k a)) : ItK h k it a 0 := by
  cases k with
  | true => exact ⟨_, e, rfl, rfl⟩
  | false => exact ⟨_, e, rfl, rfl⟩
end

/-- three sequences side by side -/
def Itz3 (K : PySem.W.Frag) (k1 k2 k3 : Bool) (a b c : Addr) : It :=
  ⟨fun i H => ∃ (xs ys zs : List V) (x y z : V), SqK K H k1 a xs ∧ SqK K H k2 b ys ∧ SqK K H k3 c zs ∧ xs[i]? = some x ∧ ys[i]? = some y ∧ zs[i]? = some z,
    fun i H v H' => ∃ T x y z, v = .ref T ∧ H T = none ∧ H' = upd H T (.tup [x, y, z]) ∧ (∀ xs, SqK K H k1 a xs → xs[i]? = some x) ∧ (∀ ys, SqK K H k2 b ys → ys[i]? = some y) ∧ ∀ zs, SqK K H k3 c zs → zs[i]? = some z,
    fun i H => ∃ xs ys zs : List V, SqK K H k1 a xs ∧ SqK K H k2 b ys ∧ SqK K H k3 c zs ∧ (i ≤ xs.length ∧ i ≤ ys.length ∧ i ≤ zs.length) ∧ (i = xs.length ∨ i = ys.length ∨ i = zs.length)⟩
theorem turn_zip3 {P : Program} {w : World} {K : PySem.W.Frag} {elts : List Expr} {kk : Nat} {tpos : Pos} (k1 k2 k3 : Bool) {a b c N : Addr} (ha : a < N) (hb : b < N) (hc0 : c < N) :
    Turn P w K (.Tuple elts kk tpos) (Itz3 K k1 k2 k3 a b c) [N + 5, N + 3, N + 4, N, N + 1, N + 2] (N + 5) (fun i h => IsZip h (N + 5) (N + 3) (N + 4) .none ∧ IsTupOf3 h (N + 3) (.ref N) (.ref (N + 1)) (.ref (N + 2)) ∧ (∃ x y z, IsTupOf3 h (N + 4) x y z) ∧ ItK h k1 N a i ∧ ItK h k2 (N + 1) b i ∧ ItK h k3 (N + 2) c i) where
  mem := by simp
  obj := fun i h st d hd => by
    obtain ⟨hz, hTI, ⟨x, y, z, hTO⟩, h1, h2, h3⟩ := st
    have e' : d = N + 5 ∨ d = N + 3 ∨ d = N + 4 ∨ d = N ∨ d = N + 1 ∨ d = N + 2 := by simpa using hd
    rcases e' with q | q | q | q | q | q
    · rw [q]; exact ⟨_, hz, fun v q => nomatch q⟩
    · rw [q]; exact ⟨_, hTI, fun v q => nomatch q⟩
    · rw [q]; exact ⟨_, hTO, fun v q => nomatch q⟩
    · rw [q]; exact itK_obj h1
    · rw [q]; exact itK_obj h2
    · rw [q]; exact itK_obj h3
  keep := fun i h h' st k => by
    obtain ⟨hz, hTI, ⟨x, y, z, hTO⟩, h1, h2, h3⟩ := st
    exact ⟨k _ (by simp) _ hz, k _ (by simp) _ hTI, ⟨x, y, z, k _ (by simp) _ hTO⟩, itK_at h1 fun o q => k _ (by simp) o q, itK_at h2 fun o q => k _ (by simp) o q, itK_at h3 fun o q => k _ (by simp) o q⟩
  item := by
    intro X hP hw hK hc i pins s σ H E I hf st hg
    subst hP hw hK
    obtain ⟨hz, hTI, ⟨x0, y0, z0, hTO⟩, h1, h2, h3⟩ := st
    obtain ⟨xs, ys, zs, x, y, z, hqx, hqy, hqz, hx, hy, hzz⟩ := hg
    obtain ⟨its1, r1, p1⟩ := hasK I hqx
    obtain ⟨its2, r2, p2⟩ := hasK I hqy
    obtain ⟨its3, r3, p3⟩ := hasK I hqz
    obtain ⟨u1, hu1, ru1⟩ := r1.get hx
    obtain ⟨u2, hu2, ru2⟩ := r2.get hy
    obtain ⟨u3, hu3, ru3⟩ := r3.get hzz
    have S : ZipSep3 (N + 5) (N + 3) (N + 4) N (N + 1) (N + 2) [N, a] [N + 1, b] [N + 2, c] := zip_sep3 (fp1 := [a]) (fp2 := [b]) (fp3 := [c]) (by simpa using ha) (by simpa using hb) (by simpa using hc0)
    have hh : X.A.in1.handled = none := I.ok.hd hc
    have D1 := drawsK (prog := X.prog) (w := X.w) hh k1 N a (Nat.ne_of_lt ha) its1.toArray
    have D2 := drawsK (prog := X.prog) (w := X.w) hh k2 (N + 1) b (Nat.ne_of_lt (Nat.lt_succ_of_lt hb)) its2.toArray
    have D3 := drawsK (prog := X.prog) (w := X.w) hh k3 (N + 2) c (Nat.ne_of_lt (Nat.lt_succ_of_lt (Nat.lt_succ_of_lt hc0))) its3.toArray
    have l1 : i < its1.toArray.size := by have := (List.getElem?_eq_some_iff.mp hu1).1; simpa using this
    have l2 : i < its2.toArray.size := by have := (List.getElem?_eq_some_iff.mp hu2).1; simpa using this
    have l3 : i < its3.toArray.size := by have := (List.getElem?_eq_some_iff.mp hu3).1; simpa using this
    have hzl : N + 5 < s.heap.objs.size := Heap.lt_size hz
    refine wpAny_pyNext_zipD3_item S D1 D2 D3 hz hTI hTO ⟨h1, p1⟩ ⟨h2, p2⟩ ⟨h3, p3⟩ l1 l2 l3 fun x1 x2 x3 h' tk e1 e2 e3 z' TO' st1 st2 st3 hT hsz hk => ?_
    have v1 : x1 = u1 := by simpa [hu1] using e1.symm
    have v2 : x2 = u2 := by simpa [hu2] using e2.symm
    have v3 : x3 = u3 := by simpa [hu3] using e3.symm
    subst v1 v2 v3
    refine ⟨_, rfl, wpAny_letOwnedTupleGo_zip (s := { s with heap := h', toks := tk }) z' fun h'' z'' sb => ?_⟩
    have hT2 : h''.get? s.heap.objs.size = some { cls := .type "tuple", data := .seq #[x1, x2, x3] } := (sb.2 _ (Nat.ne_of_gt hzl)).trans hT
    have new : ObjOk X.prog X.w (upd H s.heap.objs.size (.tup [x, y, z])) h'' s.heap.objs.size (.tup [x, y, z]) :=
      ⟨by show 3 ≤ sizeLine; decide, [x1, x2, x3], .cons ru1 (.cons ru2 (.cons ru3 .nil)), ⟨_, hT2, rfl, _, rfl⟩⟩
    have I1 : Inv X pins σ (upd H s.heap.objs.size (.tup [x, y, z])) { s with heap := h'', toks := tk } :=
      I.turnedNew (t' := tk) (ch := [N + 5, N + 3, N + 4, N, N + 1, N + 2]) (fun d o hb q => (sb.2 d (fun q' => hb (by simp [q']))).trans (hk d o (fun q' => hb (by simp [q'])) (fun q' => hb (by simp [q'])) (fun q' => hb (by simp [q'])) (fun q' => hb (by simp [q'])) (fun q' => hb (by simp [q'])) q)) hf (Nat.le_refl _) new
    refine ⟨.ref s.heap.objs.size, _, I1, rfl, ⟨_, x, y, z, rfl, I.hok.fresh (Nat.le_refl _), rfl, fun l hl => by rw [sqK_inj I hl hqx]; exact hx, fun l hl => by rw [sqK_inj I hl hqy]; exact hy, fun l hl => by rw [sqK_inj I hl hqz]; exact hzz⟩, ⟨z'', ?_, ⟨x1, x2, x3, ?_⟩, ?_, ?_, ?_⟩, fun d hd => ?_⟩
    · exact (sb.2 _ S.TIz).trans (hk _ _ S.TIz S.TITO S.TIi1 S.TIi2 S.TIi3 hTI)
    · exact (sb.2 _ S.TOz).trans TO'
    · exact itK_at st1.1 fun o q => (sb.2 _ S.zi1.symm).trans q
    · exact itK_at st2.1 fun o q => (sb.2 _ S.zi2.symm).trans q
    · exact itK_at st3.1 fun o q => (sb.2 _ S.zi3.symm).trans q
    · have hlt : d < s.heap.objs.size := by
        have e' : d = N + 5 ∨ d = N + 3 ∨ d = N + 4 ∨ d = N ∨ d = N + 1 ∨ d = N + 2 := by simpa using hd
        have le : ∀ m : Nat, m ≤ 5 → (N + m : Nat) < s.heap.objs.size := fun m hm => Nat.lt_of_le_of_lt (Nat.add_le_add_left hm N) hzl
        rcases e' with q | q | q | q | q | q
        · rw [q]; exact le 5 (by decide)
        · rw [q]; exact le 3 (by decide)
        · rw [q]; exact le 4 (by decide)
        · rw [q]; exact le 0 (by decide)
        · rw [q]; exact le 1 (by decide)
        · rw [q]; exact le 2 (by decide)
      rw [upd_ne (Nat.ne_of_lt hlt)]
      exact (hf d hd).1
  done := by
    intro X hP hw hK hc i pins s σ H E I hf st hg
    subst hP hw hK
    obtain ⟨hz, hTI, ⟨x0, y0, z0, hTO⟩, h1, h2, h3⟩ := st
    obtain ⟨xs, ys, zs, hqx, hqy, hqz, ⟨le1, le2, le3⟩, hend⟩ := hg
    obtain ⟨its1, r1, p1⟩ := hasK I hqx
    obtain ⟨its2, r2, p2⟩ := hasK I hqy
    obtain ⟨its3, r3, p3⟩ := hasK I hqz
    have n1 : its1.toArray.size = xs.length := by have := r1.length; simp; omega
    have n2 : its2.toArray.size = ys.length := by have := r2.length; simp; omega
    have n3 : its3.toArray.size = zs.length := by have := r3.length; simp; omega
    have S : ZipSep3 (N + 5) (N + 3) (N + 4) N (N + 1) (N + 2) [N, a] [N + 1, b] [N + 2, c] := zip_sep3 (fp1 := [a]) (fp2 := [b]) (fp3 := [c]) (by simpa using ha) (by simpa using hb) (by simpa using hc0)
    have hh : X.A.in1.handled = none := I.ok.hd hc
    have D1 := drawsK (prog := X.prog) (w := X.w) hh k1 N a (Nat.ne_of_lt ha) its1.toArray
    have D2 := drawsK (prog := X.prog) (w := X.w) hh k2 (N + 1) b (Nat.ne_of_lt (Nat.lt_succ_of_lt hb)) its2.toArray
    have D3 := drawsK (prog := X.prog) (w := X.w) hh k3 (N + 2) c (Nat.ne_of_lt (Nat.lt_succ_of_lt (Nat.lt_succ_of_lt hc0))) its3.toArray
    refine wpAny_pyNext_zipD3_end S D1 D2 D3 hz hTI hTO ⟨h1, p1⟩ ⟨h2, p2⟩ ⟨h3, p3⟩ (by omega) (by omega) (by omega) (by omega) fun h' tk hk => ⟨rfl, I.turnedL (t' := tk) (ch := [N + 5, N + 3, N + 4, N, N + 1, N + 2]) (fun d o hb q =>
      hk d o (fun q' => hb (by simp [q'])) (fun q' => hb (by simp [q'])) (fun q' => hb (by simp [q'])) (fun q' => hb (by simp [q'])) (fun q' => hb (by simp [q'])) q) hf⟩
  self := fun A i s Q E st h => wpAny_pyIter_zip st.1 h
def iZip3 (K : PySem.W.Frag) (k1 k2 k3 : Bool) (ta : TA) : TI := fun σ H R => ta σ H fun vs H1 => ∃ a b c xs ys zs, vs = [.ref a, .ref b, .ref c] ∧ SqK K H1 k1 a xs ∧ SqK K H1 k2 b ys ∧ SqK K H1 k3 c zs ∧ R (Itz3 K k1 k2 k3 a b c) H1
theorem pi_zip3 (k1 k2 k3 : Bool) {X : Cx} {e e2 e3 : Expr} {ta : TA} {p pos tpos : Pos} {elts : List Expr} {kk : Nat} (hg : Gl X "zip") (hm : X.mg "zip" = none) (ha : PA X [e, e2, e3] ta)
    (hs : starEach [e, e2, e3] X.env = (false, eval e X.env) :: starEach [e2, e3] X.env := by rfl) (hpl : (backTo pos (starEach [e2, e3] X.env)).any (·.1) = false := by rfl) :
    PI X (.Tuple elts kk tpos) (.Call (.Name "zip" p) [e, e2, e3] [] pos) (iZip3 X.K k1 k2 k3 ta) := by
  refine ⟨fun pins s σ H R I h => ?_⟩
  refine Call_ (ld_blt I hg hm PyProof.Rows.boot_zip (PyProof.Rows.callWith_type1 (thn (ha.run pos pins s σ H _ I h) fun us s1 ⟨vs, H1, I1, r1, q1⟩ => ?_) hs hpl))
  obtain ⟨a, b, c, xs, ys, zs, ex, hqx, hqy, hqz, q⟩ := q1
  subst ex
  cases r1 with
  | cons r rr =>
    cases rr with
    | cons r' rr =>
      cases rr with
      | cons r'' rr =>
        cases rr
        cases r
        cases r'
        cases r''
        obtain ⟨its1, v1, p1⟩ := hasK I1 hqx
        obtain ⟨its2, v2, p2⟩ := hasK I1 hqy
        obtain ⟨its3, v3, p3⟩ := hasK I1 hqz
        refine zip_begins3 (beginsK k1 a its1.toArray) (beginsK k2 b its2.toArray) (beginsK k3 c its3.toArray) p1 p2 p3 fun h' hz hTI hTO h1 h2 h3 hsz hk => wpAny_pyIter_zip hz ?_
        have I2 : Inv X pins σ H1 { s1 with heap := h' } := I1.kept (t' := s1.toks) hk
        refine ⟨s1.heap.objs.size + 5, [s1.heap.objs.size + 5, s1.heap.objs.size + 3, s1.heap.objs.size + 4, s1.heap.objs.size, s1.heap.objs.size + 1, s1.heap.objs.size + 2], _, _, H1, rfl, I2, turn_zip3 k1 k2 k3 (hasK_lt p1) (hasK_lt p2) (hasK_lt p3), ⟨hz, hTI, ⟨_, _, _, hTO⟩, itK_new h1, itK_new h2, itK_new h3⟩, fun d hd => ?_, q⟩
        have hle : s1.heap.objs.size ≤ d := by
          have e' : d = s1.heap.objs.size + 5 ∨ d = s1.heap.objs.size + 3 ∨ d = s1.heap.objs.size + 4 ∨ d = s1.heap.objs.size ∨ d = s1.heap.objs.size + 1 ∨ d = s1.heap.objs.size + 2 := by simpa using hd
          rcases e' with z | z | z | z | z | z <;> (rw [z]; first | exact Nat.le_add_right _ _ | exact Nat.le_refl _)
        exact I1.fpOk hle (I1.hok.fresh hle)
/-- two sequences side by side -/
def Itz2 (K : PySem.W.Frag) (k1 k2 : Bool) (a b : Addr) : It :=
  ⟨fun i H => ∃ (xs ys : List V) (x y : V), SqK K H k1 a xs ∧ SqK K H k2 b ys ∧ xs[i]? = some x ∧ ys[i]? = some y,
    fun i H v H' => ∃ T x y, v = .ref T ∧ H T = none ∧ H' = upd H T (.tup [x, y]) ∧ (∀ xs, SqK K H k1 a xs → xs[i]? = some x) ∧ ∀ ys, SqK K H k2 b ys → ys[i]? = some y,
    fun i H => ∃ xs ys : List V, SqK K H k1 a xs ∧ SqK K H k2 b ys ∧ (i ≤ xs.length ∧ i ≤ ys.length) ∧ (i = xs.length ∨ i = ys.length)⟩
theorem turn_zip2 {P : Program} {w : World} {K : PySem.W.Frag} {elts : List Expr} {kk : Nat} {tpos : Pos} (k1 k2 : Bool) {a b N : Addr} (ha : a < N) (hb : b < N) :
    Turn P w K (.Tuple elts kk tpos) (Itz2 K k1 k2 a b) [N + 4, N + 2, N + 3, N, N + 1] (N + 4) (fun i h => IsZip h (N + 4) (N + 2) (N + 3) .none ∧ IsTupOf2 h (N + 2) (.ref N) (.ref (N + 1)) ∧ (∃ x y, IsTupOf2 h (N + 3) x y) ∧ ItK h k1 N a i ∧ ItK h k2 (N + 1) b i) where
  mem := by simp
  obj := fun i h st d hd => by
    obtain ⟨hz, hTI, ⟨x, y, hTO⟩, h1, h2⟩ := st
    have e' : d = N + 4 ∨ d = N + 2 ∨ d = N + 3 ∨ d = N ∨ d = N + 1 := by simpa using hd
    rcases e' with q | q | q | q | q
    · rw [q]; exact ⟨_, hz, fun v q => nomatch q⟩
    · rw [q]; exact ⟨_, hTI, fun v q => nomatch q⟩
    · rw [q]; exact ⟨_, hTO, fun v q => nomatch q⟩
    · rw [q]; exact itK_obj h1
    · rw [q]; exact itK_obj h2
  keep := fun i h h' st k => by
    obtain ⟨hz, hTI, ⟨x, y, hTO⟩, h1, h2⟩ := st
    exact ⟨k _ (by simp) _ hz, k _ (by simp) _ hTI, ⟨x, y, k _ (by simp) _ hTO⟩, itK_at h1 fun o q => k _ (by simp) o q, itK_at h2 fun o q => k _ (by simp) o q⟩
  item := by
    intro X hP hw hK hc i pins s σ H E I hf st hg
    subst hP hw hK
    obtain ⟨hz, hTI, ⟨x0, y0, hTO⟩, h1, h2⟩ := st
    obtain ⟨xs, ys, x, y, hqx, hqy, hx, hy⟩ := hg
    obtain ⟨its1, r1, p1⟩ := hasK I hqx
    obtain ⟨its2, r2, p2⟩ := hasK I hqy
    obtain ⟨u1, hu1, ru1⟩ := r1.get hx
    obtain ⟨u2, hu2, ru2⟩ := r2.get hy
    have S : ZipSep2 (N + 4) (N + 2) (N + 3) N (N + 1) [N, a] [N + 1, b] := zip_sep2 (fp1 := [a]) (fp2 := [b]) (by simpa using ha) (by simpa using hb)
    have hh : X.A.in1.handled = none := I.ok.hd hc
    have D1 := drawsK (prog := X.prog) (w := X.w) hh k1 N a (Nat.ne_of_lt ha) its1.toArray
    have D2 := drawsK (prog := X.prog) (w := X.w) hh k2 (N + 1) b (Nat.ne_of_lt (Nat.lt_succ_of_lt hb)) its2.toArray
    have l1 : i < its1.toArray.size := by have := (List.getElem?_eq_some_iff.mp hu1).1; simpa using this
    have l2 : i < its2.toArray.size := by have := (List.getElem?_eq_some_iff.mp hu2).1; simpa using this
    have hzl : N + 4 < s.heap.objs.size := Heap.lt_size hz
    refine wpAny_pyNext_zipD2_item S D1 D2 hz hTI hTO ⟨h1, p1⟩ ⟨h2, p2⟩ l1 l2 fun x1 x2 h' tk e1 e2 z' TO' st1 st2 hT hsz hk => ?_
    have v1 : x1 = u1 := by simpa [hu1] using e1.symm
    have v2 : x2 = u2 := by simpa [hu2] using e2.symm
    subst v1 v2
    refine ⟨_, rfl, wpAny_letOwnedTupleGo_zip (s := { s with heap := h', toks := tk }) z' fun h'' z'' sb => ?_⟩
    have hT2 : h''.get? s.heap.objs.size = some { cls := .type "tuple", data := .seq #[x1, x2] } := (sb.2 _ (Nat.ne_of_gt hzl)).trans hT
    have new : ObjOk X.prog X.w (upd H s.heap.objs.size (.tup [x, y])) h'' s.heap.objs.size (.tup [x, y]) :=
      ⟨by show 2 ≤ sizeLine; decide, [x1, x2], .cons ru1 (.cons ru2 .nil), ⟨_, hT2, rfl, _, rfl⟩⟩
    have I1 : Inv X pins σ (upd H s.heap.objs.size (.tup [x, y])) { s with heap := h'', toks := tk } :=
      I.turnedNew (t' := tk) (ch := [N + 4, N + 2, N + 3, N, N + 1]) (fun d o hb q => (sb.2 d (fun q' => hb (by simp [q']))).trans (hk d o (fun q' => hb (by simp [q'])) (fun q' => hb (by simp [q'])) (fun q' => hb (by simp [q'])) (fun q' => hb (by simp [q'])) q)) hf (Nat.le_refl _) new
    refine ⟨.ref s.heap.objs.size, _, I1, rfl, ⟨_, x, y, rfl, I.hok.fresh (Nat.le_refl _), rfl, fun l hl => by rw [sqK_inj I hl hqx]; exact hx, fun l hl => by rw [sqK_inj I hl hqy]; exact hy⟩, ⟨z'', ?_, ⟨x1, x2, ?_⟩, ?_, ?_⟩, fun d hd => ?_⟩
    · exact (sb.2 _ S.TIz).trans (hk _ _ S.TIz S.TITO S.TIi1 S.TIi2 hTI)
    · exact (sb.2 _ S.TOz).trans TO'
    · exact itK_at st1.1 fun o q => (sb.2 _ (Ne.symm S.zi1)).trans q
    · exact itK_at st2.1 fun o q => (sb.2 _ (Ne.symm S.zi2)).trans q
    · have hlt : d < s.heap.objs.size := by
        have e' : d = N + 4 ∨ d = N + 2 ∨ d = N + 3 ∨ d = N ∨ d = N + 1 := by simpa using hd
        have le : ∀ m : Nat, m ≤ 4 → (N + m : Nat) < s.heap.objs.size := fun m hm => Nat.lt_of_le_of_lt (Nat.add_le_add_left hm N) hzl
        rcases e' with q | q | q | q | q
        · rw [q]; exact le 4 (by decide)
        · rw [q]; exact le 2 (by decide)
        · rw [q]; exact le 3 (by decide)
        · rw [q]; exact le 0 (by decide)
        · rw [q]; exact le 1 (by decide)
      rw [upd_ne (Nat.ne_of_lt hlt)]
      exact (hf d hd).1
  done := by
    intro X hP hw hK hc i pins s σ H E I hf st hg
    subst hP hw hK
    obtain ⟨hz, hTI, ⟨x0, y0, hTO⟩, h1, h2⟩ := st
    obtain ⟨xs, ys, hqx, hqy, ⟨le1, le2⟩, hend⟩ := hg
    obtain ⟨its1, r1, p1⟩ := hasK I hqx
    obtain ⟨its2, r2, p2⟩ := hasK I hqy
    have n1 : its1.toArray.size = xs.length := by have := r1.length; simp; omega
    have n2 : its2.toArray.size = ys.length := by have := r2.length; simp; omega
    have S : ZipSep2 (N + 4) (N + 2) (N + 3) N (N + 1) [N, a] [N + 1, b] := zip_sep2 (fp1 := [a]) (fp2 := [b]) (by simpa using ha) (by simpa using hb)
    have hh : X.A.in1.handled = none := I.ok.hd hc
    have D1 := drawsK (prog := X.prog) (w := X.w) hh k1 N a (Nat.ne_of_lt ha) its1.toArray
    have D2 := drawsK (prog := X.prog) (w := X.w) hh k2 (N + 1) b (Nat.ne_of_lt (Nat.lt_succ_of_lt hb)) its2.toArray
    refine wpAny_pyNext_zipD2_end S D1 D2 hz hTI hTO ⟨h1, p1⟩ ⟨h2, p2⟩ (by omega) (by omega) (by omega) fun h' tk hk => ⟨rfl, I.turnedL (t' := tk) (ch := [N + 4, N + 2, N + 3, N, N + 1]) (fun d o hb q =>
      hk d o (fun q' => hb (by simp [q'])) (fun q' => hb (by simp [q'])) (fun q' => hb (by simp [q'])) (fun q' => hb (by simp [q'])) q) hf⟩
  self := fun A i s Q E st h => wpAny_pyIter_zip st.1 h
def iZip2 (K : PySem.W.Frag) (k1 k2 : Bool) (ta : TA) : TI := fun σ H R => ta σ H fun vs H1 => ∃ a b xs ys, vs = [.ref a, .ref b] ∧ SqK K H1 k1 a xs ∧ SqK K H1 k2 b ys ∧ R (Itz2 K k1 k2 a b) H1
theorem pi_zip2 (k1 k2 : Bool) {X : Cx} {e e2 : Expr} {ta : TA} {p pos tpos : Pos} {elts : List Expr} {kk : Nat} (hg : Gl X "zip") (hm : X.mg "zip" = none) (ha : PA X [e, e2] ta)
    (hs : starEach [e, e2] X.env = (false, eval e X.env) :: starEach [e2] X.env := by rfl) (hpl : (backTo pos (starEach [e2] X.env)).any (·.1) = false := by rfl) :
    PI X (.Tuple elts kk tpos) (.Call (.Name "zip" p) [e, e2] [] pos) (iZip2 X.K k1 k2 ta) := by
  refine ⟨fun pins s σ H R I h => ?_⟩
  refine Call_ (ld_blt I hg hm PyProof.Rows.boot_zip (PyProof.Rows.callWith_type1 (thn (ha.run pos pins s σ H _ I h) fun us s1 ⟨vs, H1, I1, r1, q1⟩ => ?_) hs hpl))
  obtain ⟨a, b, xs, ys, ex, hqx, hqy, q⟩ := q1
  subst ex
  cases r1 with
  | cons r rr =>
    cases rr with
    | cons r' rr =>
      cases rr
      cases r
      cases r'
      obtain ⟨its1, v1, p1⟩ := hasK I1 hqx
      obtain ⟨its2, v2, p2⟩ := hasK I1 hqy
      refine zip_begins2 (beginsK k1 a its1.toArray) (beginsK k2 b its2.toArray) p1 p2 fun h' hz hTI hTO h1 h2 hsz hk => wpAny_pyIter_zip hz ?_
      have I2 : Inv X pins σ H1 { s1 with heap := h' } := I1.kept (t' := s1.toks) hk
      refine ⟨s1.heap.objs.size + 4, [s1.heap.objs.size + 4, s1.heap.objs.size + 2, s1.heap.objs.size + 3, s1.heap.objs.size, s1.heap.objs.size + 1], _, _, H1, rfl, I2, turn_zip2 k1 k2 (hasK_lt p1) (hasK_lt p2), ⟨hz, hTI, ⟨_, _, hTO⟩, itK_new h1, itK_new h2⟩, fun d hd => ?_, q⟩
      have hle : s1.heap.objs.size ≤ d := by
        have e' : d = s1.heap.objs.size + 4 ∨ d = s1.heap.objs.size + 2 ∨ d = s1.heap.objs.size + 3 ∨ d = s1.heap.objs.size ∨ d = s1.heap.objs.size + 1 := by simpa using hd
        rcases e' with z | z | z | z | z <;> (rw [z]; first | exact Nat.le_add_right _ _ | exact Nat.le_refl _)
      exact I1.fpOk hle (I1.hok.fresh hle)

/-! ### .. typed -/
section
variable {F : Fx} {O O1 O2 O3 O' : Own} {l l' : Lc} {α β γ ρ S T A : Type} {K : PySem.W.Frag}
  {ta tb tc te : TE} {t : Ty α} {u : Ty β} {w : Ty γ} {a : α} {b : β} {c : γ} {D : Ends} {P : ρ → Prop} {r : ρ}
abbrev ySq (k : Bool) {α : Type} (t : Ty α) : Ty (List α) := match k with
  | true => yL t
  | false => yT t
def obK (k : Bool) (vs : List V) : HO := match k with
  | true => .lst vs
  | false => .tup vs
theorem sqK_of {H : Hp} {k : Bool} {a : Addr} {vs : List V} (h : H a = some (obK k vs)) : SqK K H k a vs := by
  cases k with
  | true => exact SqL.of h
  | false => exact SqT.of h
theorem ySq_at {B : Hp} {k : Bool} {v : V} {xs : List α} (h : (ySq k t).rp B v xs) : ∃ p vs, v = .ref p ∧ B p = some (obK k vs) ∧ A2 (t.rp B) vs xs := by
  cases k with
  | true =>
    obtain ⟨p, vs, e, h1, _, h2⟩ := h
    exact ⟨p, vs, e, h1, h2⟩
  | false =>
    obtain ⟨p, vs, e, h1, _, h2⟩ := h
    exact ⟨p, vs, e, h1, h2⟩
/-- it stands at a -/
def ySA (k : Bool) (a : Addr) (t : Ty α) : Ty (List α) :=
  ⟨fun H v xs => v = .ref a ∧ ∃ vs, H a = some (obK k vs) ∧ A2 (t.rp H) vs xs, fun s ⟨e, vs, h, p⟩ => ⟨e, vs, s _ _ h, p.imp fun _ _ z => t.mono s z⟩⟩
/-- three unlike things in a tuple -/
def y3 (t : Ty α) (u : Ty β) (w : Ty γ) : Ty (α × β × γ) :=
  ⟨fun H v x => ∃ a p q r, v = .ref a ∧ H a = some (.tup [p, q, r]) ∧ t.rp H p x.1 ∧ u.rp H q x.2.1 ∧ w.rp H r x.2.2,
   fun s ⟨a, p, q, r, e, h, h1, h2, h3⟩ => ⟨a, p, q, r, e, s _ _ h, t.mono s h1, u.mono s h2, w.mono s h3⟩⟩
theorem tg_triple {g1 g2 g3 : TG} {up1 : α → Lc → Lc} {up2 : β → Lc → Lc} {up3 : γ → Lc → Lc} {i1 i2 i3 : List Nat} (h1 : Tg g1 t up1 i1) (h2 : Tg g2 u up2 i2) (h3 : Tg g3 w up3 i3) : Tg (gTup K 3 (gCons g1 (gCons g2 (gCons g3 gNil)))) (y3 t u w) (fun x l => up3 x.2.2 (up2 x.2.1 (up1 x.1 l))) (i1 ++ (i2 ++ i3)) := fun F O l σ H v a k h Q q => by
  obtain ⟨p, x, y, z, e, hp, r1, r2, r3⟩ := h
  exact ⟨p, [x, y, z], e, SqT.of (bar_some.mp hp).2, rfl, x, [y, z], rfl, h1 F O l σ H x a.1 k r1 _ fun σ1 w1 k1 => ⟨y, [z], rfl, h2 F O _ σ1 H y a.2.1 k1 r2 _ fun σ2 w2 k2 => ⟨z, [], rfl, h3 F O _ σ2 H z a.2.2 k2 r3 _ fun σ3 w3 k3 =>
    ⟨rfl, q σ3 (fun vs hv => (w3 vs fun i hi => hv i (List.mem_append_right _ (List.mem_append_right _ hi))).trans ((w2 vs fun i hi => hv i (List.mem_append_right _ (List.mem_append_left _ hi))).trans (w1 vs fun i hi => hv i (List.mem_append_left _ hi)))) k3⟩⟩⟩⟩
theorem ghost2 {B : Hp} {k1 k2 : Bool} {a b : Addr} {xs : List α} {ys : List β} (h : ∃ ws, A2 (SlOk B) ws [.val (ySA k1 a t) xs, .val (ySA k2 b u) ys]) : (∃ vs, B a = some (obK k1 vs) ∧ A2 (t.rp B) vs xs) ∧ ∃ vs, B b = some (obK k2 vs) ∧ A2 (u.rp B) vs ys := by
  obtain ⟨ws, h⟩ := h
  cases h with
  | cons r h =>
    cases h with
    | cons r2 h =>
      obtain ⟨v, _, _, h1⟩ := r
      obtain ⟨v2, _, _, h2⟩ := r2
      exact ⟨h1, h2⟩
theorem itOk_zip2 {k1 k2 : Bool} {a b : Addr} {xs : List α} {ys : List β} : ItOk (Itz2 K k1 k2 a b) (yP t u) (xs.zip ys) [.val (ySA k1 a t) xs, .val (ySA k2 b u) ys] := by
  refine ⟨fun H => ∃ vs ws, H a = some (obK k1 vs) ∧ H b = some (obK k2 ws) ∧ vs.length = xs.length ∧ ws.length = ys.length, fun i H x H' => ∃ T p q, x = .ref T ∧ H T = none ∧ H' = upd H T (.tup [p, q]) ∧ (∀ vs, H a = some (obK k1 vs) → vs[i]? = some p) ∧ (∀ ws, H b = some (obK k2 ws) → ws[i]? = some q), ⟨?_, ?_, ?_⟩, ?_, ?_⟩
  · rintro i H hi ⟨vs, ws, h1, h2, n1, n2⟩
    rw [List.length_zip] at hi
    exact ⟨vs, ws, vs[i]'(by omega), ws[i]'(by omega), sqK_of h1, sqK_of h2, List.getElem?_eq_getElem (by omega), List.getElem?_eq_getElem (by omega)⟩
  · rintro H ⟨vs, ws, h1, h2, n1, n2⟩
    rw [List.length_zip]
    exact ⟨vs, ws, sqK_of h1, sqK_of h2, ⟨by omega, by omega⟩, by omega⟩
  · rintro i H x H' hi ⟨vs, ws, h1, h2, n1, n2⟩ ⟨T, p, q, e1, e2, e3, f1, f2⟩
    exact ⟨T, p, q, e1, e2, e3, fun vs h => f1 vs (sqK_of h), fun ws h => f2 ws (sqK_of h)⟩
  · intro B H s hB
    obtain ⟨⟨vs, h1, r1⟩, ⟨ws, h2, r2⟩⟩ := ghost2 hB
    exact ⟨vs, ws, s _ _ h1, s _ _ h2, r1.length, r2.length⟩
  · rintro F O i H x H' hx hB hi ⟨T, p, q, rfl, hT, rfl, f1, f2⟩
    obtain ⟨⟨vs, h1, r1⟩, ⟨ws, h2, r2⟩⟩ := ghost2 hB
    have e1 := f1 vs (bar_some.mp h1).2
    have e2 := f2 ws (bar_some.mp h2).2
    obtain ⟨z1, g1, k1⟩ := a2_get2 r1 e1
    obtain ⟨z2, g2, k2⟩ := a2_get2 r2 e2
    refine ⟨Same.new hT, (z1, z2), ?_, T, p, q, rfl, bar_some.mpr ⟨hx.fresh hT, upd_same⟩, t.mono (bar_same (Same.new hT)) k1, u.mono (bar_same (Same.new hT)) k2⟩
    rw [List.getElem?_zip_eq_some]
    exact ⟨g1, g2⟩
theorem iv_zip2 (k1 k2 : Bool) {xs : List α} {ys : List β} (ha : Ev F O l ta (ySq k1 t) xs O1) (hb : Ev F O1 l tb (ySq k2 u) ys O2) : Iv F O l (iZip2 K k1 k2 (tCons ta (tCons tb tNil))) (yP t u) (xs.zip ys) O2 := fun σ H k R q =>
  ha σ H k _ fun v H1 s1 c1 r1 => hb σ H1 c1 _ fun v2 H2 s2 c2 r2 => by
    obtain ⟨p1, vs1, e1, h1, a1⟩ := ySq_at ((ySq k1 t).mono s2.same r1)
    obtain ⟨p2, vs2, e2, h2, a2⟩ := ySq_at r2
    refine ⟨p1, p2, vs1, vs2, by rw [e1, e2], sqK_of (bar_some.mp h1).2, sqK_of (bar_some.mp h2).2, q _ H2 _ (s1.trans s2) (c2.push (gs := [.val (ySA k1 p1 t) xs, .val (ySA k2 p2 u) ys]) (ws := [some v, some v2]) (.cons ⟨v, rfl, e1, vs1, h1, a1⟩ (.cons ⟨v2, rfl, e2, vs2, h2, a2⟩ .nil))) itOk_zip2⟩
theorem ghost3 {B : Hp} {k1 k2 k3 : Bool} {a b c : Addr} {xs : List α} {ys : List β} {zs : List γ} (h : ∃ ws, A2 (SlOk B) ws [.val (ySA k1 a t) xs, .val (ySA k2 b u) ys, .val (ySA k3 c w) zs]) : (∃ vs, B a = some (obK k1 vs) ∧ A2 (t.rp B) vs xs) ∧ (∃ vs, B b = some (obK k2 vs) ∧ A2 (u.rp B) vs ys) ∧ ∃ vs, B c = some (obK k3 vs) ∧ A2 (w.rp B) vs zs := by
  obtain ⟨ws, h⟩ := h
  cases h with
  | cons r h =>
    cases h with
    | cons r2 h =>
      cases h with
      | cons r3 h =>
        obtain ⟨v, _, _, h1⟩ := r
        obtain ⟨v2, _, _, h2⟩ := r2
        obtain ⟨v3, _, _, h3⟩ := r3
        exact ⟨h1, h2, h3⟩
theorem itOk_zip3 {k1 k2 k3 : Bool} {a b c : Addr} {xs : List α} {ys : List β} {zs : List γ} : ItOk (Itz3 K k1 k2 k3 a b c) (y3 t u w) (xs.zip (ys.zip zs)) [.val (ySA k1 a t) xs, .val (ySA k2 b u) ys, .val (ySA k3 c w) zs] := by
  refine ⟨fun H => ∃ vs ws us, H a = some (obK k1 vs) ∧ H b = some (obK k2 ws) ∧ H c = some (obK k3 us) ∧ vs.length = xs.length ∧ ws.length = ys.length ∧ us.length = zs.length, fun i H x H' => ∃ T p q r, x = .ref T ∧ H T = none ∧ H' = upd H T (.tup [p, q, r]) ∧ (∀ vs, H a = some (obK k1 vs) → vs[i]? = some p) ∧ (∀ ws, H b = some (obK k2 ws) → ws[i]? = some q) ∧ (∀ us, H c = some (obK k3 us) → us[i]? = some r), ⟨?_, ?_, ?_⟩, ?_, ?_⟩
  · rintro i H hi ⟨vs, ws, us, h1, h2, h3, n1, n2, n3⟩
    rw [List.length_zip, List.length_zip] at hi
    exact ⟨vs, ws, us, vs[i]'(by omega), ws[i]'(by omega), us[i]'(by omega), sqK_of h1, sqK_of h2, sqK_of h3, List.getElem?_eq_getElem (by omega), List.getElem?_eq_getElem (by omega), List.getElem?_eq_getElem (by omega)⟩
  · rintro H ⟨vs, ws, us, h1, h2, h3, n1, n2, n3⟩
    rw [List.length_zip, List.length_zip]
    exact ⟨vs, ws, us, sqK_of h1, sqK_of h2, sqK_of h3, ⟨by omega, by omega, by omega⟩, by omega⟩
  · rintro i H x H' hi ⟨vs, ws, us, h1, h2, h3, n1, n2, n3⟩ ⟨T, p, q, r, e1, e2, e3, f1, f2, f3⟩
    exact ⟨T, p, q, r, e1, e2, e3, fun vs h => f1 vs (sqK_of h), fun ws h => f2 ws (sqK_of h), fun us h => f3 us (sqK_of h)⟩
  · intro B H s hB
    obtain ⟨⟨vs, h1, r1⟩, ⟨ws, h2, r2⟩, ⟨us, h3, r3⟩⟩ := ghost3 hB
    exact ⟨vs, ws, us, s _ _ h1, s _ _ h2, s _ _ h3, r1.length, r2.length, r3.length⟩
  · rintro F O i H x H' hx hB hi ⟨T, p, q, r, rfl, hT, rfl, f1, f2, f3⟩
    obtain ⟨⟨vs, h1, r1⟩, ⟨ws, h2, r2⟩, ⟨us, h3, r3⟩⟩ := ghost3 hB
    have e1 := f1 vs (bar_some.mp h1).2
    have e2 := f2 ws (bar_some.mp h2).2
    have e3 := f3 us (bar_some.mp h3).2
    obtain ⟨z1, g1, k1⟩ := a2_get2 r1 e1
    obtain ⟨z2, g2, k2⟩ := a2_get2 r2 e2
    obtain ⟨z3, g3, k3⟩ := a2_get2 r3 e3
    refine ⟨Same.new hT, (z1, z2, z3), ?_, T, p, q, r, rfl, bar_some.mpr ⟨hx.fresh hT, upd_same⟩, t.mono (bar_same (Same.new hT)) k1, u.mono (bar_same (Same.new hT)) k2, w.mono (bar_same (Same.new hT)) k3⟩
    rw [List.getElem?_zip_eq_some]
    exact ⟨g1, by rw [List.getElem?_zip_eq_some]; exact ⟨g2, g3⟩⟩
theorem iv_zip3 (k1 k2 k3 : Bool) {xs : List α} {ys : List β} {zs : List γ} (ha : Ev F O l ta (ySq k1 t) xs O1) (hb : Ev F O1 l tb (ySq k2 u) ys O2) (hc : Ev F O2 l tc (ySq k3 w) zs O3) : Iv F O l (iZip3 K k1 k2 k3 (tCons ta (tCons tb (tCons tc tNil)))) (y3 t u w) (xs.zip (ys.zip zs)) O3 := fun σ H k R q =>
  ha σ H k _ fun v H1 s1 c1 r1 => hb σ H1 c1 _ fun v2 H2 s2 c2 r2 => hc σ H2 c2 _ fun v3 H3 s3 c3 r3 => by
    obtain ⟨p1, vs1, e1, h1, a1⟩ := ySq_at ((ySq k1 t).mono (s2.trans s3).same r1)
    obtain ⟨p2, vs2, e2, h2, a2⟩ := ySq_at ((ySq k2 u).mono s3.same r2)
    obtain ⟨p3, vs3, e3, h3, a3⟩ := ySq_at r3
    refine ⟨p1, p2, p3, vs1, vs2, vs3, by rw [e1, e2, e3], sqK_of (bar_some.mp h1).2, sqK_of (bar_some.mp h2).2, sqK_of (bar_some.mp h3).2, q _ H3 _ ((s1.trans s2).trans s3) (c3.push (gs := [.val (ySA k1 p1 t) xs, .val (ySA k2 p2 u) ys, .val (ySA k3 p3 w) zs]) (ws := [some v, some v2, some v3]) (.cons ⟨v, rfl, e1, vs1, h1, a1⟩ (.cons ⟨v2, rfl, e2, vs2, h2, a2⟩ (.cons ⟨v3, rfl, e3, vs3, h3, a3⟩ .nil)))) itOk_zip3⟩
end
end TL
namespace TL
open PySem L2 PyProof.Rows PySem.Spec RT

/-! ### what is never reached -/
section
variable {X : Cx} {st : Stmt} {sts : List Stmt} {e : Expr}
theorem ps_dead : PS X st (fun _ _ _ => False) := ⟨fun _ _ _ _ _ _ h => h.elim⟩
theorem pss_dead : PSs X sts (fun _ _ _ => False) := ⟨fun _ _ _ _ _ _ h => h.elim⟩
theorem pe_dead : PE X e (fun _ _ _ => False) := ⟨fun _ _ _ _ _ _ h => h.elim⟩
theorem pe_gint {x : Str} {i : Int} {pos : Pos} (hg : Gl X x) (hm : ∃ t, X.mg x = some (.int i t)) (hd : (x == ("__debug__" : Str)) = false := by decide) : PE X (.Name x pos) (tC (.int i)) := by
  obtain ⟨t, h⟩ := hm
  exact pe_glob hg h ⟨t, rfl⟩ hd
end
theorem pg_tupK {X : Cx} {K : PySem.W.Frag} {es : List Expr} {k : Nat} {pos : Pos} {t : TGs} {n : Nat} (hK : X.K = K) (hc : X.calm = true) (h : PGs X es t)
    (hn : (assignEach es X.env).length = n := by rfl) (hst : (assignEach es X.env).findIdx? (·.1) = none := by rfl) : PG X (.Tuple es k pos) (gTup K n t) := by
  subst hK
  exact pg_tup hc h hn hst
theorem ixL_K {X : Cx} {K : PySem.W.Frag} (hK : X.K = K) : IxR X (rIxL K) := by
  subst hK
  exact ix_list
theorem ixT_K {X : Cx} {K : PySem.W.Frag} (hK : X.K = K) : IxR X (rIxT K) := by
  subst hK
  exact ix_tup
section
variable {F : Fx} {O O1 O2 O3 O' : Own} {l l' : Lc} {α β γ ρ S T A : Type} {K : PySem.W.Frag}
  {ta tb tc te : TE} {t : Ty α} {u : Ty β} {w : Ty γ} {a : α} {b : β} {c : γ} {D : Ends} {P : ρ → Prop} {r : ρ}

/-! ### chains of comparisons, truth of lists -/
theorem tt_chain {i j k : Int} (p q : Int → Int → Prop) [∀ i j, Decidable (p i j)] [∀ i j, Decidable (q i j)] (ha : Ev F O l ta yI i O1) (hb : Ev F O1 l tb yI j O2) (hc : Ev F O2 l tc yI k O2) :
    Tt F O l (tTest (tChain (rI0 fun i j => .bl (decide (p i j))) (rI0 fun i j => .bl (decide (q i j))) ta tb tc)) (p i j ∧ q j k) O2 := fun σ H kk Q z =>
  ha σ H kk _ fun x H1 s1 k1 r1 => hb σ H1 k1 _ fun y H2 s2 k2 r2 => by
    refine ⟨i, j, r1, r2, decide (p i j), rfl, ?_⟩
    by_cases h : p i j
    · rw [if_pos (decide_eq_true h)]
      refine hc σ H2 k2 _ fun v H3 s3 k3 r3 => ⟨j, k, r2, r3, decide (q j k), rfl, z _ H3 ?_ ((s1.trans s2).trans s3) k3⟩
      by_cases h2 : q j k <;> simp [h, h2]
    · rw [if_neg (by simpa using h)]
      exact ⟨false, rfl, z false H2 ⟨fun y => (by cases y), fun y => absurd y.1 h⟩ (s1.trans s2) k2⟩
theorem ev_chain {i j k : Int} (p q : Int → Int → Prop) [∀ i j, Decidable (p i j)] [∀ i j, Decidable (q i j)] (ha : Ev F O l ta yI i O1) (hb : Ev F O1 l tb yI j O2) (hc : Ev F O2 l tc yI k O2) :
    Ev F O l (tChain (rI0 fun i j => .bl (decide (p i j))) (rI0 fun i j => .bl (decide (q i j))) ta tb tc) yB (decide (p i j) && decide (q j k)) O2 := fun σ H kk Q z =>
  ha σ H kk _ fun x H1 s1 k1 r1 => hb σ H1 k1 _ fun y H2 s2 k2 r2 => by
    refine ⟨i, j, r1, r2, decide (p i j), rfl, ?_⟩
    by_cases h : p i j
    · rw [if_pos (decide_eq_true h)]
      refine hc σ H2 k2 _ fun v H3 s3 k3 r3 => ⟨j, k, r2, r3, z _ H3 ((s1.trans s2).trans s3) k3 ?_⟩
      show V.bl _ = V.bl _
      simp [h]
    · rw [if_neg (by simpa using h)]
      refine z _ H2 (s1.trans s2) k2 ?_
      show V.bl _ = V.bl _
      simp [h]
abbrev tTru (K : PySem.W.Frag) (ta : TE) : TT := fun σ H Q => ta σ H fun x H' => ∃ k, TruV K x H' k ∧ Q k H'
theorem empty_a2 {R : V → α → Prop} : ∀ {vs : List V} {xs : List α}, A2 R vs xs → ((!vs.isEmpty) = true ↔ xs ≠ [])
  | _, _, .nil => by simp
  | _, _, .cons _ _ => by simp
theorem tt_truL {xs : List α} (ha : Ev F O l ta (yL t) xs O1) : Tt F O l (tTru K ta) (xs ≠ []) O1 := fun σ H k Q z =>
  ha σ H k _ fun x H1 s1 k1 r1 => by
    obtain ⟨p, vs, e, h, hl, r⟩ := r1
    subst e
    exact ⟨_, .inl ⟨vs, SqL.of (bar_some.mp h).2, rfl⟩, z _ H1 (empty_a2 r) s1 k1⟩
theorem tt_truT {xs : List α} (ha : Ev F O l ta (yT t) xs O1) : Tt F O l (tTru K ta) (xs ≠ []) O1 := fun σ H k Q z =>
  ha σ H k _ fun x H1 s1 k1 r1 => by
    obtain ⟨p, vs, e, h, hl, r⟩ := r1
    subst e
    exact ⟨_, .inr (.inl ⟨vs, SqT.of (bar_some.mp h).2, rfl⟩), z _ H1 (empty_a2 r) s1 k1⟩
theorem tt_truO {xs : List α} {p : Addr} (k : Nat) (ha : Ev F O l ta (yV (.ref p)) () O1) (hk : O1[k]? = some (p, cL t xs) := by rfl) : Tt F O l (tTru K ta) (xs ≠ []) O1 := fun σ H kk Q z =>
  ha σ H kk _ fun x H1 s1 k1 r1 => by
    obtain ⟨o, ho, vs, e, hl, r⟩ := own_at k1.hx hk
    subst e
    have e1 : x = .ref p := r1
    subst e1
    exact ⟨_, .inl ⟨vs, SqL.of ho, rfl⟩, z _ H1 (empty_a2 r) s1 k1⟩
theorem ev_xor {i j : Int} (ha : Ev F O l ta yI i O1) (hb : Ev F O1 l tb yI j O2) : Ev F O l (tOp (rI0 fun i j => .int (Builtin.bitXor i j)) ta tb) yI (Builtin.bitXor i j) O2 := ev_i0 ha hb fun _ => rfl

/-! ### reversed -/
theorem itOk_revT {a : Addr} {xs : List α} : ItOk (ItvT K a xs.length) t xs.reverse [.val (yTA a t) xs] := by
  refine itOk_seq (Y := fun _ _ _ _ _ => True) (a := a) (fun i => xs.length - 1 - i) xs.reverse (fun i hi => by rw [List.length_reverse] at hi; rw [List.getElem?_reverse (by omega)]) (by simp) (fun H vs => H a = some (.tup vs)) (fun B h => ghost_t h) (fun B H vs s h => s _ _ h) (fun H vs vs' h1 h2 => by rw [h1] at h2; cases h2; rfl) ?_ ?_ ?_
  · intro i H vs hi hl hv
    exact ⟨hi, vs, vs[xs.length - 1 - i]'(by omega), SqT.of hv, by simp [show xs.length - 1 - i < vs.length by omega]⟩
  · intro H vs hl hv
    exact Nat.le_refl _
  · intro i H x H' vs hi hl hv hy
    exact ⟨hy.1, hy.2 vs (SqT.of hv)⟩
theorem iv_revAT {xs : List α} (he : Ev F O l te (yT t) xs O1) : Iv F O l (iRevA K te) t xs.reverse O1 := fun σ H k R q =>
  he σ H k _ fun v H1 s1 k1 r1 => by
    obtain ⟨p, vs, e, h, hl, r⟩ := r1
    have en : vs.length = xs.length := r.length
    exact ⟨p, vs, e, .inr ⟨SqT.of (bar_some.mp h).2, by rw [en]; exact q _ H1 _ s1 (k1.push (gs := [.val (yTA p t) xs]) (ws := [some v]) (.cons (show SlOk _ (some v) (.val (yTA p t) xs) from ⟨v, rfl, e, vs, h, r⟩) .nil)) itOk_revT⟩⟩
theorem iv_revAL {xs : List α} (he : Ev F O l te (yL t) xs O1) : Iv F O l (iRevA K te) t xs.reverse O1 := fun σ H k R q =>
  he σ H k _ fun v H1 s1 k1 r1 => by
    obtain ⟨p, vs, e, h, hl, r⟩ := r1
    have en : vs.length = xs.length := r.length
    exact ⟨p, vs, e, .inl ⟨SqL.of (bar_some.mp h).2, by rw [en]; exact q _ H1 _ s1 (k1.push (gs := [.val (yLA p t) xs]) (ws := [some v]) (.cons (show SlOk _ (some v) (.val (yLA p t) xs) from ⟨v, rfl, e, vs, h, r⟩) .nil)) itOk_rev⟩⟩

/-! ### three at once -/
theorem b_letP3 {ts : TS} {i j m : Nat} {tr : TA} {k : α × β × γ → ρ} (he : EvA F O l tr [.val t a, .val u b, .val w c] O1) (h : ∀ x, x = (a, b, c) → Bd F O1 (((l.set i (.val t x.1)).set j (.val u x.2.1)).set m (.val w x.2.2)) ts D P (k x)) : Bd F O l (tSeq (tPar3 i j m tr) ts) D P (bnd (a, b, c) k) := fun hr σ H kk =>
  he σ H kk _ fun vs H1 s k1 r1 => by
    cases r1 with
    | cons r1 r2 =>
      cases r2 with
      | cons r2 r3 =>
        cases r3 with
        | cons r3 r4 =>
          cases r4
          exact ⟨_, _, _, rfl, h _ rfl hr _ H1 (((k1.set i (slv r1)).set j (slv r2)).set m (slv r3))⟩
theorem ev_triple {tr : TA} (h : EvA F O l tr [.val t a, .val u b, .val w c] O') : Ev F O l (tTup tr) (y3 t u w) (a, b, c) O' := fun σ H k Q q =>
  h σ H k _ fun vs H1 s1 k1 r1 => by
    cases r1 with
    | cons r1 r2 =>
      cases r2 with
      | cons r2 r3 =>
        cases r3 with
        | cons r3 r4 =>
          cases r4
          rename_i x y z
          refine ⟨(by show 3 ≤ sizeLine; decide), fun p hp => ?_⟩
          have np := k1.hx.fresh hp
          exact q _ _ (s1.grow (Same.new hp)) (k1.grow (Same.new hp)) ⟨p, x, y, z, rfl, bar_some.mpr ⟨np, upd_same⟩, t.mono (bar_same (Same.new hp)) (slv r1), u.mono (bar_same (Same.new hp)) (slv r2), w.mono (bar_same (Same.new hp)) (slv r3)⟩
theorem ev_3a {x : α × β × γ} (ha : Ev F O l ta (y3 t u w) x O1) : Ev F O l (tOp (rIxT K) ta (tC (.int 0))) t x.1 O1 :=
  ev_op ha ev_int fun H z y hx e1 e2 Q q => by
    obtain ⟨p, v1, v2, v3, e, hp, r1, r2, r3⟩ := e1
    exact ⟨p, _, 0, v1, e, e2, SqT.of (bar_some.mp hp).2, rfl, q v1 H (same_refl _) r1⟩
theorem ev_3b {x : α × β × γ} (ha : Ev F O l ta (y3 t u w) x O1) : Ev F O l (tOp (rIxT K) ta (tC (.int 1))) u x.2.1 O1 :=
  ev_op ha ev_int fun H z y hx e1 e2 Q q => by
    obtain ⟨p, v1, v2, v3, e, hp, r1, r2, r3⟩ := e1
    exact ⟨p, _, 1, v2, e, e2, SqT.of (bar_some.mp hp).2, rfl, q v2 H (same_refl _) r2⟩
theorem ev_3c {x : α × β × γ} (ha : Ev F O l ta (y3 t u w) x O1) : Ev F O l (tOp (rIxT K) ta (tC (.int 2))) w x.2.2 O1 :=
  ev_op ha ev_int fun H z y hx e1 e2 Q q => by
    obtain ⟨p, v1, v2, v3, e, hp, r1, r2, r3⟩ := e1
    exact ⟨p, _, 2, v3, e, e2, SqT.of (bar_some.mp hp).2, rfl, q v3 H (same_refl _) r3⟩
/-- a list of three unlike things -/
def yH3 (t : Ty α) (u : Ty β) (w : Ty γ) : Ty (α × β × γ) :=
  ⟨fun H v x => ∃ a p q r, v = .ref a ∧ H a = some (.lst [p, q, r]) ∧ t.rp H p x.1 ∧ u.rp H q x.2.1 ∧ w.rp H r x.2.2,
   fun s ⟨a, p, q, r, e, h, h1, h2, h3⟩ => ⟨a, p, q, r, e, s _ _ h, t.mono s h1, u.mono s h2, w.mono s h3⟩⟩
theorem ev_h3 {tr : TA} (h : EvA F O l tr [.val t a, .val u b, .val w c] O') : Ev F O l (tLst tr) (yH3 t u w) (a, b, c) O' := fun σ H k Q q =>
  h σ H k _ fun vs H1 s1 k1 r1 => by
    cases r1 with
    | cons r1 r2 =>
      cases r2 with
      | cons r2 r3 =>
        cases r3 with
        | cons r3 r4 =>
          cases r4
          rename_i x y z
          refine ⟨(by show 3 ≤ sizeLine; decide), fun p hp => ?_⟩
          have np := k1.hx.fresh hp
          exact q _ _ (s1.grow (Same.new hp)) (k1.grow (Same.new hp)) ⟨p, x, y, z, rfl, bar_some.mpr ⟨np, upd_same⟩, t.mono (bar_same (Same.new hp)) (slv r1), u.mono (bar_same (Same.new hp)) (slv r2), w.mono (bar_same (Same.new hp)) (slv r3)⟩
theorem ev_h3a {x : α × β × γ} (ha : Ev F O l ta (yH3 t u w) x O1) : Ev F O l (tOp (rIxL K) ta (tC (.int 0))) t x.1 O1 :=
  ev_op ha ev_int fun H z y hx e1 e2 Q q => by
    obtain ⟨p, v1, v2, v3, e, hp, r1, r2, r3⟩ := e1
    exact ⟨p, _, 0, v1, e, e2, SqL.of (bar_some.mp hp).2, rfl, q v1 H (same_refl _) r1⟩
theorem ev_h3b {x : α × β × γ} (ha : Ev F O l ta (yH3 t u w) x O1) : Ev F O l (tOp (rIxL K) ta (tC (.int 1))) u x.2.1 O1 :=
  ev_op ha ev_int fun H z y hx e1 e2 Q q => by
    obtain ⟨p, v1, v2, v3, e, hp, r1, r2, r3⟩ := e1
    exact ⟨p, _, 1, v2, e, e2, SqL.of (bar_some.mp hp).2, rfl, q v2 H (same_refl _) r2⟩
theorem ev_h3c {x : α × β × γ} (ha : Ev F O l ta (yH3 t u w) x O1) : Ev F O l (tOp (rIxL K) ta (tC (.int 2))) w x.2.2 O1 :=
  ev_op ha ev_int fun H z y hx e1 e2 Q q => by
    obtain ⟨p, v1, v2, v3, e, hp, r1, r2, r3⟩ := e1
    exact ⟨p, _, 2, v3, e, e2, SqL.of (bar_some.mp hp).2, rfl, q v3 H (same_refl _) r3⟩

/-! ### all but the last -/
theorem cut_init (vs : List V) : L2.cutV vs none (some (-1)) = vs.dropLast := by
  unfold L2.cutV
  have e0 : HT.sIx vs.length 0 none = 0 := rfl
  have e : HT.sIx vs.length vs.length (some (-1)) = vs.length - 1 := by
    show (if (-1 : Int) < 0 then ((-1 : Int) + (vs.length : Int)).toNat else min (-1 : Int).toNat vs.length) = vs.length - 1
    rw [if_pos (by decide)]
    omega
  rw [e0, e, List.drop_zero, Nat.sub_zero, List.dropLast_eq_take]
theorem a2_init {R : V → α → Prop} {vs : List V} {xs : List α} (h : A2 R vs xs) : A2 R vs.dropLast xs.dropLast := by
  rw [List.dropLast_eq_take, List.dropLast_eq_take, h.length]
  exact a2_take _ h
theorem evl_initL {xs : List α} (ha : Ev F O l ta (yL t) xs O1) (hb : Ev F O1 l tb yI (-1) O2) : EvL F O l (tSl (rSlL K) ta tNoPart (tPart tb)) t xs.dropLast O2 := fun σ H k Q q =>
  ha σ H k _ fun x H1 s1 k1 r1 => hb σ H1 k1 _ fun y H2 s2 k2 r2 => by
    obtain ⟨p, vs, e, hp, hl, r⟩ := (yL t).mono s2.same r1
    refine ⟨-1, r2, p, vs, e, SqL.of (bar_some.mp hp).2, fun z hz => ?_⟩
    rw [cut_init]
    exact q z _ H2 (s1.trans s2) k2 hz (k2.hx.fresh0 hz) (by rw [List.length_dropLast]; omega) (a2_init r)
theorem evl_initO {xs : List α} {p : Addr} (kk : Nat) (ha : Ev F O l ta (yV (.ref p)) () O1) (hb : Ev F O1 l tb yI (-1) O1) (hk : O1[kk]? = some (p, cL t xs) := by rfl) : EvL F O l (tSl (rSlL K) ta tNoPart (tPart tb)) t xs.dropLast O1 := fun σ H k Q q =>
  ha σ H k _ fun x H1 s1 k1 r1 => hb σ H1 k1 _ fun y H2 s2 k2 r2 => by
    obtain ⟨o, ho, vs, e, hl, r⟩ := own_at k2.hx hk
    subst e
    refine ⟨-1, r2, p, vs, r1, SqL.of ho, fun z hz => ?_⟩
    rw [cut_init]
    exact q z _ H2 (s1.trans s2) k2 hz (k2.hx.fresh0 hz) (by rw [List.length_dropLast]; omega) (a2_init r)
theorem ev_initT {xs : List α} (ha : Ev F O l ta (yT t) xs O1) (hb : Ev F O1 l tb yI (-1) O2) (hn : xs ≠ []) : Ev F O l (tSl (rSlT K) ta tNoPart (tPart tb)) (yT t) xs.dropLast O2 := fun σ H k Q q =>
  ha σ H k _ fun x H1 s1 k1 r1 => hb σ H1 k1 _ fun y H2 s2 k2 r2 => by
    obtain ⟨p, vs, e, hp, hl, r⟩ := (yT t).mono s2.same r1
    have hvn : 0 < vs.length := by
      rw [r.length]
      exact List.length_pos_iff.mpr hn
    refine ⟨-1, r2, p, vs, e, SqT.of (bar_some.mp hp).2, fun hh => ?_, fun z hz => ?_⟩
    · have h2 : (if (-1 : Int) < 0 then ((-1 : Int) + (vs.length : Int)).toNat else min (-1 : Int).toNat vs.length) = vs.length := hh.2
      rw [if_pos (by decide)] at h2
      omega
    · rw [cut_init]
      exact q _ _ ((s1.trans s2).grow (Same.new hz)) (k2.grow (Same.new hz)) ⟨z, _, rfl, bar_some.mpr ⟨k2.hx.fresh hz, upd_same⟩, by rw [List.length_dropLast]; omega, (a2_init r).imp fun _ _ y => t.mono (bar_same (Same.new hz)) y⟩
/-- tuple(l), l owned -/
theorem ev_tupleO {xs : List α} {p : Addr} (kk : Nat) (ha : Ev F O l ta (yV (.ref p)) () O1) (hk : O1[kk]? = some (p, cL t xs) := by rfl) : Ev F O l (tCB (rTupS K) (tCons ta tNil)) (yT t) xs O1 := fun σ H k Q q =>
  ha σ H k _ fun x H1 s1 k1 r1 => by
    obtain ⟨o, ho, vs, e, hl, r⟩ := own_at k1.hx hk
    subst e
    refine ⟨p, vs, by rw [show x = _ from r1], .inl ⟨SqL.of ho, fun z hz => ?_⟩⟩
    exact q _ _ (s1.grow (Same.new hz)) (k1.grow (Same.new hz)) ⟨z, vs, rfl, bar_some.mpr ⟨k1.hx.fresh hz, upd_same⟩, hl, r.imp fun _ _ y => t.mono (bar_same (Same.new hz)) y⟩
theorem ev_tupleT {xs : List α} (ha : Ev F O l ta (yT t) xs O1) : Ev F O l (tCB (rTupS K) (tCons ta tNil)) (yT t) xs O1 := fun σ H k Q q =>
  ha σ H k _ fun x H1 s1 k1 r1 => by
    obtain ⟨p, vs, e, hp, hl, r⟩ := id r1
    subst e
    exact ⟨p, vs, rfl, .inr ⟨SqT.of (bar_some.mp hp).2, q _ _ s1 k1 r1⟩⟩

/-! ### x in l, l.index(x) -/
theorem any_mem [DecidableEq α] (d : Dat t K) (a : α) : ∀ xs : List α, ((xs.map d.toD).any fun z => PyData.eqv z (d.toD a)) = decide (a ∈ xs)
  | [] => by simp
  | x :: xs => by
    rw [List.map_cons, List.any_cons, any_mem d a xs, d.eq]
    by_cases h : x = a
    · simp [h]
    · have h' : ¬ a = x := fun e => h e.symm
      simp [h, h']
theorem shaped_of {d : PyData} {n : Nat} (h : d.canLay0 = true ∧ d.depth ≤ n) (hn : n ≤ 64) : SeqAt.shaped d = true := Bool.and_eq_true_iff.mpr ⟨h.1, decide_eq_true (Nat.le_trans h.2 hn)⟩
theorem ev_inL [DecidableEq α] [d : Dat t K] {xs : List α} (ha : Ev F O l ta t a O1) (hb : Ev F O1 l tb (yL t) xs O2) (hd : d.dep + 1 ≤ 64 := by exact Nat.le_of_ble_eq_true rfl) : Ev F O l (tOp (rInD K) ta tb) yB (decide (a ∈ xs)) O2 :=
  ev_op ha hb fun H x y hx e1 e2 Q q => by
    obtain ⟨p, vs, e, hp, hl, r⟩ := e2
    subst e
    refine ⟨d.toD a, xs.map d.toD, d.dp bar_sub e1, .lst (SqL.of (bar_some.mp hp).2) (dpAll d bar_sub r), shaped_of (d.sh e1) (by omega), shaped_of (n := d.dep + 1) ⟨(shAll d r).1, Nat.succ_le_succ (shAll d r).2⟩ hd, ?_⟩
    rw [any_mem]
    exact q _ H (same_refl _) rfl
theorem ev_inO [DecidableEq α] [d : Dat t K] {xs : List α} {p : Addr} (k : Nat) (ha : Ev F O l ta t a O1) (hb : Ev F O1 l tb (yV (.ref p)) () O2) (hk : O2[k]? = some (p, cL t xs) := by rfl) (hd : d.dep + 1 ≤ 64 := by exact Nat.le_of_ble_eq_true rfl) : Ev F O l (tOp (rInD K) ta tb) yB (decide (a ∈ xs)) O2 :=
  ev_op ha hb fun H x y hx e1 e2 Q q => by
    obtain ⟨o, ho, vs, e, hl, r⟩ := own_at hx hk
    subst e
    have e3 : y = .ref p := e2
    subst e3
    refine ⟨d.toD a, xs.map d.toD, d.dp bar_sub e1, .lst (SqL.of ho) (dpAll d bar_sub r), shaped_of (d.sh e1) (by omega), shaped_of (n := d.dep + 1) ⟨(shAll d r).1, Nat.succ_le_succ (shAll d r).2⟩ hd, ?_⟩
    rw [any_mem]
    exact q _ H (same_refl _) rfl

/-! ### a list or a tuple -/
def yLT (t : Ty α) : Ty (List α) := ⟨fun H v xs => (yL t).rp H v xs ∨ (yT t).rp H v xs, fun s h => h.imp ((yL t).mono s) ((yT t).mono s)⟩
theorem ev_ltL {xs : List α} (h : Ev F O l te (yL t) xs O') : Ev F O l te (yLT t) xs O' := fun σ H k Q q => h σ H k Q fun v H1 s k1 r => q v H1 s k1 (.inl r)
theorem ev_ltT {xs : List α} (h : Ev F O l te (yT t) xs O') : Ev F O l te (yLT t) xs O' := fun σ H k Q q => h σ H k Q fun v H1 s k1 r => q v H1 s k1 (.inr r)
theorem ev_lenLT {xs : List α} (ha : Ev F O l ta (yLT t) xs O1) : Ev F O l (tCB (rLenS K) (tCons ta tNil)) yI (xs.length : Int) O1 := ev_cb1 ha fun H x hx e1 Q q => by
  rcases e1 with ⟨p, vs, e, hp, hl, r⟩ | ⟨p, vs, e, hp, hl, r⟩
  · exact ⟨p, vs, by rw [e], .inl (SqL.of (bar_some.mp hp).2), q _ H (same_refl _) (by rw [r.length]; rfl)⟩
  · exact ⟨p, vs, by rw [e], .inr (SqT.of (bar_some.mp hp).2), q _ H (same_refl _) (by rw [r.length]; rfl)⟩
theorem evl_listLT {xs : List α} (ha : Ev F O l ta (yLT t) xs O1) : EvL F O l (tCB (rListS K) (tCons ta tNil)) t xs O1 := fun σ H k Q q =>
  ha σ H k _ fun x H1 s1 k1 r1 => by
    rcases r1 with ⟨p, vs, e, hp, hl, r⟩ | ⟨p, vs, e, hp, hl, r⟩
    · exact ⟨p, vs, by rw [e], .inl (SqL.of (bar_some.mp hp).2), fun z hz => q z vs H1 s1 k1 hz (k1.hx.fresh0 hz) hl r⟩
    · exact ⟨p, vs, by rw [e], .inr (SqT.of (bar_some.mp hp).2), fun z hz => q z vs H1 s1 k1 hz (k1.hx.fresh0 hz) hl r⟩

/-! ### enumerate -/
def enumL (xs : List α) : List (Int × α) := (rng 0 xs.length).zip xs
theorem enumL_length (xs : List α) : (enumL xs).length = xs.length := by
  unfold enumL
  rw [List.length_zip, rng_length, Nat.min_self]
theorem rng_at (lo : Int) (n i : Nat) (h : i < n) : (rng lo n)[i]? = some (lo + i) := by
  unfold rng
  simp [h]
theorem itOk_enum {a : Addr} {xs : List α} : ItOk (Ite K a) (yP yI t) (enumL xs) [.val (yLA a t) xs] := by
  refine ⟨fun H => ∃ vs, H a = some (.lst vs) ∧ vs.length = xs.length, fun i H x H' => ∃ T v, x = .ref T ∧ H T = none ∧ H' = upd H T (.tup [.int i, v]) ∧ ∀ vs, H a = some (.lst vs) → vs[i]? = some v, ⟨?_, ?_, ?_⟩, ?_, ?_⟩
  · rintro i H hi ⟨vs, h1, n1⟩
    rw [enumL_length] at hi
    exact ⟨vs, vs[i]'(by omega), SqL.of h1, List.getElem?_eq_getElem (by omega)⟩
  · rintro H ⟨vs, h1, n1⟩
    rw [enumL_length]
    exact ⟨vs, SqL.of h1, by omega⟩
  · rintro i H x H' hi ⟨vs, h1, n1⟩ hy
    obtain ⟨T, v, e1, e2, e3, f1⟩ := hy
    exact ⟨T, v, e1, e2, e3, fun vs h => f1 vs (SqL.of h)⟩
  · intro B H s hB
    obtain ⟨vs, h1, r1⟩ := ghost_l hB
    exact ⟨vs, s _ _ h1, r1.length⟩
  · rintro F O i H x H' hx hB hi ⟨T, v, rfl, hT, rfl, f1⟩
    obtain ⟨vs, h1, r1⟩ := ghost_l hB
    obtain ⟨z, g1, k1⟩ := a2_get2 r1 (f1 vs (bar_some.mp h1).2)
    rw [enumL_length] at hi
    refine ⟨Same.new hT, ((i : Int), z), ?_, T, _, _, rfl, bar_some.mpr ⟨hx.fresh hT, upd_same⟩, rfl, t.mono (bar_same (Same.new hT)) k1⟩
    unfold enumL
    rw [List.getElem?_zip_eq_some]
    exact ⟨by rw [rng_at _ _ _ hi]; simp, g1⟩
theorem iv_enum {xs : List α} (he : Ev F O l te (yL t) xs O1) : Iv F O l (iEnum K (tCons te tNil)) (yP yI t) (enumL xs) O1 := fun σ H k R q =>
  he σ H k _ fun v H1 s1 k1 r1 => by
    obtain ⟨p, vs, e, h, hl, r⟩ := r1
    exact ⟨p, vs, by rw [e], SqL.of (bar_some.mp h).2, q _ H1 _ s1 (k1.push (gs := [.val (yLA p t) xs]) (ws := [some v]) (.cons (show SlOk _ (some v) (.val (yLA p t) xs) from ⟨v, rfl, e, vs, h, r⟩) .nil)) itOk_enum⟩
end
end TL
/-! super().m(..) as the second statement of a method -/
namespace TL
open PySem L2
section
variable {CX : CXT} {P : Program} {w : World} {K : PySem.W.Frag} {mg : Str → Option Value} {base : Heap} {N ps : List Str} {name qual me : Str} {params : Arguments} {sc : Scope} {f cda cc D : Addr} {A : Around} {outer : List Env} {s : Shared} {H : Hp} {E : XK} {us : List Value} {vs : List V}
theorem fn_super1 {k k2 : Nat} {st0 : Stmt} {body rest : List Stmt} {dV kV doc pm ct oc : Value} {an od : Option Addr} {osl : Array (Option Value)} {p0 p1 apos cpos epos : Pos} {e : Expr} {es : List Expr} {m : Str} {sp sp2 : Sp} {ar : Arg} {pl : Env → Sem Bool}
    (lk : K.lookup f = some ⟨oc, od, .func (PySem.W.fnX name qual params body sc [("__class__", cc)] dV kV doc pm an (.ref cda) ct), osl⟩) (hcd : PySem.W.codeIn K (.ref cda) qual = true) (S : ScS N ps sc me) (SF : SupF P K cda cc D)
    (hp : (params.posonlyargs ++ params.args).head? = some ar) (har : ar.arg = me) (hsup : mg "super" = none) (hm : (m == ("__class__" : Str)) = false)
    (hbd : body = st0 :: .Expr (.Call (.Attribute (.Call (.Name "super" p0) [] [] p1) m apos) (e :: es) [] cpos) epos :: rest)
    (he : ∀ env : Env, eval (.Call (.Attribute (.Call (.Name "super" p0) [] [] p1) m apos) (e :: es) [] cpos) env = (do
      let ov ← attributeBase (.Call (.Name "super" p0) [] [] p1) m env (eval (.Call (.Name "super" p0) [] [] p1) env)
      standAt apos.atName
      let (f, first) ← holding [ov] (getMethod ov m (pl env))
      callWith cpos f first (backTo cpos (starEach (e :: es) env)) []))
    (hst : ∀ env : Env, starEach (e :: es) env = (false, eval e env) :: starEach es env) (hpl : ∀ env : Env, (backTo cpos (starEach es env)).any (·.1) = false)
    (len : ∀ vs H Q E, sp vs H Q E → vs.length = ps.length)
    (hbody : ∀ (A : Around) (outer : List Env) (s : Shared) (H : Hp) (vs : List V) (Q : VK) (E : XK), Room k (A.deeper (envS qual sc s.heap.objs.size f cda cc)) → sp vs H Q E →
      ∃ (C f2 : Addr) (fd2 : FuncData) (ps2 : List Str) (t0 : TS) (tA : TA) (t : TS), SupC K C D m f2 ∧ FnOk P w K mg base CX k2 f2 fd2 ps2 sp2 ∧ k2 ≤ k ∧ Binds K fd2 ps2 [] ∧
        PS (cxS CX P w K mg base N qual sc f cda cc A outer s H E) st0 t0 ∧ PA (cxS CX P w K mg base N qual sc f cda cc A outer s H E) (e :: es) tA ∧ PSs (cxS CX P w K mg base N qual sc f cda cc A outer s H E) rest t ∧ Passes CX (cxS CX P w K mg base N qual sc f cda cc A outer s H E) E0 ∧
        t0 { nx := fun σ1 H1 => ∃ (x dx : Addr) (fs : List (Str × V)), σ1[0]? = some (some (.ref x)) ∧ H1 x = some (.ins C dx fs) ∧ ∀ q, H1 q = none → tA σ1 (upd H1 q (.met f2 x)) fun ws H2 => H2 q = some (.met f2 x) ∧ sp2 (.ref x :: ws) H2 (fun _ H3 => t { nx := fun _ H' => Q .non H', rt := Q } σ1 H3) E0, rt := fun _ _ => False } (L2.start N vs) H) :
    FnOk P w K mg base CX (k + 1) f (PySem.W.fnX name qual params body sc [("__class__", cc)] dV kV doc pm an (.ref cda) ct) ps sp := by
  refine ⟨len, fun A outer s H args us vs Q E hr e0 hb r hsp => ?_⟩
  have hl := len _ _ _ _ hsp
  have KX : K.In s.heap := e0.mod.kin.keeps fun b o e => (e0.bs b o e).1
  have lim : s.heap.NoLimit := e0.mod.nolimit.keeps fun b o e => (e0.bs b o e).1
  obtain ⟨C, f2, fd2, ps2, t0, tA, t, SC, F2, hk2, b2, h00, hA, hR, hps, hq0⟩ := hbody A outer s H vs Q E (hr.deeper _) hsp
  refine ks_codeAny_call_defAt (fd := PySem.W.fnX name qual params body sc [("__class__", cc)] dV kV doc pm an (.ref cda) ct) hr.depth (KX _ _ lk) rfl lim (PySem.W.codeRec_of KX hcd) rfl hb S.nocell (fun y hy => S.par y.1 (List.of_mem_zip hy).1) (fun h₀ hns kp => ?_) S.co S.gen S.kind
  have I00 : Inv (cxS CX P w K mg base N qual sc f cda cc A outer s H E) [] (L2.start N vs) H { s with heap := h₀, toks := s.toks + (ps.zip us).length } := by
    obtain ⟨cl, cld, csl, hc⟩ := SF.cell
    exact inv_startS S hr.hd e0 hl r ⟨cl, cld, csl, _, hc⟩ hns kp
  subst hbd
  have fin : ∀ {σ' : St} {H' : Hp} {v : V} {u : Value} {s' : Shared}, Inv (cxS CX P w K mg base N qual sc f cda cc A outer s H E) [] σ' H' s' → RelV v u → Q v H' → CE outer P w H s Q u s' :=
    fun {σ' H' v u s'} J rv q => ⟨v, H', J.os, J.bare, J.base, J.hok, rv, q⟩
  refine ks_wpAt_execs_cons (wpAt_of_wpAny (wpAny_mono (h00.run [] _ _ H _ I00 hq0) (fun fl s1 h1 => ?_) fun e6 s6 h6 => h6))
  cases fl with
  | ret u =>
    obtain ⟨_, _, _, _, _, q6⟩ := h1
    exact False.elim q6
  | brk =>
    obtain ⟨_, _, _, q6⟩ := h1
    exact False.elim q6
  | cont =>
    obtain ⟨_, _, _, q6⟩ := h1
    exact False.elim q6
  | next =>
  obtain ⟨σ1, H1, I, x, dx, fs, hv0, hx, hq⟩ := h1
  have X0 : K.In s1.heap := I.kIn
  obtain ⟨ccl, cdd, vs2, ccs, file, tf, hcode, hvs2, hfile⟩ := SF.code
  obtain ⟨cl, cld, csl, hcell⟩ := SF.cell
  obtain ⟨cdD, hcD⟩ := Option.isSome_iff_exists.mp SF.clsD
  obtain ⟨oD, hD1, hD2⟩ : ∃ oD, s1.heap.get? D = some oD ∧ oD.data = .cls cdD := by
    unfold PySem.W.clsIn at hcD
    split at hcD
    · rename_i c d cd' sl ho
      cases hcD
      exact ⟨_, X0 _ _ ho, rfl⟩
    · cases hcD
  refine ks_wpAt_execs_cons (ks_wpAt_Expr_any (ks_wpAt_MethodCall ?_ (he _)) I.quiet rfl)
  obtain ⟨mA, O0, _⟩ := ins_get I.hok hx
  obtain ⟨od0, J0, _⟩ := O0.look
  have hC' : x ≠ C := by
    rintro rfl
    cases hc : PySem.W.clsIn K x with
    | none =>
      have z := SC.sub
      unfold PySem.W.mroIn at z
      rw [hc] at z
      cases z
    | some cd => exact PySem.W.ks_ne I.kIn J0 hc rfl
  refine ks_wpAt_super_base (env := envS qual sc s.heap.objs.size f cda cc) (ar := ar) S.sup S.cls hm rfl (X0 _ _ lk) rfl hp rfl (X0 _ _ hcode) rfl hvs2 hfile SF.top ?_
  obtain ⟨mb, hb1, hb2⟩ := I.mod.blt
  refine PySem.W.ks_loadName_global S.kind S.sup (Calls.loadGlobal_builtin (env := envS qual sc s.heap.objs.size f cda cc) (I.mod.glob.keeps I.bk) hsup (hb1.keeps I.bk) ((hb2 _ (by decide +kernel)).trans (by decide +kernel)) ⟨rfl, ?_⟩)
  refine wpAny_loadName_free S.kind S.cls rfl ⟨_, X0 _ _ hcell, rfl⟩ ?_
  rw [har]
  have hN0 : N[0]? = some me := by
    have h1 := S.first
    rw [← S.pre, List.getElem?_take] at h1
    split at h1
    · exact h1
    · cases h1
  obtain ⟨mloc, hnloc, hlloc⟩ := I.loc
  obtain ⟨uself, rself, lself⟩ := hlloc 0 me (.ref x) hN0 hv0 (.inl (S.par _ (List.mem_of_getElem? S.first)))
  have euself : uself = .ref x := rself
  subst euself
  have hself : mloc me = some (.ref x) := by
    rcases lself with ⟨_, h2⟩ | ⟨h1, _⟩
    · exact h2
    · have hp := S.par _ (List.mem_of_getElem? S.first)
      rcases h1 with h1 | h1
      · have h1' : sc.names.lookup me = some .cell := h1
        rw [hp] at h1'
        cases h1'
      · have h1' : sc.names.lookup me = some .free := h1
        rw [hp] at h1'
        cases h1'
  refine wpAny_loadName_local S.kind (S.par _ (List.mem_of_getElem? S.first)) hnloc hself ?_
  refine ks_wpAny_isType_cls hD1 hD2 ⟨rfl, ?_⟩
  refine ks_wpAny_call_super hD1 hD2 J0.at_ J0.cls (fun c e => ?_) (PySem.W.looks_mroIn X0 SC.sub) (fun h' e k => ?_)
  · have := J0.no
    unfold PySem.W.notCls at this
    rw [e] at this
    exact Bool.noConfusion this
  have I1 := I.kept (h' := h') (t' := s1.toks) k
  have X1 : K.In h' := X0.keeps k
  obtain ⟨of2, hof2, hofc⟩ : ∃ of, h'.get? f2 = some of ∧ of.cls = .type "function" := by
    have ht' : (K.lookup f2).map (·.cls) = some (.type "function") := SC.ty
    cases z : K.lookup f2 with
    | none => rw [z] at ht'; cases ht'
    | some of => rw [z] at ht'; exact ⟨of, X1 _ _ z, Option.some.inj ht'⟩
  cases hc : PySem.W.clsIn K C with
  | none =>
    have z := SC.find
    unfold PySem.W.ks_superIn at z
    rw [hc] at z
    cases z
  | some cd =>
  have hfind := SC.find
  unfold PySem.W.ks_superIn at hfind
  rw [hc] at hfind
  refine ks_wpAny_getMethod_super e (PySem.W.looks_opaque X1 SC.stat) (l₀ := cd.mro) ?_ rfl X1 hfind hof2 hofc hC' hm ?_
  · exact fun A Q E s k q => wpAny_bind ((PySem.W.looks_clsIn X1 hc) A _ E s k (wpAny_pure q))
  have nq : H1 h'.objs.size = none := I1.hok.fresh (Nat.le_refl _)
  have I2 := I1.laid (t' := s1.toks + 1) (a := h'.objs.size) (o := .met f2 x) (h' := h'.push (PySem.W.methodObj (.ref f2) (.ref x))) (fun b u z => Heap.get?_push_of_some _ z) (Nat.le_refl _)
    (show (h'.push (PySem.W.methodObj (.ref f2) (.ref x))).get? h'.objs.size = some (PySem.W.methodObj (.ref f2) (.ref x)) from Heap.get?_push_size h' rfl)
  refine callwith_met (X := cxS CX P w K mg base N qual sc f cda cc A outer s H E) (g := f2) (a := x) (by rw [hst]; show ((false || (backTo cpos (starEach es _)).any (·.1)) || false) = false; rw [hpl]; rfl) SC.fn ?_
  have hAr := hA.run cpos [] _ _ _ _ I2 (hq _ nq)
  rw [hst] at hAr ⊢
  refine Calls.evalArgs_plain ?_
  refine thn hAr fun us3 s3 ⟨ws, H3, I3, r3, hm3, hsp2⟩ => ⟨met_P I3 hm3, ?_⟩
  refine wpAny_call (PySem.W.method_call (met_P I3 hm3).1 ?_)
  have r4 : Vals (.ref x :: ws) (.ref x :: us3) := .cons rfl r3
  have hl4 : (Value.ref x :: us3).length = ps2.length := by rw [← r4.length]; exact F2.len _ _ _ _ hsp2
  have bb := b2 s3 (.ref x :: us3) I3.kIn (by rw [List.append_nil]; exact hl4)
  rw [List.append_nil] at bb
  refine codeAny_mono (F2.run _ _ s3 H3 _ _ _ _ E0 ((hr.deeper _).mono hk2) I3.env0 bb r4 hsp2) fun r5 s5 hq5 => ?_
  cases r5 with
  | error e5 => exact hps [] _ H3 s3 e5 s5 I3 hq5
  | ok fl5 =>
    cases fl5 with
    | ret u5 =>
      obtain ⟨v5, H5, I5, rv5, q5⟩ := I3.after hq5
      refine wpAt_of_wpAny (wpAny_mono (hR.run [] s5 _ H5 _ I5 q5) (fun fl s6 h6 => ?_) fun e6 s6 h6 => h6)
      cases fl with
      | ret u =>
        obtain ⟨v6, σ6, H6, J6, rv6, q6⟩ := h6
        exact fin J6 rv6 q6
      | next =>
        obtain ⟨σ6, H6, J6, q6⟩ := h6
        exact fin (v := V.non) (u := Value.none) J6 rfl q6
      | brk =>
        obtain ⟨_, _, _, q6⟩ := h6
        exact False.elim q6
      | cont =>
        obtain ⟨_, _, _, q6⟩ := h6
        exact False.elim q6
    | next => exact False.elim hq5
    | brk => exact False.elim hq5
    | cont => exact False.elim hq5
end
end TL
namespace TL
open PySem L2 PyProof.Rows PySem.Spec RT
section
variable {F : Fx} {O O1 O2 O3 O' : Own} {l l' : Lc} {α β γ ρ S T A : Type} {K : PySem.W.Frag}
  {ta tb tc te : TE} {t : Ty α} {u : Ty β} {w : Ty γ} {a : α} {b : β} {c : γ} {D : Ends} {P : ρ → Prop} {r : ρ}
/-- a cell set, the new content named -/
theorem b_setIL {ts : TS} {tv to ti : TE} {xs : List α} {x : α} {i : Int} {p : Addr} {kk : List α → ρ} (k : Nat) (hv : Ev F O l tv t x O1) (ho : Ev F O1 l to (yV (.ref p)) () O2) (hi : Ev F O2 l ti yI i O3) (hb : Inb xs i) (hk : O3[k]? = some (p, cL t xs))
    (h : ∀ ys, ys = setI xs i x → Bd F (O3.set k (p, cL t ys)) l ts D P (kk ys)) : Bd F O l (tSeq (tAsg tv (gSub to ti rSetL)) ts) D P (bnd (setI xs i x) kk) := by
  show Bd F O l (tSeq (tAsg tv (gSub to ti rSetL)) ts) D P (kk (setI xs i x))
  exact b_setI k hv ho hi hb hk (h _ rfl)
end
theorem setI_len' {α : Type} (xs : List α) (i : Int) (x : α) : (setI xs i x).length = xs.length := by
  unfold setI
  split
  · exact List.length_set
  · rfl
theorem ix_setN {α : Type} [Inhabited α] {xs : List α} {n : Nat} {x : α} {m : Nat} (hn : n < xs.length) (hm : m < xs.length) : ix (setI xs (n : Int) x) (m : Int) = if m = n then x else ix xs (m : Int) := by
  have e : ixN xs.length (n : Int) = some n := by
    unfold ixN
    rw [if_pos (by omega), if_pos (by omega)]
    simp
  have e2 : ∀ k : Nat, m < k → ixN k (m : Int) = some m := fun k hk => by
    unfold ixN
    rw [if_pos (by omega), if_pos (by omega)]
    simp
  have e3 : setI xs (n : Int) x = xs.set n x := by unfold setI; rw [e]
  rw [e3]
  unfold ix atI
  rw [List.length_set, e2 _ hm]
  simp only [Option.bind_some, List.getElem?_set]
  by_cases h : m = n
  · subst h
    simp [hm]
  · rw [if_neg h, if_neg (fun z => h z.symm)]
end TL
/-! A field from the few things that make one. -/
namespace TL
structure FieldD (R : Type) where
  zero : R
  one : R
  add : R → R → R
  mul : R → R → R
  neg : R → R
  inv : R → R
  add_zero : ∀ a, add a zero = a
  add_comm : ∀ a b, add a b = add b a
  add_assoc : ∀ a b c, add (add a b) c = add a (add b c)
  neg_add : ∀ a, add (neg a) a = zero
  mul_comm : ∀ a b, mul a b = mul b a
  mul_assoc : ∀ a b c, mul (mul a b) c = mul a (mul b c)
  mul_one : ∀ a, mul a one = a
  distrib : ∀ a b c, mul a (add b c) = add (mul a b) (mul a c)
  zero_one : zero ≠ one
  inv_zero : inv zero = zero
  mul_inv : ∀ a, a ≠ zero → mul a (inv a) = one
namespace FieldD
variable {R : Type} (D : FieldD R)
theorem cancel {a b c : R} (h : D.add a b = D.add a c) : b = c := by
  have h2 : D.add (D.neg a) (D.add a b) = D.add (D.neg a) (D.add a c) := by rw [h]
  rw [← D.add_assoc, ← D.add_assoc, D.neg_add, D.add_comm, D.add_zero, D.add_comm, D.add_zero] at h2
  exact h2
theorem mul_zero (a : R) : D.mul a D.zero = D.zero := by
  refine (D.cancel (a := D.mul a D.zero) (b := D.zero) (c := D.mul a D.zero) ?_).symm
  rw [← D.distrib, D.add_zero, D.add_zero]
theorem add_neg (a : R) : D.add a (D.neg a) = D.zero := by rw [D.add_comm, D.neg_add]
theorem neg_zero : D.neg D.zero = D.zero := by rw [← D.add_zero (D.neg D.zero), D.neg_add]
theorem neg_neg (a : R) : D.neg (D.neg a) = a := D.cancel (a := D.neg a) (by rw [D.add_neg, D.neg_add])
theorem neg_mul (a b : R) : D.mul (D.neg a) b = D.neg (D.mul a b) := by
  refine D.cancel (a := D.mul a b) ?_
  rw [D.add_neg, D.mul_comm a b, D.mul_comm (D.neg a) b, ← D.distrib, D.add_neg, D.mul_zero]
theorem inv_unique {a b : R} (h : D.mul a b = D.one) : b = D.inv a := by
  have ha : a ≠ D.zero := fun z => by
    rw [z, D.mul_comm, D.mul_zero] at h
    exact D.zero_one h
  have h2 : D.mul (D.inv a) (D.mul a b) = D.mul (D.inv a) D.one := by rw [h]
  rw [← D.mul_assoc, D.mul_comm (D.inv a) a, D.mul_inv a ha, D.mul_comm, D.mul_one, D.mul_one] at h2
  exact h2
theorem inv_one : D.inv D.one = D.one := (D.inv_unique (D.mul_one _)).symm
theorem inv_inv (a : R) [Decidable (a = D.zero)] : D.inv (D.inv a) = a := by
  by_cases h : a = D.zero
  · rw [h, D.inv_zero, D.inv_zero]
  · exact (D.inv_unique (by rw [D.mul_comm]; exact D.mul_inv a h)).symm
def nat : Nat → R
  | 0 => D.zero
  | 1 => D.one
  | n + 2 => D.add (nat (n + 1)) D.one
theorem nat_succ (n : Nat) : D.nat (n + 1) = D.add (D.nat n) D.one := by
  cases n with
  | zero => show D.one = D.add D.zero D.one; rw [D.add_comm, D.add_zero]
  | succ n => rfl
def pow (a : R) : Nat → R
  | 0 => D.one
  | n + 1 => D.mul (pow a n) a
def int : Int → R
  | .ofNat n => D.nat n
  | .negSucc n => D.neg (D.nat (n + 1))
theorem int_neg (i : Int) : D.int (-i) = D.neg (D.int i) := by
  match i with
  | .ofNat 0 => exact D.neg_zero.symm
  | .ofNat (n + 1) => rfl
  | .negSucc n => exact (D.neg_neg _).symm
def zpw (a : R) : Int → R
  | .ofNat n => D.pow a n
  | .negSucc n => D.inv (D.pow a (n + 1))
theorem zpw_neg [DecidableEq R] (a : R) (i : Int) : D.zpw a (-i) = D.inv (D.zpw a i) := by
  match i with
  | .ofNat 0 => exact D.inv_one.symm
  | .ofNat (n + 1) => rfl
  | .negSucc n => exact (D.inv_inv _).symm
@[reducible] def field [DecidableEq R] : Lean.Grind.Field R where
  add := D.add
  mul := D.mul
  neg := D.neg
  sub a b := D.add a (D.neg b)
  inv := D.inv
  div a b := D.mul a (D.inv b)
  natCast := ⟨D.nat⟩
  ofNat n := ⟨D.nat n⟩
  nsmul := ⟨fun n a => D.mul (D.nat n) a⟩
  npow := ⟨D.pow⟩
  intCast := ⟨D.int⟩
  zsmul := ⟨fun i a => D.mul (D.int i) a⟩
  zpow := ⟨D.zpw⟩
  add_zero := D.add_zero
  add_comm := D.add_comm
  add_assoc := D.add_assoc
  mul_assoc := D.mul_assoc
  mul_one := D.mul_one
  one_mul a := by show D.mul D.one a = a; rw [D.mul_comm]; exact D.mul_one a
  left_distrib := D.distrib
  right_distrib a b c := by
    show D.mul (D.add a b) c = D.add (D.mul a c) (D.mul b c)
    rw [D.mul_comm, D.distrib, D.mul_comm c, D.mul_comm c]
  zero_mul a := by show D.mul D.zero a = D.zero; rw [D.mul_comm]; exact D.mul_zero a
  mul_zero := D.mul_zero
  pow_zero _ := rfl
  pow_succ _ _ := rfl
  ofNat_succ n := D.nat_succ n
  ofNat_eq_natCast _ := rfl
  nsmul_eq_natCast_mul _ _ := rfl
  neg_add_cancel := D.neg_add
  sub_eq_add_neg _ _ := rfl
  neg_zsmul i a := by
    show D.mul (D.int (-i)) a = D.neg (D.mul (D.int i) a)
    rw [D.int_neg, D.neg_mul]
  zsmul_natCast_eq_nsmul _ _ := rfl
  intCast_ofNat _ := rfl
  intCast_neg i := D.int_neg i
  mul_comm := D.mul_comm
  div_eq_mul_inv _ _ := rfl
  zero_ne_one := D.zero_one
  inv_zero := D.inv_zero
  mul_inv_cancel h := D.mul_inv _ h
  zpow_zero _ := rfl
  zpow_succ _ _ := rfl
  zpow_neg a i := D.zpw_neg a i
end FieldD
end TL
/-! Plain number theory: powers modulo a number, Fermat below 998. -/
namespace TL
theorem mod_mul {a b c d m : Int} (h : a % m = b % m) (k : c % m = d % m) : (a * c) % m = (b * d) % m := by
  rw [Int.mul_emod, h, k, ← Int.mul_emod]
theorem mod_pow {a b m : Int} (h : a % m = b % m) : ∀ n : Nat, (a ^ n) % m = (b ^ n) % m
  | 0 => by rw [Int.pow_zero, Int.pow_zero]
  | n + 1 => by rw [Int.pow_succ, Int.pow_succ]; exact mod_mul (mod_pow h n) h
theorem pm_half {m f g : Int} {l : Int} (hl : 0 < l) : ((if l % 2 = 1 then (f * g) % m else f) * ((g * g) % m) ^ (l / 2).toNat) % m = (f * g ^ l.toNat) % m := by
  have e1 : (((g * g) % m) ^ (l / 2).toNat) % m = (g ^ (2 * (l / 2).toNat)) % m := by
    rw [mod_pow (Int.emod_emod_of_dvd _ (Int.dvd_refl m)) _, Int.pow_mul, show g ^ 2 = g * g by rw [Int.pow_succ, Int.pow_succ, Int.pow_zero, Int.one_mul]]
  split
  · rename_i h
    rw [mod_mul (Int.emod_emod_of_dvd _ (Int.dvd_refl m)) e1, Int.mul_assoc, Int.mul_comm g, ← Int.pow_succ]
    rw [show (2 * (l / 2).toNat).succ = l.toNat by omega]
  · rename_i h
    rw [mod_mul rfl e1]
    rw [show 2 * (l / 2).toNat = l.toNat by omega]
def primeB (n : Nat) : Bool := decide (2 ≤ n) && (List.range 32).all fun d => d < 2 || n ≤ d || n % d != 0
def fermatB (p : Nat) : Bool := (List.range p).all fun a => Nat.beq a 0 || Nat.beq (a ^ (p - 1) % p) 1
/-- Fermat's little theorem below 998, by the kernel (some 15 s) -/
theorem fermat_all : ((List.range 998).all fun p => !(primeB p) || fermatB p) = true := by decide +kernel
theorem fermat {p a : Nat} (hp : p ≤ 997) (h : primeB p = true) (h0 : 0 < a) (ha : a < p) : a ^ (p - 1) % p = 1 := by
  have h1 := List.all_eq_true.mp fermat_all p (List.mem_range.mpr (by omega))
  rw [h] at h1
  have h2 : fermatB p = true := h1
  have h3 := List.all_eq_true.mp h2 a (List.mem_range.mpr ha)
  rcases Bool.or_eq_true _ _ ▸ h3 with k | k
  · have := Nat.eq_of_beq_eq_true k
    omega
  · exact Nat.eq_of_beq_eq_true k
end TL
/-! Threes over a field, in plain Lean. -/
namespace TL
open Lean.Grind
set_option linter.unusedSectionVars false
section
variable {R : Type} [Field R] [DecidableEq R]
abbrev V3 (R : Type) := R × R × R
def crs (a b : V3 R) : V3 R := (a.2.1 * b.2.2 - a.2.2 * b.2.1, a.2.2 * b.1 - a.1 * b.2.2, a.1 * b.2.1 - a.2.1 * b.1)
def dt (a b : V3 R) : R := a.1 * b.1 + a.2.1 * b.2.1 + a.2.2 * b.2.2
def scl (c : R) (a : V3 R) : V3 R := (c * a.1, c * a.2.1, c * a.2.2)
def lead (a : V3 R) : R := if a.1 = 0 then (if a.2.1 = 0 then a.2.2 else a.2.1) else a.1
def nrm (a : V3 R) : V3 R := scl (lead a)⁻¹ a
theorem v3_ext {a b : V3 R} : a = b ↔ a.1 = b.1 ∧ a.2.1 = b.2.1 ∧ a.2.2 = b.2.2 := by
  obtain ⟨a1, a2, a3⟩ := a
  obtain ⟨b1, b2, b3⟩ := b
  simp only [Prod.mk.injEq]
theorem lead_ne {a : V3 R} (h : a ≠ (0, 0, 0)) : lead a ≠ 0 := by
  obtain ⟨a1, a2, a3⟩ := a
  unfold lead
  split
  · split
    · rename_i h1 h2
      intro h3
      exact h (v3_ext.mpr ⟨h1, h2, h3⟩)
    · assumption
  · assumption
theorem crs_scl (c d : R) (a b : V3 R) : crs (scl c a) (scl d b) = scl (c * d) (crs a b) := by
  refine v3_ext.mpr ⟨?_, ?_, ?_⟩ <;> (simp only [crs, scl]; grind)
theorem dt_scl (c d : R) (a b : V3 R) : dt (scl c a) (scl d b) = c * d * dt a b := by
  simp only [dt, scl]; grind
theorem mul_ne {a b : R} (ha : a ≠ 0) (hb : b ≠ 0) : a * b ≠ 0 := by grind
theorem scl_zero {c : R} {a : V3 R} (hc : c ≠ 0) : scl c a = (0, 0, 0) ↔ a = (0, 0, 0) := by
  rw [v3_ext, v3_ext]
  simp only [scl]
  grind
theorem crs_self (a : V3 R) : crs a a = (0, 0, 0) := by
  refine v3_ext.mpr ⟨?_, ?_, ?_⟩ <;> (simp only [crs]; grind)
theorem dt_crs1 (a b : V3 R) : dt a (crs a b) = 0 := by simp only [dt, crs]; grind
theorem dt_crs2 (a b : V3 R) : dt b (crs a b) = 0 := by simp only [dt, crs]; grind
theorem nrm_eq {a b : V3 R} (ha : a ≠ (0, 0, 0)) (hb : b ≠ (0, 0, 0)) : nrm a = nrm b ↔ crs a b = (0, 0, 0) := by
  have h1 := lead_ne ha
  have h2 := lead_ne hb
  constructor
  · intro h
    have h3 : crs (nrm a) (nrm b) = (0, 0, 0) := by rw [h]; exact crs_self _
    unfold nrm at h3
    rw [crs_scl] at h3
    have h4 : (lead a)⁻¹ ≠ 0 := by grind
    have h5 : (lead b)⁻¹ ≠ 0 := by grind
    exact (scl_zero (mul_ne h4 h5)).mp h3
  · intro h
    rw [v3_ext] at h
    simp only [crs] at h
    obtain ⟨e1, e2, e3⟩ := h
    refine v3_ext.mpr ?_
    simp only [nrm, scl, lead] at *
    obtain ⟨a1, a2, a3⟩ := a
    obtain ⟨b1, b2, b3⟩ := b
    simp only [ne_eq, Prod.mk.injEq] at *
    grind
end
end TL
/-! lists or tuples by cases; unpacking; is; order of tuples; super().m(..) in the middle of a method -/
namespace TL
open PySem L2
section
variable {X : Cx} {e tg it : Expr} {t1 t2 : TE} {w1 w2 : TI} {s1 s2 : TS} {st : Stmt}
theorem pe_or (h1 : PE X e t1) (h2 : PE X e t2) : PE X e (fun σ H Q => t1 σ H Q ∨ t2 σ H Q) := ⟨fun p s σ H Q I h => h.elim (h1.run p s σ H Q I) (h2.run p s σ H Q I)⟩
theorem pi_or (h1 : PI X tg it w1) (h2 : PI X tg it w2) : PI X tg it (fun σ H Q => w1 σ H Q ∨ w2 σ H Q) := ⟨fun p s σ H Q I h => h.elim (h1.run p s σ H Q I) (h2.run p s σ H Q I)⟩
theorem ps_or (h1 : PS X st s1) (h2 : PS X st s2) : PS X st (fun D σ H => s1 D σ H ∨ s2 D σ H) := ⟨fun p s σ H Q I h => h.elim (h1.run p s σ H Q I) (h2.run p s σ H Q I)⟩
end
section
variable {F : Fx} {O O1 O2 O3 O' : Own} {l l' : Lc} {α β γ ρ S : Type} {K : PySem.W.Frag}
  {ta tb tc te t1 t2 : TE} {t : Ty α} {u : Ty β} {w : Ty γ} {a : α} {b : β} {c : γ} {D : Ends} {P : ρ → Prop} {r : ρ}
theorem a2_back {B : Hp} {s s' : Sl} (h : ∀ o, SlOk B o s → SlOk B o s') : ∀ {σ : St} {l : List Sl} {i : Nat}, l[i]? = some s' → A2 (SlOk B) σ (l.set i s) → A2 (SlOk B) σ l
  | _, [], _, e, _ => by simp at e
  | _, x :: l, 0, e, .cons r q => by
    simp at e
    subst e
    exact .cons (h _ r) q
  | _, x :: l, i + 1, e, .cons r q => .cons r (a2_back h (i := i) (by simpa using e) q)
theorem lt_L {xs : List α} {B : Hp} {o : Option V} (h : SlOk B o (.val (yL t) xs)) : SlOk B o (.val (yLT t) xs) := let ⟨v, e, r⟩ := h; ⟨v, e, .inl r⟩
theorem lt_T {xs : List α} {B : Hp} {o : Option V} (h : SlOk B o (.val (yT t) xs)) : SlOk B o (.val (yLT t) xs) := let ⟨v, e, r⟩ := h; ⟨v, e, .inr r⟩
theorem Ok.lt {σ : St} {H : Hp} {xs : List α} {i : Nat} (k : Ok F O l σ H) (hi : l.s[i]? = some (.val (yLT t) xs)) : Ok F O (l.set i (.val (yL t) xs)) σ H ∨ Ok F O (l.set i (.val (yT t) xs)) σ H := by
  obtain ⟨o, e1, v, e2, rv⟩ := slot_of (σ := []) (i := 0) k.sl hi
  subst e2
  have e3 : σ.set i (some v) = σ := by
    obtain ⟨hlt, e4⟩ := List.getElem?_eq_some_iff.mp e1
    rw [← e4]
    exact List.set_getElem_self hlt
  rcases rv with rv | rv
  · have k3 := k.set (t := yL t) (a := xs) (v := v) i rv
    rw [e3] at k3
    exact .inl k3
  · have k3 := k.set (t := yT t) (a := xs) (v := v) i rv
    rw [e3] at k3
    exact .inr k3
theorem Ok.unL {σ : St} {H : Hp} {xs : List α} {i : Nat} {gs : List Sl} (hi : l.s[i]? = some (.val (yLT t) xs)) (k : Ok F O ((l.set i (.val (yL t) xs)).push gs) σ H) : Ok F O (l.push gs) σ H := ⟨a2_back (fun _ h => lt_L h) hi k.sl, k.gh, k.hx⟩
theorem Ok.unT {σ : St} {H : Hp} {xs : List α} {i : Nat} {gs : List Sl} (hi : l.s[i]? = some (.val (yLT t) xs)) (k : Ok F O ((l.set i (.val (yT t) xs)).push gs) σ H) : Ok F O (l.push gs) σ H := ⟨a2_back (fun _ h => lt_T h) hi k.sl, k.gh, k.hx⟩
theorem b_flat {ts : TS} {l2 : Lc} (e : l = l2) (h : Bd F O l2 ts D P r) : Bd F O l ts D P r := e ▸ h
theorem ev_LT {xs : List α} (i : Nat) (h1 : Ev F O (l.set i (.val (yL t) xs)) t1 u b O') (h2 : Ev F O (l.set i (.val (yT t) xs)) t2 u b O') (hi : l.s[i]? = some (.val (yLT t) xs) := by rfl) : Ev F O l (fun σ H Q => t1 σ H Q ∨ t2 σ H Q) u b O' := fun σ H k Q q => by
  rcases k.lt hi with k | k
  · exact .inl (h1 σ H k Q fun v H1 s k1 r1 => q v H1 s (Ok.unL (gs := []) hi k1) r1)
  · exact .inr (h2 σ H k Q fun v H1 s k1 r1 => q v H1 s (Ok.unT (gs := []) hi k1) r1)
theorem iv_LT {xs : List α} {ys : List β} {w1 w2 : TI} (i : Nat) (h1 : Iv F O (l.set i (.val (yL t) xs)) w1 u ys O') (h2 : Iv F O (l.set i (.val (yT t) xs)) w2 u ys O') (hi : l.s[i]? = some (.val (yLT t) xs) := by rfl) : Iv F O l (fun σ H Q => w1 σ H Q ∨ w2 σ H Q) u ys O' := fun σ H k R q => by
  rcases k.lt hi with k | k
  · exact .inl (h1 σ H k R fun J H1 gs s k1 r1 => q J H1 gs s (Ok.unL hi k1) r1)
  · exact .inr (h2 σ H k R fun J H1 gs s k1 r1 => q J H1 gs s (Ok.unT hi k1) r1)
theorem ev_ty {u : Ty α} (h : Ev F O l te t a O') (hs : ∀ {H v a}, t.rp H v a → u.rp H v a) : Ev F O l te u a O' := fun σ H k Q q => h σ H k Q fun v H1 s k1 r1 => q v H1 s k1 (hs r1)
theorem sub_L {u : Ty α} (hs : ∀ {H v a}, t.rp H v a → u.rp H v a) : ∀ {H v} {a : List α}, (yL t).rp H v a → (yL u).rp H v a := fun ⟨p, vs, e, h, hl, r⟩ => ⟨p, vs, e, h, hl, r.imp fun _ _ z => hs z⟩
theorem sub_lL : ∀ {H v} {a : List α}, (yL t).rp H v a → (yLT t).rp H v a := .inl
theorem sub_lT : ∀ {H v} {a : List α}, (yT t).rp H v a → (yLT t).rp H v a := .inr

/-! ### unpacking -/
theorem cut3 [Inhabited α] {xs : List α} (h : xs.length = 3) : xs = [ix xs 0, ix xs 1, ix xs 2] := by
  match xs, h with
  | [x, y, z], _ => rfl
theorem cut6 [Inhabited α] {xs : List α} (h : xs.length = 6) : xs = [ix xs 0, ix xs 1, ix xs 2, ix xs 3, ix xs 4, ix xs 5] := by
  match xs, h with
  | [x, y, z, p, q, r], _ => rfl
abbrev up3 [Inhabited α] (t : Ty α) (i j m : Nat) (xs : List α) (l : Lc) : Lc := ((l.set i (.val t (ix xs 0))).set j (.val t (ix xs 1))).set m (.val t (ix xs 2))
abbrev up6 [Inhabited α] (t : Ty α) (i j m i2 j2 m2 : Nat) (xs : List α) (l : Lc) : Lc := (((up3 t i j m xs l).set i2 (.val t (ix xs 3))).set j2 (.val t (ix xs 4))).set m2 (.val t (ix xs 5))
abbrev g3 (i j m : Nat) : TGs := gCons (gName i) (gCons (gName j) (gCons (gName m) gNil))
abbrev g6 (i j m i2 j2 m2 : Nat) : TGs := gCons (gName i) (gCons (gName j) (gCons (gName m) (gCons (gName i2) (gCons (gName j2) (gCons (gName m2) gNil)))))
theorem g3_ok [Inhabited α] {i j m : Nat} {σ : St} {H : Hp} {vs : List V} {xs : List α} (hl : xs.length = 3) (k : Ok F O l σ H) (h : A2 (t.rp (br F O H)) vs xs) {Q : St → Hp → Prop} (q : ∀ σ', Ok F O (up3 t i j m xs l) σ' H → Q σ' H) : g3 i j m vs σ H Q := by
  have e := cut3 hl
  rw [e] at h
  cases h with
  | cons r1 h =>
  cases h with
  | cons r2 h =>
  cases h with
  | cons r3 h =>
  cases h
  exact ⟨_, _, rfl, _, _, rfl, _, _, rfl, rfl, q _ (((k.set i r1).set j r2).set m r3)⟩
theorem g6_ok [Inhabited α] {i j m i2 j2 m2 : Nat} {σ : St} {H : Hp} {vs : List V} {xs : List α} (hl : xs.length = 6) (k : Ok F O l σ H) (h : A2 (t.rp (br F O H)) vs xs) {Q : St → Hp → Prop} (q : ∀ σ', Ok F O (up6 t i j m i2 j2 m2 xs l) σ' H → Q σ' H) : g6 i j m i2 j2 m2 vs σ H Q := by
  have e := cut6 hl
  rw [e] at h
  cases h with
  | cons r1 h =>
  cases h with
  | cons r2 h =>
  cases h with
  | cons r3 h =>
  cases h with
  | cons r4 h =>
  cases h with
  | cons r5 h =>
  cases h with
  | cons r6 h =>
  cases h
  exact ⟨_, _, rfl, _, _, rfl, _, _, rfl, _, _, rfl, _, _, rfl, _, _, rfl, rfl, q _ ((((((k.set i r1).set j r2).set m r3).set i2 r4).set j2 r5).set m2 r6)⟩
theorem b_unT3 [Inhabited α] {ts : TS} {i j m : Nat} {xs : List α} {k : List α → ρ} (he : Ev F O l te (yT t) xs O1) (hl : xs.length = 3) (h : ∀ x, x = xs → Bd F O1 (up3 t i j m x l) ts D P (k x)) : Bd F O l (tSeq (tAsg te (gTup K 3 (g3 i j m))) ts) D P (bnd xs k) := fun hr σ H kk =>
  he σ H kk _ fun v H1 s1 k1 r1 => by
    obtain ⟨p, vs, e, hp, hv, r⟩ := r1
    exact ⟨p, vs, e, SqT.of (bar_some.mp hp).2, by rw [r.length]; exact hl, g3_ok hl k1 r fun σ' k' => h xs rfl hr σ' H1 k'⟩
theorem b_unL3 [Inhabited α] {ts : TS} {i j m : Nat} {xs : List α} {k : List α → ρ} (he : Ev F O l te (yL t) xs O1) (hl : xs.length = 3) (h : ∀ x, x = xs → Bd F O1 (up3 t i j m x l) ts D P (k x)) : Bd F O l (tSeq (tAsg te (gUnl K 3 (g3 i j m))) ts) D P (bnd xs k) := fun hr σ H kk =>
  he σ H kk _ fun v H1 s1 k1 r1 => by
    obtain ⟨p, vs, e, hp, hv, r⟩ := r1
    exact ⟨p, vs, e, SqL.of (bar_some.mp hp).2, by rw [r.length]; exact hl, g3_ok hl k1 r fun σ' k' => h xs rfl hr σ' H1 k'⟩
theorem b_unT6 [Inhabited α] {ts : TS} {i j m i2 j2 m2 : Nat} {xs : List α} {k : List α → ρ} (he : Ev F O l te (yT t) xs O1) (hl : xs.length = 6) (h : ∀ x, x = xs → Bd F O1 (up6 t i j m i2 j2 m2 x l) ts D P (k x)) : Bd F O l (tSeq (tAsg te (gTup K 6 (g6 i j m i2 j2 m2))) ts) D P (bnd xs k) := fun hr σ H kk =>
  he σ H kk _ fun v H1 s1 k1 r1 => by
    obtain ⟨p, vs, e, hp, hv, r⟩ := r1
    exact ⟨p, vs, e, SqT.of (bar_some.mp hp).2, by rw [r.length]; exact hl, g6_ok hl k1 r fun σ' k' => h xs rfl hr σ' H1 k'⟩
/-- x, y, z = v where v is a list or a tuple -/
theorem b_unLT3 [Inhabited α] {ts : TS} {n i j m : Nat} {xs : List α} {k : List α → ρ} (hl : xs.length = 3) (h : ∀ x, x = xs → Bd F O (up3 t i j m x l) ts D P (k x)) (hi : l.s[n]? = some (.val (yLT t) xs) := by rfl) :
    Bd F O l (tSeq (fun D σ H => tAsg (tVar n) (gUnl K 3 (g3 i j m)) D σ H ∨ tAsg (tVar n) (gTup K 3 (g3 i j m)) D σ H) ts) D P (bnd xs k) := fun hr σ H kk => by
  obtain ⟨o, e1, v, e2, rv⟩ := slot_of (σ := []) (i := 0) kk.sl hi
  subst e2
  rcases rv with ⟨p, vs, e, hp, hv, r⟩ | ⟨p, vs, e, hp, hv, r⟩
  · exact .inl ⟨v, e1, p, vs, e, SqL.of (bar_some.mp hp).2, by rw [r.length]; exact hl, g3_ok hl kk r fun σ' k' => h xs rfl hr σ' H k'⟩
  · exact .inr ⟨v, e1, p, vs, e, SqT.of (bar_some.mp hp).2, by rw [r.length]; exact hl, g3_ok hl kk r fun σ' k' => h xs rfl hr σ' H k'⟩

/-! ### is True, int(bool), order of tuples -/
theorem ev_isB {x y : Bool} (ha : Ev F O l ta yB x O1) (hb : Ev F O1 l tb yB y O2) : Ev F O l (tOp (fun x y H Q => ∃ a b, x = V.bl a ∧ y = V.bl b ∧ Q (V.bl (decide (a = b))) H) ta tb) yB (decide (x = y)) O2 :=
  ev_op ha hb fun H v w _ e1 e2 Q q => ⟨x, y, e1, e2, q _ H (same_refl _) rfl⟩
theorem ev_intB {x : Bool} (ha : Ev F O l ta yB x O1) : Ev F O l (tCB rInt (tCons ta tNil)) yI (if x = true then 1 else 0) O1 := ev_cb1 ha fun H v hx e1 Q q => .inr ⟨x, by rw [show v = _ from e1], q _ H (same_refl _) rfl⟩
theorem ev_ltT2 {xs ys : List Int} (ha : Ev F O l ta (yT yI) xs O1) (hb : Ev F O1 l tb (yT yI) ys O2) : Ev F O l (tOp (rLtT K) ta tb) yB (HT.lexLt xs ys) O2 :=
  ev_op ha hb fun H x y hx e1 e2 Q q => by
    obtain ⟨p, vs, e, hp, hl, r⟩ := e1
    obtain ⟨p', vs', e', hp', hl', r'⟩ := e2
    have z1 := a2_ints r
    have z2 := a2_ints r'
    subst z1 z2
    exact ⟨p, p', xs, ys, e, e', SqT.of (bar_some.mp hp).2, SqT.of (bar_some.mp hp').2, q _ H (same_refl _) rfl⟩
theorem ev_notInL [DecidableEq α] [d : Dat t K] {xs : List α} (ha : Ev F O l ta t a O1) (hb : Ev F O1 l tb (yL t) xs O2) (hd : d.dep + 1 ≤ 64 := by exact Nat.le_of_ble_eq_true rfl) : Ev F O l (tOp (rNotInD K) ta tb) yB (!decide (a ∈ xs)) O2 :=
  ev_op ha hb fun H x y hx e1 e2 Q q => by
    obtain ⟨p, vs, e, h, hl, r⟩ := e2
    subst e
    refine ⟨d.toD a, xs.map d.toD, d.dp bar_sub e1, .lst (SqL.of (bar_some.mp h).2) (dpAll d bar_sub r), shaped_of (d.sh e1) (by omega), shaped_of (n := d.dep + 1) ⟨(shAll d r).1, Nat.succ_le_succ (shAll d r).2⟩ hd, ?_⟩
    rw [any_mem]
    exact q _ H (same_refl _) rfl
theorem pg_unlK {X : Cx} {K : PySem.W.Frag} {es : List Expr} {k : Nat} {pos : Pos} {t : TGs} {n : Nat} (hK : X.K = K) (hc : X.calm = true) (h : PGs X es t) (hn : (assignEach es X.env).length = n := by rfl) (hs : (assignEach es X.env).findIdx? (·.1) = none := by rfl) :
    PG X (.Tuple es k pos) (gUnl K n t) := by
  subst hK
  exact pg_unl hc h hn hs
theorem units65 {k : Nat} {A : Around} (hr : Room k A) : A.units + 65 < cLine := by
  have := hr.un
  omega
theorem units0 {k : Nat} {A : Around} (hr : Room k A) : A.units < cLine := by
  have := hr.un
  omega
theorem op_notInK {X : Cx} {K : PySem.W.Frag} (hK : X.K = K) (hu : X.A.units + 65 < cLine) : OpR X (compareOp .NotIn) (rNotInD K) := by
  subst hK
  exact op_notInD hu
theorem op_inK {X : Cx} {K : PySem.W.Frag} (hK : X.K = K) (hu : X.A.units + 65 < cLine) : OpR X (compareOp .In) (rInD K) := by
  subst hK
  exact op_inD hu
theorem op_ltTK {X : Cx} {K : PySem.W.Frag} (hK : X.K = K) (hu : X.A.units < cLine) : OpR X (compareOp .Lt) (rLtT K) := by
  subst hK
  exact op_ltT hu
theorem tt_nI {p : Prop} {inst : Decidable p} (h : Ev F O l te yB (!(@decide p inst)) O') : Tt F O l (tTest te) (¬ p) O' := tt_n h
theorem tt_dI {p : Prop} {inst : Decidable p} (h : Ev F O l te yB (@decide p inst) O') : Tt F O l (tTest te) p O' := tt_d h
theorem nx_forget {nx : St → Hp → Prop} {p : Addr} {ce : Cell} (k : Nat) (n : Nx F (O.eraseIdx k) l nx) (hk : O[k]? = some (p, ce) := by rfl) : Nx F O l nx := fun σ H kk => n σ H (kk.frz hk).1

/-! ### super().m(..) where the object is owned -/
theorem super_at {C : Addr} {ns : List Str} {sl : List Sl} {A2' S2 : Type} {args2 : Addr → A2' → List Sl} {c2 : A2' → Cell} {cc2 : S2 → Cell} {pre2 : A2' → Prop} {m2 : A2' → Unit × S2} {tA : TA} {ts : TS} {f2 p : Addr} {σ : St} {H : Hp} {sls : List Sl} (a2 : A2')
    (k0 : Ok F O l σ H) (h0 : l.s[0]? = some (.val (yV (.ref p)) ())) (hk : O[0]? = some (p, cO C ns sl)) (hE : EvA F O l tA sls O) (e1 : Sl.val (yV (.ref p)) () :: sls = args2 p a2) (e2 : cO C ns sl = c2 a2) (hp2 : pre2 a2)
    (hB : Bd F (O.set 0 (p, cc2 (m2 a2).2)) l ts D P r) (hr : P r) :
    ∃ (x dx : Addr) (fs : List (Str × V)), σ[0]? = some (some (.ref x)) ∧ H x = some (.ins C dx fs) ∧ ∀ q, H q = none → tA σ (upd H q (.met f2 x)) fun ws H2 => H2 q = some (.met f2 x) ∧ spP args2 c2 cc2 pre2 yN m2 (.ref x :: ws) H2 (fun _ H3 => ts D σ H3) E0 := by
  obtain ⟨o, ho, hok⟩ := own_at k0.hx hk
  obtain ⟨dx, vs', eo, hkk⟩ := id hok
  subst eo
  obtain ⟨o, e1', v, e2', rv⟩ := slot_of (σ := []) (i := 0) k0.sl h0
  have rv' : v = .ref p := rv
  subst e2' rv'
  refine ⟨p, dx, vs', e1', ho, fun q hq => ?_⟩
  refine hE _ _ (k0.grow (Same.new hq)) _ fun ws H1 mv k2 r2 => ⟨?_, ?_⟩
  · refine mv.frm q _ upd_same fun z => ?_
    obtain ⟨q', hq', e'⟩ := List.mem_map.mp z
    obtain ⟨o', ho', _⟩ := k0.hx.own q' hq'
    rw [e', hq] at ho'
    cases ho'
  · obtain ⟨o2, ho2, hok2⟩ := own_at k2.hx hk
    have eb : ∀ H : Hp, bar H (p :: ((O.eraseIdx 0).map (·.1) ++ F.M)) = br F O H := fun H => bar_congr (mem_erase hk)
    refine ⟨(O.eraseIdx 0).map (·.1) ++ F.M, p, a2, o2, k2.hx.ndX hk, fun b hb => ?_, ho2, ?_, ?_, hp2, fun v H' o' fr ho' hok' hv => ?_⟩
    · exact k2.hx.adom b ((mem_erase hk b).mp (List.mem_cons_of_mem _ hb))
    · rw [← e2, eb]
      exact hok2
    · rw [← e1, eb]
      exact .cons (show SlOk _ (some (.ref p)) (.val (yV (.ref p)) ()) from ⟨_, rfl, rfl⟩) r2
    · rw [eb] at hok'
      obtain ⟨k3, _⟩ := k2.chg (k := 0) (p := p) (ce := cO C ns sl) (ce' := cc2 (m2 a2).2) hk fr ho' hok'
      exact hB hr _ H' k3
end
end TL
/-! None or a thing; pairs as tuples; unpacking of four and five -/
namespace TL
open PySem L2
section
variable {F : Fx} {O O1 O2 O3 O' : Own} {l l' : Lc} {α β γ ρ S : Type} {K : PySem.W.Frag}
  {ta tb tc te t1 t2 : TE} {t : Ty α} {u : Ty β} {w : Ty γ} {a : α} {b : β} {c : γ} {D : Ends} {P : ρ → Prop} {r : ρ}
class NotNon (u : Ty β) : Prop where
  nn : ∀ {H v b}, u.rp H v b → v ≠ .non
instance : NotNon (yT t) := ⟨fun ⟨p, vs, e, _⟩ z => by rw [e] at z; cases z⟩
instance : NotNon (yP t u) := ⟨fun ⟨p, vs, _, e, _⟩ z => by rw [e] at z; cases z⟩
theorem ev_isN {x : Unit ⊕ β} [n : NotNon u] (ha : Ev F O l ta (ySum yN u) x O1) (hb : Ev F O1 l tb yN () O2) : Ev F O l (tOp (fun x y H Q => y = .non ∧ Q (.bl (decide (x = .non))) H) ta tb) yB x.isLeft O2 :=
  ev_op ha hb fun H v w _ e1 e2 Q q => ⟨e2, q _ H (same_refl _) (by
    cases x with
    | inl a => 
      have e1 : v = .non := e1
      rw [e1]
      rfl
    | inr b =>
      have := n.nn (show u.rp _ v b from e1)
      show V.bl (decide (v = .non)) = V.bl false
      rw [decide_eq_false this])⟩
theorem ev_isiS {ct : Value} [hT : HasTy u K ct] {x : Unit ⊕ β} {n : String} (ha : Ev F O l ta (ySum yN u) x O1) (h0 : PySem.W.kitOne K (.type "NoneType") (.type n) = some false) (h : PySem.W.kitOne K ct (.type n) = some true) : Ev F O l (tCB (rIsi K) (tCons ta (tCons (tC (.ty n)) tNil))) yB (!x.isLeft) O1 := by
  cases x with
  | inl a => exact ev_isi (t := yN) (a := a) (ct := .type "NoneType") (bb := false) ha h0
  | inr b => exact ev_isi (t := u) (a := b) (ct := ct) (bb := true) ha h
theorem ev_isiSF {ct : Value} [hT : HasTy u K ct] {x : Unit ⊕ β} {n : String} (ha : Ev F O l ta (ySum yN u) x O1) (h0 : PySem.W.kitOne K (.type "NoneType") (.type n) = some false) (h : PySem.W.kitOne K ct (.type n) = some false) : Ev F O l (tCB (rIsi K) (tCons ta (tCons (tC (.ty n)) tNil))) yB false O1 := by
  cases x with
  | inl a => exact ev_isi (t := yN) (a := a) (ct := .type "NoneType") (bb := false) ha h0
  | inr b => exact ev_isi (t := u) (a := b) (ct := ct) (bb := false) ha h
theorem ev_pT {x : α × α} (h : Ev F O l te (yP t t) x O') : Ev F O l te (yT t) [x.1, x.2] O' := fun σ H k Q q => h σ H k Q fun v H1 s k1 r1 => q v H1 s k1 (by
  obtain ⟨p, y, z, e, hp, r, r'⟩ := r1
  exact ⟨p, [y, z], e, hp, (by show 2 ≤ sizeLine; decide), .cons r (.cons r' .nil)⟩)
theorem cut4 [Inhabited α] {xs : List α} (h : xs.length = 4) : xs = [ix xs 0, ix xs 1, ix xs 2, ix xs 3] := by
  match xs, h with
  | [x, y, z, p], _ => rfl
theorem cut5 [Inhabited α] {xs : List α} (h : xs.length = 5) : xs = [ix xs 0, ix xs 1, ix xs 2, ix xs 3, ix xs 4] := by
  match xs, h with
  | [x, y, z, p, q], _ => rfl
abbrev up4 [Inhabited α] (t : Ty α) (i j m i2 : Nat) (xs : List α) (l : Lc) : Lc := (up3 t i j m xs l).set i2 (.val t (ix xs 3))
abbrev up5 [Inhabited α] (t : Ty α) (i j m i2 j2 : Nat) (xs : List α) (l : Lc) : Lc := ((up3 t i j m xs l).set i2 (.val t (ix xs 3))).set j2 (.val t (ix xs 4))
abbrev g4 (i j m i2 : Nat) : TGs := gCons (gName i) (gCons (gName j) (gCons (gName m) (gCons (gName i2) gNil)))
abbrev g5 (i j m i2 j2 : Nat) : TGs := gCons (gName i) (gCons (gName j) (gCons (gName m) (gCons (gName i2) (gCons (gName j2) gNil))))
theorem g4_ok [Inhabited α] {i j m i2 : Nat} {σ : St} {H : Hp} {vs : List V} {xs : List α} (hl : xs.length = 4) (k : Ok F O l σ H) (h : A2 (t.rp (br F O H)) vs xs) {Q : St → Hp → Prop} (q : ∀ σ', Ok F O (up4 t i j m i2 xs l) σ' H → Q σ' H) : g4 i j m i2 vs σ H Q := by
  have e := cut4 hl
  rw [e] at h
  cases h with
  | cons r1 h =>
  cases h with
  | cons r2 h =>
  cases h with
  | cons r3 h =>
  cases h with
  | cons r4 h =>
  cases h
  exact ⟨_, _, rfl, _, _, rfl, _, _, rfl, _, _, rfl, rfl, q _ ((((k.set i r1).set j r2).set m r3).set i2 r4)⟩
theorem g5_ok [Inhabited α] {i j m i2 j2 : Nat} {σ : St} {H : Hp} {vs : List V} {xs : List α} (hl : xs.length = 5) (k : Ok F O l σ H) (h : A2 (t.rp (br F O H)) vs xs) {Q : St → Hp → Prop} (q : ∀ σ', Ok F O (up5 t i j m i2 j2 xs l) σ' H → Q σ' H) : g5 i j m i2 j2 vs σ H Q := by
  have e := cut5 hl
  rw [e] at h
  cases h with
  | cons r1 h =>
  cases h with
  | cons r2 h =>
  cases h with
  | cons r3 h =>
  cases h with
  | cons r4 h =>
  cases h with
  | cons r5 h =>
  cases h
  exact ⟨_, _, rfl, _, _, rfl, _, _, rfl, _, _, rfl, _, _, rfl, rfl, q _ (((((k.set i r1).set j r2).set m r3).set i2 r4).set j2 r5)⟩
theorem b_unL4 [Inhabited α] {ts : TS} {i j m i2 : Nat} {xs : List α} {k : List α → ρ} (he : Ev F O l te (yL t) xs O1) (hl : xs.length = 4) (h : ∀ x, x = xs → Bd F O1 (up4 t i j m i2 x l) ts D P (k x)) : Bd F O l (tSeq (tAsg te (gUnl K 4 (g4 i j m i2))) ts) D P (bnd xs k) := fun hr σ H kk =>
  he σ H kk _ fun v H1 s1 k1 r1 => by
    obtain ⟨p, vs, e, hp, hv, r⟩ := r1
    exact ⟨p, vs, e, SqL.of (bar_some.mp hp).2, by rw [r.length]; exact hl, g4_ok hl k1 r fun σ' k' => h xs rfl hr σ' H1 k'⟩
theorem b_unL5 [Inhabited α] {ts : TS} {i j m i2 j2 : Nat} {xs : List α} {k : List α → ρ} (he : Ev F O l te (yL t) xs O1) (hl : xs.length = 5) (h : ∀ x, x = xs → Bd F O1 (up5 t i j m i2 j2 x l) ts D P (k x)) : Bd F O l (tSeq (tAsg te (gUnl K 5 (g5 i j m i2 j2))) ts) D P (bnd xs k) := fun hr σ H kk =>
  he σ H kk _ fun v H1 s1 k1 r1 => by
    obtain ⟨p, vs, e, hp, hv, r⟩ := r1
    exact ⟨p, vs, e, SqL.of (bar_some.mp hp).2, by rw [r.length]; exact hl, g5_ok hl k1 r fun σ' k' => h xs rfl hr σ' H1 k'⟩
end
end TL
/-! Forms of second degree over a field, in plain Lean. -/
namespace TL
open Lean.Grind
structure Q6 (R : Type) where
  xx : R
  yy : R
  zz : R
  yz : R
  zx : R
  xy : R
section
variable {R : Type} [Field R] [DecidableEq R]
def qv (f : Q6 R) (a : V3 R) : R := f.xx * a.1 * a.1 + f.yy * a.2.1 * a.2.1 + f.zz * a.2.2 * a.2.2 + f.yz * a.2.1 * a.2.2 + f.zx * a.2.2 * a.1 + f.xy * a.1 * a.2.1
def rw1 (f : Q6 R) : V3 R := (f.xx + f.xx, f.xy, f.zx)
def rw2 (f : Q6 R) : V3 R := (f.xy, f.yy + f.yy, f.yz)
def rw3 (f : Q6 R) : V3 R := (f.zx, f.yz, f.zz + f.zz)
def pol (f : Q6 R) (a : V3 R) : V3 R := (dt (rw1 f) a, dt (rw2 f) a, dt (rw3 f) a)
def hsq (b c f : R) : R := ((b * c + b * c) + (b * c + b * c)) - f * f
def hpr (a f g h : R) : R := (g * h - (a * f + a * f)) + (g * h - (a * f + a * f))
def hul (q : Q6 R) : Q6 R := ⟨hsq q.yy q.zz q.yz, hsq q.zz q.xx q.zx, hsq q.xx q.yy q.xy, hpr q.xx q.yz q.zx q.xy, hpr q.yy q.zx q.xy q.yz, hpr q.zz q.xy q.yz q.zx⟩
def adj (f : Q6 R) (l : V3 R) : V3 R := (dt (crs (rw2 f) (rw3 f)) l, dt (crs (rw3 f) (rw1 f)) l, dt (crs (rw1 f) (rw2 f)) l)
def dbl (a : V3 R) : V3 R := (a.1 + a.1, a.2.1 + a.2.1, a.2.2 + a.2.2)
def det (f : Q6 R) : R := dt (rw1 f) (crs (rw2 f) (rw3 f))
theorem t_hul (f : Q6 R) (l : V3 R) : pol (hul f) l = dbl (adj f l) := by
  refine v3_ext.mpr ⟨?_, ?_, ?_⟩ <;> (simp only [pol, hul, dbl, adj, rw1, rw2, rw3, hsq, hpr, dt, crs]; grind)
theorem t_sym (f : Q6 R) (v w : V3 R) : dt v (pol f w) = dt (pol f v) w := by
  simp only [pol, rw1, rw2, rw3, dt]; grind
theorem t_pol_adj (f : Q6 R) (l : V3 R) : pol f (adj f l) = scl (det f) l := by
  refine v3_ext.mpr ⟨?_, ?_, ?_⟩ <;> (simp only [pol, det, adj, rw1, rw2, rw3, scl, dt, crs]; grind)
theorem t_adj_pol (f : Q6 R) (l : V3 R) : adj f (pol f l) = scl (det f) l := by
  refine v3_ext.mpr ⟨?_, ?_, ?_⟩ <;> (simp only [pol, det, adj, rw1, rw2, rw3, scl, dt, crs]; grind)
theorem t_crs1 (f : Q6 R) (v l : V3 R) : crs v (adj f l) = pol f (crs (pol f v) l) := by
  refine v3_ext.mpr ⟨?_, ?_, ?_⟩ <;> (simp only [pol, det, adj, rw1, rw2, rw3, scl, dt, crs]; grind)
theorem pol_zero (f : Q6 R) : pol f (0, 0, 0) = (0, 0, 0) := by
  refine v3_ext.mpr ⟨?_, ?_, ?_⟩ <;> (simp only [pol, dt]; grind)
theorem adj_zero (f : Q6 R) : adj f (0, 0, 0) = (0, 0, 0) := by
  refine v3_ext.mpr ⟨?_, ?_, ?_⟩ <;> (simp only [adj, dt]; grind)
theorem t_pole {f : Q6 R} (h : det f ≠ 0) (v l : V3 R) : crs (pol f v) l = (0, 0, 0) ↔ crs v (adj f l) = (0, 0, 0) := by
  rw [t_crs1]
  constructor
  · intro e
    rw [e, pol_zero]
  · intro e
    have e2 := t_adj_pol f (crs (pol f v) l)
    rw [e, adj_zero] at e2
    exact (scl_zero h).mp e2.symm
theorem adj_ne {f : Q6 R} (h : det f ≠ 0) {l : V3 R} (hl : l ≠ (0, 0, 0)) : adj f l ≠ (0, 0, 0) := fun e => by
  have e2 := t_pol_adj f l
  rw [e, pol_zero] at e2
  exact hl ((scl_zero h).mp e2.symm)
theorem pol_ne {f : Q6 R} (h : det f ≠ 0) {l : V3 R} (hl : l ≠ (0, 0, 0)) : pol f l ≠ (0, 0, 0) := fun e => by
  have e2 := t_adj_pol f l
  rw [e, adj_zero] at e2
  exact hl ((scl_zero h).mp e2.symm)
theorem dbl_scl (a : V3 R) : dbl a = scl (1 + 1) a := by
  refine v3_ext.mpr ⟨?_, ?_, ?_⟩ <;> (simp only [dbl, scl]; grind)
theorem dbl_ne {a : V3 R} (h2 : (1 + 1 : R) ≠ 0) (h : a ≠ (0, 0, 0)) : dbl a ≠ (0, 0, 0) := fun e => by
  rw [dbl_scl] at e
  exact h ((scl_zero h2).mp e)
theorem scl_one (a : V3 R) : scl 1 a = a := by
  refine v3_ext.mpr ⟨?_, ?_, ?_⟩ <;> (simp only [scl]; grind)
/-! ### a form made of a table -/
def qs (x : V3 R) : R := x.1 * x.2.1 + x.2.2 * x.2.2
def tv (r s t v : V3 R) : V3 R := (dt r v, dt s v, dt t v)
def fit (a b c d e g : R) : Q6 R := ⟨a, b, c, d + -(b + c), e + -(c + a), g + -(a + b)⟩
def sm (r s t : V3 R) : Q6 R := fit (qs (tv r s t (1, 0, 0))) (qs (tv r s t (0, 1, 0))) (qs (tv r s t (0, 0, 1))) (qs (tv r s t (0, 1, 1))) (qs (tv r s t (1, 0, 1))) (qs (tv r s t (1, 1, 0)))
theorem t_det (r s t : V3 R) : det (sm r s t) = -((1 + 1) * (dt t (crs r s) * dt t (crs r s))) := by
  obtain ⟨r1, r2, r3⟩ := r
  obtain ⟨s1, s2, s3⟩ := s
  obtain ⟨t1, t2, t3⟩ := t
  simp only [det, sm, fit, qs, tv, rw1, rw2, rw3, dt, crs]
  grind
theorem det_ne {r s t : V3 R} (h2 : (1 + 1 : R) ≠ 0) (h : dt t (crs r s) ≠ 0) : det (sm r s t) ≠ 0 := by
  rw [t_det]
  intro e
  have h3 : (1 + 1 : R) * (dt t (crs r s) * dt t (crs r s)) ≠ 0 := mul_ne h2 (mul_ne h h)
  grind
/-- a form that is 0 at the six probes is 0 -/
theorem six_zero {f : Q6 R} (h1 : qv f (1, 0, 0) = 0) (h2 : qv f (0, 1, 0) = 0) (h3 : qv f (0, 0, 1) = 0) (h4 : qv f (0, 1, 1) = 0) (h5 : qv f (1, 0, 1) = 0) (h6 : qv f (1, 1, 0) = 0) : det f = 0 := by
  simp only [qv] at *
  have e1 : f.xx = 0 := by grind
  have e2 : f.yy = 0 := by grind
  have e3 : f.zz = 0 := by grind
  have e4 : f.yz = 0 := by grind
  have e5 : f.zx = 0 := by grind
  have e6 : f.xy = 0 := by grind
  simp only [det, rw1, rw2, rw3, dt, crs, e1, e2, e3, e4, e5, e6]
  grind
/-! ### harmonic points -/
def lin (a : R) (r : V3 R) (b : R) (s : V3 R) : V3 R := (a * r.1 + b * s.1, a * r.2.1 + b * s.2.1, a * r.2.2 + b * s.2.2)
theorem t_span {r s v o : V3 R} (hd : dt r (crs s v) = 0) (ho : dt o (crs r s) ≠ 0) : ∃ a b, v = lin a r b s := by
  refine ⟨dt v (crs s o) * (dt o (crs r s))⁻¹, dt r (crs v o) * (dt o (crs r s))⁻¹, ?_⟩
  obtain ⟨r1, r2, r3⟩ := r
  obtain ⟨s1, s2, s3⟩ := s
  obtain ⟨v1, v2, v3⟩ := v
  obtain ⟨o1, o2, o3⟩ := o
  refine v3_ext.mpr ⟨?_, ?_, ?_⟩ <;> (simp only [lin, dt, crs] at *; grind)
theorem qv_lin (f : Q6 R) (a b : R) (r s : V3 R) : qv f (lin a r b s) = a * a * qv f r + a * b * dt (pol f r) s + b * b * qv f s := by
  simp only [qv, lin, pol, rw1, rw2, rw3, dt]; grind
theorem pol_lin (f : Q6 R) (a b : R) (r s : V3 R) : pol f (lin a r b s) = lin a (pol f r) b (pol f s) := by
  refine v3_ext.mpr ⟨?_, ?_, ?_⟩ <;> (simp only [lin, pol, rw1, rw2, rw3, dt]; grind)
theorem dt_pol_self (f : Q6 R) (r : V3 R) : dt (pol f r) r = (1 + 1) * qv f r := by
  simp only [qv, pol, rw1, rw2, rw3, dt]; grind
theorem dt_lin (a b : R) (r s x : V3 R) : dt x (lin a r b s) = a * dt x r + b * dt x s := by
  simp only [lin, dt]; grind
theorem dt_comm (a b : V3 R) : dt a b = dt b a := by simp only [dt]; grind
/-- (r x s) x p = s (r p) - r (s p) -/
theorem triple (r s p : V3 R) : crs (crs r s) p = lin (-(dt s p)) r (dt r p) s := by
  refine v3_ext.mpr ⟨?_, ?_, ?_⟩ <;> (simp only [lin, crs, dt]; grind)
theorem br_lin1 (a b : R) (r s o : V3 R) : dt r (crs (lin a r b s) o) = b * dt o (crs r s) := by
  simp only [lin, crs, dt]; grind
theorem br_lin2 (a b : R) (r s o : V3 R) : dt s (crs (lin a r b s) o) = -(a * dt o (crs r s)) := by
  simp only [lin, crs, dt]; grind
theorem scl_lin (c a b : R) (r s : V3 R) : scl c (lin a r b s) = lin (c * a) r (c * b) s := by
  refine v3_ext.mpr ⟨?_, ?_, ?_⟩ <;> (simp only [lin, scl]; grind)
theorem crs_scl1 (c : R) (a b : V3 R) : crs (scl c a) b = scl c (crs a b) := by
  refine v3_ext.mpr ⟨?_, ?_, ?_⟩ <;> (simp only [crs, scl]; grind)
theorem scl_scl (c d : R) (a : V3 R) : scl c (scl d a) = scl (c * d) a := by
  refine v3_ext.mpr ⟨?_, ?_, ?_⟩ <;> (simp only [scl]; grind)
theorem dt_scl2 (c : R) (a b : V3 R) : dt a (scl c b) = c * dt a b := by simp only [dt, scl]; grind
theorem lin_crs (a b : R) (r s : V3 R) : crs r (lin a r b s) = scl b (crs r s) := by
  refine v3_ext.mpr ⟨?_, ?_, ?_⟩ <;> (simp only [crs, scl, lin]; grind)
theorem lin_crs2 (a b : R) (r s : V3 R) : crs s (lin a r b s) = scl (-a) (crs r s) := by
  refine v3_ext.mpr ⟨?_, ?_, ?_⟩ <;> (simp only [crs, scl, lin]; grind)
structure Harm (f : Q6 R) (r s v : V3 R) (a b m : R) : Prop where
  ev : v = lin a r b s
  a0 : a ≠ 0
  b0 : b ≠ 0
  m0 : m ≠ 0
  rv : dt r (pol f v) = b * m
  sv : dt s (pol f v) = a * m
  val : qv f v = a * b * m
theorem harm {f : Q6 R} {r s v o : V3 R} (hr : qv f r = 0) (hs : qv f s = 0) (hv : qv f v ≠ 0) (hd : dt r (crs s v) = 0) (ho : dt o (crs r s) ≠ 0) : ∃ a b m, Harm f r s v a b m := by
  obtain ⟨a, b, e⟩ := t_span hd ho
  have e1 : qv f v = a * b * dt (pol f r) s := by
    rw [e, qv_lin, hr, hs]
    grind
  have hr2 : dt (pol f r) r = 0 := by rw [dt_pol_self, hr]; grind
  have hs2 : dt (pol f s) s = 0 := by rw [dt_pol_self, hs]; grind
  refine ⟨a, b, dt (pol f r) s, e, ?_, ?_, ?_, ?_, ?_, e1⟩
  · intro z; rw [e1, z] at hv; exact hv (by grind)
  · intro z; rw [e1, z] at hv; exact hv (by grind)
  · intro z; rw [e1, z] at hv; exact hv (by grind)
  · rw [t_sym, e, dt_lin, hr2]; grind
  · rw [t_sym, e, dt_lin, hs2, ← t_sym f s r, dt_comm s]; grind
theorem harm_cross {f : Q6 R} {r s v : V3 R} {a b m : R} (h : Harm f r s v a b m) (c : R) : crs (scl c (crs r s)) (pol f v) = scl (c * m) (lin (-a) r b s) := by
  rw [crs_scl1, triple, h.rv, h.sv]
  refine v3_ext.mpr ⟨?_, ?_, ?_⟩ <;> (simp only [lin, scl]; grind)
theorem harm_lin_ne {r s : V3 R} {a b : R} (hb : b ≠ 0) (hc : crs r s ≠ (0, 0, 0)) : lin a r b s ≠ (0, 0, 0) := fun z => by
  have e := lin_crs a b r s
  rw [z] at e
  have e2 : crs r (0, 0, 0) = (0, 0, 0) := by
    refine v3_ext.mpr ⟨?_, ?_, ?_⟩ <;> (simp only [crs]; grind)
  rw [e2] at e
  exact hc ((scl_zero hb).mp e.symm)
theorem harm_pairs {f : Q6 R} {r s v o w : V3 R} {a b m K : R} (h : Harm f r s v a b m) (hK : K ≠ 0) (hD : dt o (crs r s) ≠ 0) (hw : w = scl K (lin (-a) r b s)) :
    dt r (crs v o) * dt s (crs w o) = -(dt r (crs w o) * dt s (crs v o)) ∧ dt r (crs w o) * dt s (crs v o) ≠ 0 ∧ dt r (crs w o) * dt v (crs s o) ≠ 0 := by
  rw [scl_lin] at hw
  have e1 : dt r (crs v o) = b * dt o (crs r s) := by rw [h.ev, br_lin1]
  have e2 : dt s (crs v o) = -(a * dt o (crs r s)) := by rw [h.ev, br_lin2]
  have e3 : dt r (crs w o) = K * b * dt o (crs r s) := by rw [hw, br_lin1]
  have e4 : dt s (crs w o) = K * a * dt o (crs r s) := by rw [hw, br_lin2]; grind
  have e5 : dt v (crs s o) = a * dt o (crs r s) := by rw [← Lean.Grind.AddCommGroup.neg_neg (a * dt o (crs r s)), ← e2]; simp only [dt, crs]; grind
  have n1 := mul_ne (mul_ne (mul_ne hK h.b0) hD) (mul_ne h.a0 hD)
  rw [e1, e2, e3, e4, e5]
  refine ⟨by grind, by grind, n1⟩
theorem harm_second {f : Q6 R} {r s v : V3 R} {a b m : R} (h : Harm f r s v a b m) : lin (qv f v) r (-(dt (pol f r) v)) v = scl (-(b * b * m)) s := by
  rw [← t_sym, h.rv, h.val]
  refine v3_ext.mpr ⟨?_, ?_, ?_⟩ <;> (rw [h.ev]; simp only [lin, scl]; grind)
theorem nrm_scl {k : R} {s : V3 R} (hk : k ≠ 0) (hs : s ≠ (0, 0, 0)) : nrm (scl k s) = nrm s := by
  refine (nrm_eq (fun z => hs ((scl_zero hk).mp z)) hs).mpr ?_
  rw [crs_scl1, crs_self]
  exact (scl_zero hk).mpr rfl
theorem lead_scl {k : R} {s : V3 R} (hk : k ≠ 0) : lead (scl k s) = k * lead s := by
  obtain ⟨s1, s2, s3⟩ := s
  simp only [lead, scl]
  grind
theorem nrm_one {s : V3 R} (h : lead s = 1) : nrm s = s := by
  unfold nrm
  rw [h]
  have : (1 : R)⁻¹ = 1 := by grind
  rw [this, scl_one]
theorem lead_nrm {s : V3 R} (h : s ≠ (0, 0, 0)) : lead (nrm s) = 1 := by
  have h1 := lead_ne h
  unfold nrm
  rw [lead_scl (by grind)]
  grind
theorem nrm_ne {s : V3 R} (h : s ≠ (0, 0, 0)) : nrm s ≠ (0, 0, 0) := fun z => by
  have h1 := lead_ne h
  unfold nrm at z
  exact h ((scl_zero (by grind)).mp z)
theorem ex_dot {n : V3 R} (h : n ≠ (0, 0, 0)) : ∃ u : V3 R, dt u n ≠ 0 := by
  obtain ⟨x, y, z⟩ := n
  by_cases hx : x = 0
  · by_cases hy : y = 0
    · by_cases hz : z = 0
      · exact absurd (by rw [hx, hy, hz]) h
      · exact ⟨(0, 0, 1), by simp only [dt]; grind⟩
    · exact ⟨(0, 1, 0), by simp only [dt]; grind⟩
  · exact ⟨(1, 0, 0), by simp only [dt]; grind⟩
structure Core (f : Q6 R) (r s v o : V3 R) : Prop where
  ne : crs (nrm (crs r s)) (pol f v) ≠ (0, 0, 0)
  neg : dt r (crs v o) * dt s (crs (nrm (crs (nrm (crs r s)) (pol f v))) o) = -(dt r (crs (nrm (crs (nrm (crs r s)) (pol f v))) o) * dt s (crs v o))
  last : dt r (crs (nrm (crs (nrm (crs r s)) (pol f v))) o) * dt s (crs v o) ≠ 0
  last2 : dt r (crs (nrm (crs (nrm (crs r s)) (pol f v))) o) * dt v (crs s o) ≠ 0
  sec : ∃ k, k ≠ 0 ∧ lin (qv f v) r (-(dt (pol f r) v)) v = scl k s
theorem core {f : Q6 R} {r s v o : V3 R} (hr : qv f r = 0) (hs : qv f s = 0) (hv : qv f v ≠ 0) (hd : dt r (crs s v) = 0) (hc : crs r s ≠ (0, 0, 0)) (ho : dt o (crs r s) ≠ 0) : Core f r s v o := by
  obtain ⟨a, b, m, h⟩ := harm hr hs hv hd ho
  have h1 : (lead (crs r s))⁻¹ ≠ 0 := by have := lead_ne hc; grind
  have e1 : crs (nrm (crs r s)) (pol f v) = scl ((lead (crs r s))⁻¹ * m) (lin (-a) r b s) := by
    have := harm_cross h (lead (crs r s))⁻¹
    unfold nrm
    exact this
  have h2 : (lead (crs r s))⁻¹ * m ≠ 0 := mul_ne h1 h.m0
  have h3 : lin (-a) r b s ≠ (0, 0, 0) := harm_lin_ne h.b0 hc
  have n1 : crs (nrm (crs r s)) (pol f v) ≠ (0, 0, 0) := by
    rw [e1]
    exact fun z => h3 ((scl_zero h2).mp z)
  have h4 : (lead (crs (nrm (crs r s)) (pol f v)))⁻¹ ≠ 0 := by have := lead_ne n1; grind
  have e2 : nrm (crs (nrm (crs r s)) (pol f v)) = scl ((lead (crs (nrm (crs r s)) (pol f v)))⁻¹ * ((lead (crs r s))⁻¹ * m)) (lin (-a) r b s) := by
    rw [← scl_scl, ← e1]
    rfl
  obtain ⟨p1, p2, p3⟩ := harm_pairs h (mul_ne h4 h2) ho e2
  exact ⟨n1, p1, p2, p3, -(b * b * m), by have := mul_ne (mul_ne h.b0 h.b0) h.m0; grind, harm_second h⟩
end
end TL
/-! Fractions in lowest terms are Lean's rationals. -/
namespace TL
/-- what is told for a rational -/
def fr (x : Rat) : Int × Int := (x.num, (x.den : Int))
theorem fr_inj {x y : Rat} : fr x = fr y ↔ x = y := by
  constructor
  · intro h
    have h1 : x.num = y.num := congrArg Prod.fst h
    have h2 : (x.den : Int) = y.den := congrArg Prod.snd h
    exact Rat.ext h1 (by omega)
  · exact fun h => congrArg fr h
theorem fr_frac (n d : Int) (h : d ≠ 0) : (n.fdiv (if d < 0 then -(Int.gcd n d : Int) else (Int.gcd n d : Int)), d.fdiv (if d < 0 then -(Int.gcd n d : Int) else (Int.gcd n d : Int))) = fr (Rat.divInt n d) := by
  have hg : 0 < Int.gcd n d := Nat.pos_of_ne_zero fun z => h (Int.gcd_eq_zero_iff.mp z).2
  have h1 := Int.gcd_dvd_left n d
  have h2 := Int.gcd_dvd_right n d
  unfold fr
  rw [Rat.num_divInt, Rat.den_divInt, if_neg h]
  have e : ∀ m : Int, (Int.gcd n d : Int) ∣ m → m.fdiv (if d < 0 then -(Int.gcd n d : Int) else (Int.gcd n d : Int)) = d.sign * (m / (Int.gcd n d : Int)) := fun m hm => by
    obtain ⟨k, rfl⟩ := hm
    rw [Int.mul_ediv_cancel_left _ (by omega)]
    split
    · rename_i hd
      rw [Int.sign_eq_neg_one_of_neg hd, show (Int.gcd n d : Int) * k = -(Int.gcd n d : Int) * (-k) by grind, Int.mul_fdiv_cancel_left _ (by omega)]
      omega
    · rename_i hd
      rw [Int.sign_eq_one_of_pos (by omega), Int.mul_fdiv_cancel_left _ (by omega)]
      omega
  rw [e n h1, e d h2]
  have hc : Int.gcd d n = Int.gcd n d := Int.gcd_comm d n
  refine Prod.ext ?_ ?_
  · show d.sign * (n / _) = d.sign * n / _
    rw [hc, Int.mul_ediv_assoc _ h1]
  · show d.sign * (d / _) = ((d.natAbs / Int.gcd d n : Nat) : Int)
    have e2 : d.sign * d = ((d.natAbs : Nat) : Int) := by
      rcases Int.lt_or_gt_of_ne h with q | q
      · rw [Int.sign_eq_neg_one_of_neg q]; omega
      · rw [Int.sign_eq_one_of_pos q]; omega
    rw [hc, ← Int.mul_ediv_assoc _ h2, e2]
    rfl
theorem fr_den (x : Rat) : (fr x).2 ≠ 0 := by
  show ((x.den : Nat) : Int) ≠ 0
  have := x.den_nz
  omega
theorem fr_add (x y : Rat) : Rat.divInt ((fr x).1 * (fr y).2 + (fr y).1 * (fr x).2) ((fr x).2 * (fr y).2) = x + y := by
  have h1 : ((x.den : Nat) : Int) ≠ 0 := fr_den x
  have h2 : ((y.den : Nat) : Int) ≠ 0 := fr_den y
  have := Rat.divInt_add_divInt x.num y.num h1 h2
  rw [Rat.num_divInt_den, Rat.num_divInt_den] at this
  exact this.symm
theorem fr_mul (x y : Rat) : Rat.divInt ((fr x).1 * (fr y).1) ((fr x).2 * (fr y).2) = x * y := by
  have := Rat.divInt_mul_divInt x.num y.num (d₁ := x.den) (d₂ := y.den)
  rw [Rat.num_divInt_den, Rat.num_divInt_den] at this
  exact this.symm
theorem fr_sub (x y : Rat) : Rat.divInt ((fr x).1 * (fr y).2 - (fr y).1 * (fr x).2) ((fr x).2 * (fr y).2) = x - y := by
  have h1 : ((x.den : Nat) : Int) ≠ 0 := fr_den x
  have h2 : ((y.den : Nat) : Int) ≠ 0 := fr_den y
  have := Rat.divInt_sub_divInt x.num y.num h1 h2
  rw [Rat.num_divInt_den, Rat.num_divInt_den] at this
  exact this.symm
theorem fr_inv (x : Rat) : Rat.divInt (fr x).2 (fr x).1 = x⁻¹ := (Rat.inv_def x).symm
theorem fr_neg (x : Rat) : (-(fr x).1, (fr x).2) = fr (-x) := rfl
theorem fr_zero (x : Rat) : (fr x).1 = 0 ↔ x = 0 := Rat.num_eq_zero
theorem fr_int (n : Int) : (n, (1 : Int)) = fr (n : Rat) := rfl
end TL
/-! Rings and fields of any kind: one walk for all of them. -/
namespace TL
open PySem L2
section
variable {F : Fx} {O O1 O2 O3 O' : Own} {l l' : Lc} {α β γ ρ S : Type} {K : PySem.W.Frag}
  {ta tb tc te t1 t2 : TE} {t : Ty α} {u : Ty β} {w : Ty γ} {a : α} {b : β} {c : γ} {D : Ends} {P : ρ → Prop} {r : ρ}
/-! ### one thing seen as another -/
theorem ev_cv (h : Ev F O l te t a O') (hs : ∀ {H v}, t.rp H v a → u.rp H v b) : Ev F O l te u b O' := fun σ H k Q q => h σ H k Q fun v H1 s k1 r1 => q v H1 s k1 (hs r1)
theorem rp_3T {B : Hp} {v : V} {x : α × α × α} (h : (y3 t t t).rp B v x) : (yT t).rp B v [x.1, x.2.1, x.2.2] := by
  obtain ⟨p, a, b, c, e, hp, r1, r2, r3⟩ := h
  exact ⟨p, [a, b, c], e, hp, by show 3 ≤ sizeLine; decide, .cons r1 (.cons r2 (.cons r3 .nil))⟩
theorem rp_H3L {B : Hp} {v : V} {x : α × α × α} (h : (yH3 t t t).rp B v x) : (yL t).rp B v [x.1, x.2.1, x.2.2] := by
  obtain ⟨p, a, b, c, e, hp, r1, r2, r3⟩ := h
  exact ⟨p, [a, b, c], e, hp, by show 3 ≤ sizeLine; decide, .cons r1 (.cons r2 (.cons r3 .nil))⟩
theorem a2_3 [Inhabited α] {R : V → α → Prop} {vs : List V} {xs : List α} (h : A2 R vs xs) (hl : xs.length = 3) : ∃ x y z, vs = [x, y, z] ∧ R x (ix xs 0) ∧ R y (ix xs 1) ∧ R z (ix xs 2) := by
  match xs, hl, h with
  | [p, q, r], _, .cons h1 (.cons h2 (.cons h3 .nil)) => exact ⟨_, _, _, rfl, h1, h2, h3⟩
theorem rp_T3 [Inhabited α] {B : Hp} {v : V} {xs : List α} (hl : xs.length = 3) (h : (yT t).rp B v xs) : (y3 t t t).rp B v (ix xs 0, ix xs 1, ix xs 2) := by
  obtain ⟨p, vs, e, hp, _, r⟩ := h
  obtain ⟨x, y, z, rfl, h1, h2, h3⟩ := a2_3 r hl
  exact ⟨p, x, y, z, e, hp, h1, h2, h3⟩
theorem rp_LH3 [Inhabited α] {B : Hp} {v : V} {xs : List α} (hl : xs.length = 3) (h : (yL t).rp B v xs) : (yH3 t t t).rp B v (ix xs 0, ix xs 1, ix xs 2) := by
  obtain ⟨p, vs, e, hp, _, r⟩ := h
  obtain ⟨x, y, z, rfl, h1, h2, h3⟩ := a2_3 r hl
  exact ⟨p, x, y, z, e, hp, h1, h2, h3⟩
theorem a2_map {δ : Type} {R : V → α → Prop} {R' : V → δ → Prop} {f : α → δ} {vs : List V} : ∀ {xs : List α}, (∀ v, ∀ x ∈ xs, R v x → R' v (f x)) → A2 R vs xs → A2 R' vs (xs.map f) := by
  intro xs h q
  induction q with
  | nil => exact .nil
  | cons q1 q2 ih => exact .cons (h _ _ List.mem_cons_self q1) (ih fun v x hx => h v x (List.mem_cons_of_mem _ hx))
theorem rp_L {B : Hp} {v : V} {f : α → β} {xs : List α} (hs : ∀ {H v}, ∀ x ∈ xs, t.rp H v x → u.rp H v (f x)) (h : (yL t).rp B v xs) : (yL u).rp B v (xs.map f) := by
  obtain ⟨p, vs, e, hp, hl, r⟩ := h
  exact ⟨p, vs, e, hp, hl, a2_map (fun v x hx => hs x hx) r⟩
theorem rp_Li {B : Hp} {v : V} {u : Ty α} {xs : List α} (hs : ∀ {H v}, ∀ x ∈ xs, t.rp H v x → u.rp H v x) (h : (yL t).rp B v xs) : (yL u).rp B v xs := by
  have := rp_L (f := id) (u := u) hs h
  rwa [List.map_id] at this
theorem rp_T {B : Hp} {v : V} {f : α → β} {xs : List α} (hs : ∀ {H v}, ∀ x ∈ xs, t.rp H v x → u.rp H v (f x)) (h : (yT t).rp B v xs) : (yT u).rp B v (xs.map f) := by
  obtain ⟨p, vs, e, hp, hl, r⟩ := h
  exact ⟨p, vs, e, hp, hl, a2_map (fun v x hx => hs x hx) r⟩
/-- three like things: a list or a tuple -/
def yLT3 (t : Ty α) : Ty (α × α × α) := ⟨fun H v x => (yH3 t t t).rp H v x ∨ (y3 t t t).rp H v x, fun s h => h.imp ((yH3 t t t).mono s) ((y3 t t t).mono s)⟩
theorem rp_H3X {B : Hp} {v : V} {x : α × α × α} (h : (yH3 t t t).rp B v x) : (yLT3 t).rp B v x := .inl h
theorem rp_3X {B : Hp} {v : V} {x : α × α × α} (h : (y3 t t t).rp B v x) : (yLT3 t).rp B v x := .inr h
theorem rp_LX [Inhabited α] {B : Hp} {v : V} {xs : List α} (hl : xs.length = 3) (h : (yL t).rp B v xs) : (yLT3 t).rp B v (ix xs 0, ix xs 1, ix xs 2) := .inl (rp_LH3 hl h)
theorem rp_TX [Inhabited α] {B : Hp} {v : V} {xs : List α} (hl : xs.length = 3) (h : (yT t).rp B v xs) : (yLT3 t).rp B v (ix xs 0, ix xs 1, ix xs 2) := .inr (rp_T3 hl h)
theorem rp_LTX [Inhabited α] {B : Hp} {v : V} {xs : List α} (hl : xs.length = 3) (h : (yLT t).rp B v xs) : (yLT3 t).rp B v (ix xs 0, ix xs 1, ix xs 2) := h.elim (fun h => .inl (rp_LH3 hl h)) (fun h => .inr (rp_T3 hl h))
theorem rp_XLT {B : Hp} {v : V} {x : α × α × α} (h : (yLT3 t).rp B v x) : (yLT t).rp B v [x.1, x.2.1, x.2.2] := h.elim (fun h => .inl (rp_H3L h)) (fun h => .inr (rp_3T h))
theorem rp_H3H3 {δ ε : Type} {B : Hp} {v : V} {t' : Ty δ} {u' : Ty ε} {η : Type} {w' : Ty η} {x : α × β × γ} {d : δ} {e : ε} {f : η} (h1 : ∀ {H v}, t.rp H v x.1 → t'.rp H v d) (h2 : ∀ {H v}, u.rp H v x.2.1 → u'.rp H v e) (h3 : ∀ {H v}, w.rp H v x.2.2 → w'.rp H v f) (h : (yH3 t u w).rp B v x) : (yH3 t' u' w').rp B v (d, e, f) := by
  obtain ⟨p, a, b, c, e, hp, r1, r2, r3⟩ := h
  exact ⟨p, a, b, c, e, hp, h1 r1, h2 r2, h3 r3⟩
/-! ### a slot that holds one of two -/
theorem Ok.two {σ : St} {H : Hp} {s s1 s2 : Sl} {i : Nat} (k : Ok F O l σ H) (hi : l.s[i]? = some s) (hs : ∀ {B o}, SlOk B o s → SlOk B o s1 ∨ SlOk B o s2) : Ok F O (l.set i s1) σ H ∨ Ok F O (l.set i s2) σ H := by
  obtain ⟨o, e1, e2⟩ := slot_of (σ := []) (i := 0) k.sl hi
  have e3 : σ.set i o = σ := by
    obtain ⟨hlt, e4⟩ := List.getElem?_eq_some_iff.mp e1
    rw [← e4]
    exact List.set_getElem_self hlt
  rcases hs e2 with z | z
  · have := paired_set z i k.sl
    rw [e3] at this
    exact .inl ⟨this, k.gh, k.hx⟩
  · have := paired_set z i k.sl
    rw [e3] at this
    exact .inr ⟨this, k.gh, k.hx⟩
theorem Ok.back {σ : St} {H : Hp} {s s1 : Sl} {i : Nat} {gs : List Sl} (hi : l.s[i]? = some s) (hs : ∀ {B o}, SlOk B o s1 → SlOk B o s) (k : Ok F O ((l.set i s1).push gs) σ H) : Ok F O (l.push gs) σ H := ⟨a2_back (fun _ h => hs h) hi k.sl, k.gh, k.hx⟩
/-- how a slot may be seen in two ways -/
structure Two (s s1 s2 : Sl) : Prop where
  to : ∀ {B o}, SlOk B o s → SlOk B o s1 ∨ SlOk B o s2
  b1 : ∀ {B o}, SlOk B o s1 → SlOk B o s
  b2 : ∀ {B o}, SlOk B o s2 → SlOk B o s
theorem ev_two2 {s s1 s2 : Sl} (i : Nat) (T : Two s s1 s2) (h1 : Ev F O (l.set i s1) t1 u b O') (h2 : Ev F O (l.set i s2) t2 u b O') (hi : l.s[i]? = some s := by rfl) : Ev F O l (fun σ H Q => t1 σ H Q ∨ t2 σ H Q) u b O' := fun σ H k Q q => by
  rcases k.two hi T.to with k | k
  · exact .inl (h1 σ H k Q fun v H1 s k1 r1 => q v H1 s (Ok.back (gs := []) hi T.b1 k1) r1)
  · exact .inr (h2 σ H k Q fun v H1 s k1 r1 => q v H1 s (Ok.back (gs := []) hi T.b2 k1) r1)
theorem evl_two2 {s s1 s2 : Sl} {xs : List α} (i : Nat) (T : Two s s1 s2) (h1 : EvL F O (l.set i s1) t1 t xs O') (h2 : EvL F O (l.set i s2) t2 t xs O') (hi : l.s[i]? = some s := by rfl) : EvL F O l (fun σ H Q => t1 σ H Q ∨ t2 σ H Q) t xs O' := fun σ H k Q q => by
  rcases k.two hi T.to with k | k
  · exact .inl (h1 σ H k Q fun p vs H1 s k1 => q p vs H1 s (Ok.back (gs := []) hi T.b1 k1))
  · exact .inr (h2 σ H k Q fun p vs H1 s k1 => q p vs H1 s (Ok.back (gs := []) hi T.b2 k1))
theorem iv_two2 {s s1 s2 : Sl} {ys : List β} {w1 w2 : TI} (i : Nat) (T : Two s s1 s2) (h1 : Iv F O (l.set i s1) w1 u ys O') (h2 : Iv F O (l.set i s2) w2 u ys O') (hi : l.s[i]? = some s := by rfl) : Iv F O l (fun σ H Q => w1 σ H Q ∨ w2 σ H Q) u ys O' := fun σ H k R q => by
  rcases k.two hi T.to with k | k
  · exact .inl (h1 σ H k R fun J H1 gs s k1 r1 => q J H1 gs s (Ok.back hi T.b1 k1) r1)
  · exact .inr (h2 σ H k R fun J H1 gs s k1 r1 => q J H1 gs s (Ok.back hi T.b2 k1) r1)
theorem two_X {x : α × α × α} : Two (.val (yLT3 t) x) (.val (yH3 t t t) x) (.val (y3 t t t) x) :=
  ⟨fun ⟨v, e, r⟩ => r.elim (fun z => .inl ⟨v, e, z⟩) (fun z => .inr ⟨v, e, z⟩), fun ⟨v, e, r⟩ => ⟨v, e, .inl r⟩, fun ⟨v, e, r⟩ => ⟨v, e, .inr r⟩⟩
theorem lrp_3 {B : Hp} {v : V} {x : α × α × α} (h : (yL t).rp B v [x.1, x.2.1, x.2.2]) : (yH3 t t t).rp B v x := by
  obtain ⟨p, vs, e, hp, _, r⟩ := h
  match vs, r with
  | [_, _, _], .cons h1 (.cons h2 (.cons h3 .nil)) => exact ⟨p, _, _, _, e, hp, h1, h2, h3⟩
theorem trp_3 {B : Hp} {v : V} {x : α × α × α} (h : (yT t).rp B v [x.1, x.2.1, x.2.2]) : (y3 t t t).rp B v x := by
  obtain ⟨p, vs, e, hp, _, r⟩ := h
  match vs, r with
  | [_, _, _], .cons h1 (.cons h2 (.cons h3 .nil)) => exact ⟨p, _, _, _, e, hp, h1, h2, h3⟩
theorem two_XL {x : α × α × α} : Two (.val (yLT3 t) x) (.val (yL t) [x.1, x.2.1, x.2.2]) (.val (yT t) [x.1, x.2.1, x.2.2]) :=
  ⟨fun ⟨v, e, r⟩ => r.elim (fun z => .inl ⟨v, e, rp_H3L z⟩) (fun z => .inr ⟨v, e, rp_3T z⟩), fun ⟨v, e, r⟩ => ⟨v, e, .inl (lrp_3 r)⟩, fun ⟨v, e, r⟩ => ⟨v, e, .inr (trp_3 r)⟩⟩
theorem Bd.two {s s1 s2 : Sl} {ts : TS} (i : Nat) (T : Two s s1 s2) (hi : l.s[i]? = some s) (h1 : Bd F O (l.set i s1) ts D P r) (h2 : Bd F O (l.set i s2) ts D P r) : Bd F O l ts D P r := fun hr σ H k => by
  rcases k.two hi T.to with k | k
  · exact h1 hr σ H k
  · exact h2 hr σ H k
/-! ### == of triples -/
theorem max3 {x y z : Nat} : x ≤ max x (max y z) ∧ y ≤ max x (max y z) ∧ z ≤ max x (max y z) := by omega
instance [DecidableEq α] [DecidableEq β] [DecidableEq γ] [d : Dat t K] [f : Dat u K] [g : Dat w K] : Dat (y3 t u w) K := {
  toD := fun x => .tuple [d.toD x.1, f.toD x.2.1, g.toD x.2.2]
  dp := fun s ⟨p, v1, v2, v3, e, h, r1, r2, r3⟩ => by rw [e]; exact .tup (SqT.of (s _ _ h)) (.cons (d.dp s r1) (.cons (f.dp s r2) (.cons (g.dp s r3) .nil)))
  dep := max d.dep (max f.dep g.dep) + 1
  sh := fun ⟨_, _, _, _, _, _, r1, r2, r3⟩ => by
    have h1 := d.sh r1
    have h2 := f.sh r2
    have h3 := g.sh r3
    refine ⟨?_, ?_⟩
    · show (PyData.canLay0 _ && (PyData.canLay0 _ && (PyData.canLay0 _ && true))) = true
      rw [h1.1, h2.1, h3.1]
      rfl
    · show max (PyData.depth _) (max (PyData.depth _) (max (PyData.depth _) 0)) + 1 ≤ _
      have := h1.2
      have := h2.2
      have := h3.2
      omega
  eq := fun x y => by
    show (PyData.eqv _ _ && (PyData.eqv _ _ && (PyData.eqv _ _ && true))) = _
    rw [d.eq, f.eq, g.eq]
    obtain ⟨a, b, c⟩ := x
    obtain ⟨a', b', c'⟩ := y
    by_cases h1 : a = a' <;> by_cases h2 : b = b' <;> by_cases h3 : c = c' <;> simp [h1, h2, h3] }
instance [DecidableEq α] [DecidableEq β] [DecidableEq γ] [d : Dat t K] [f : Dat u K] [g : Dat w K] : Dat (yH3 t u w) K := {
  toD := fun x => .list [d.toD x.1, f.toD x.2.1, g.toD x.2.2]
  dp := fun s ⟨p, v1, v2, v3, e, h, r1, r2, r3⟩ => by rw [e]; exact .lst (SqL.of (s _ _ h)) (.cons (d.dp s r1) (.cons (f.dp s r2) (.cons (g.dp s r3) .nil)))
  dep := max d.dep (max f.dep g.dep) + 1
  sh := fun ⟨_, _, _, _, _, _, r1, r2, r3⟩ => by
    have h1 := d.sh r1
    have h2 := f.sh r2
    have h3 := g.sh r3
    refine ⟨?_, ?_⟩
    · show (PyData.canLay0 _ && (PyData.canLay0 _ && (PyData.canLay0 _ && true))) = true
      rw [h1.1, h2.1, h3.1]
      rfl
    · show max (PyData.depth _) (max (PyData.depth _) (max (PyData.depth _) 0)) + 1 ≤ _
      have := h1.2
      have := h2.2
      have := h3.2
      omega
  eq := fun x y => by
    show (PyData.eqv _ _ && (PyData.eqv _ _ && (PyData.eqv _ _ && true))) = _
    rw [d.eq, f.eq, g.eq]
    obtain ⟨a, b, c⟩ := x
    obtain ⟨a', b', c'⟩ := y
    by_cases h1 : a = a' <;> by_cases h2 : b = b' <;> by_cases h3 : c = c' <;> simp [h1, h2, h3] }
instance : HasTy (y3 t u w) K (.type "tuple") := ⟨fun s ⟨p, x, y, z, e, h, _⟩ => by rw [e]; exact .base (.tup (s _ _ h))⟩
instance : HasTy (yH3 t u w) K (.type "list") := ⟨fun s ⟨p, x, y, z, e, h, _⟩ => by rw [e]; exact .base (.lst (s _ _ h))⟩
theorem op_eqK {X : Cx} {K : PySem.W.Frag} (hK : X.K = K) (hu : X.A.units + 64 < cLine) : OpR X (compareOp .Eq) (rEqD K) := by
  subst hK
  exact op_eqD hu
theorem op_neK {X : Cx} {K : PySem.W.Frag} (hK : X.K = K) (hu : X.A.units + 64 < cLine) : OpR X (compareOp .NotEq) (rNeD K) := by
  subst hK
  exact op_neD hu
theorem call_list_K {X : Cx} {K : PySem.W.Frag} (hK : X.K = K) : CallR X (.type "list") (rListS K) := by
  subst hK
  exact call_list_of
theorem call_tuple_K {X : Cx} {K : PySem.W.Frag} (hK : X.K = K) : CallR X (.type "tuple") (rTupS K) := by
  subst hK
  exact call_tuple_of
theorem pi_listK {X : Cx} {K : PySem.W.Frag} {tg l : Expr} {tl : TE} (hK : X.K = K) (hl : PE X l tl) : PI X tg l (iList K tl) := by
  subst hK
  exact pi_list hl
theorem pi_tupK {X : Cx} {K : PySem.W.Frag} {tg l : Expr} {tl : TE} (hK : X.K = K) (hl : PE X l tl) : PI X tg l (iTup K tl) := by
  subst hK
  exact pi_tup hl
/-- exactly this thing -/
def yFix (t : Ty α) (a : α) : Ty Unit := ⟨fun H v _ => t.rp H v a, fun s h => t.mono s h⟩
end

/-! ### how large elements are -/
structure Ms (E : Type) [Lean.Grind.CommRing E] where
  bd : Nat → Nat → E → Prop
  zero : bd 0 0 0
  one : bd 0 0 1
  mono : ∀ {n d n' d' x}, bd n d x → n ≤ n' → d ≤ d' → bd n' d' x
  add : ∀ {n d n' d' x y}, bd n d x → bd n' d' y → bd (max (n + d') (n' + d) + 1) (d + d') (x + y)
  sub : ∀ {n d n' d' x y}, bd n d x → bd n' d' y → bd (max (n + d') (n' + d) + 1) (d + d') (x - y)
  neg : ∀ {n d x}, bd n d x → bd n d (-x)
  mul : ∀ {n d n' d' x y}, bd n d x → bd n' d' y → bd (n + n') (d + d') (x * y)
/-- what a method may be handed -/
abbrev Ms.lm {E : Type} [Lean.Grind.CommRing E] (m : Ms E) (x : E) : Prop := m.bd 3000 3000 x
def Ms.b3 {E : Type} [Lean.Grind.CommRing E] (m : Ms E) (n d : Nat) (v : V3 E) : Prop := m.bd n d v.1 ∧ m.bd n d v.2.1 ∧ m.bd n d v.2.2

/-! ### rings -/
abbrev mths : List Str := ["of", "plus", "minus", "negated", "times", "is_zero", "inv", "over"]
structure Rg (P : Program) (w : World) (K : PySem.W.Frag) (mg : Str → Option Value) (base : Heap) (E : Type) [Lean.Grind.CommRing E] [DecidableEq E] where
  t : Ty E
  dat : Dat t K
  dep : dat.dep ≤ 3
  m : Ms E
  C : Addr
  r : Ty Unit
  cl : Cls K C
  obj : ∀ {B v}, r.rp B v () → ∃ a dx vs, v = .ref a ∧ B a = some (.ins C dx vs) ∧ (∀ m ∈ mths, vs.lookup m = none) ∧ (∃ z, vs.lookup ("zero" : Str) = some z ∧ t.rp B z 0) ∧ ∃ z, vs.lookup ("one" : Str) = some z ∧ t.rp B z 1
  na0 : NoAttr K C "zero"
  na1 : NoAttr K C "one"
  plus : Mt P w K mg base 12 C "plus" (spF (fun a : E × E => [.val r (), .val t a.1, .val t a.2]) (fun a => m.lm a.1 ∧ m.lm a.2) t fun a => a.1 + a.2)
  minus : Mt P w K mg base 12 C "minus" (spF (fun a : E × E => [.val r (), .val t a.1, .val t a.2]) (fun a => m.lm a.1 ∧ m.lm a.2) t fun a => a.1 - a.2)
  times : Mt P w K mg base 12 C "times" (spF (fun a : E × E => [.val r (), .val t a.1, .val t a.2]) (fun a => m.lm a.1 ∧ m.lm a.2) t fun a => a.1 * a.2)
  negated : Mt P w K mg base 12 C "negated" (spF (fun a : E => [.val r (), .val t a]) (fun a => m.lm a) t fun a => -a)
  is_zero : Mt P w K mg base 12 C "is_zero" (spF (fun a : E => [.val r (), .val t a]) (fun _ => True) yB fun a => decide (a = 0))
structure Fg (P : Program) (w : World) (K : PySem.W.Frag) (mg : Str → Option Value) (base : Heap) (E : Type) [Lean.Grind.Field E] [DecidableEq E] extends Rg P w K mg base E where
  bd_inv : ∀ {n d x}, m.bd n d x → m.bd d n x⁻¹
  inv : Mt P w K mg base 12 C "inv" (spF (fun a : E => [.val r (), .val t a]) (fun a => m.lm a ∧ a ≠ 0) t fun a => a⁻¹)
structure Fo (P : Program) (w : World) (K : PySem.W.Frag) (mg : Str → Option Value) (base : Heap) (E : Type) [Lean.Grind.Field E] [DecidableEq E] extends Fg P w K mg base E where
  over : Mt P w K mg base 12 C "over" (spF (fun a : E × E => [.val r (), .val t a.1, .val t a.2]) (fun a => (m.lm a.1 ∧ m.lm a.2) ∧ a.2 ≠ 0) t fun a => a.1 / a.2)
/-- a ring, whatever its elements are -/
structure RgB (P : Program) (w : World) (K : PySem.W.Frag) (mg : Str → Option Value) (base : Heap) : Type 1 where
  E : Type
  [ring : Lean.Grind.CommRing E]
  [dec : DecidableEq E]
  R : Rg P w K mg base E
structure FgB (P : Program) (w : World) (K : PySem.W.Frag) (mg : Str → Option Value) (base : Heap) : Type 1 where
  E : Type
  [fld : Lean.Grind.Field E]
  [dec : DecidableEq E]
  R : Fg P w K mg base E
/-- .. that divides -/
structure FoB (P : Program) (w : World) (K : PySem.W.Frag) (mg : Str → Option Value) (base : Heap) : Type 1 where
  E : Type
  [fld : Lean.Grind.Field E]
  [dec : DecidableEq E]
  R : Fo P w K mg base E
section
variable {P : Program} {w : World} {K : PySem.W.Frag} {mg : Str → Option Value} {base : Heap}
@[reducible] instance (i : FoB P w K mg base) : Lean.Grind.Field i.E := i.fld
@[reducible] instance (i : FoB P w K mg base) : DecidableEq i.E := i.dec
abbrev FoB.rg (i : FoB P w K mg base) : RgB P w K mg base := ⟨i.E, i.R.toRg⟩
@[reducible] instance (i : RgB P w K mg base) : Lean.Grind.CommRing i.E := i.ring
@[reducible] instance (i : RgB P w K mg base) : DecidableEq i.E := i.dec
@[reducible] instance (i : FgB P w K mg base) : Lean.Grind.Field i.E := i.fld
@[reducible] instance (i : FgB P w K mg base) : DecidableEq i.E := i.dec
instance inhR {E : Type} [Lean.Grind.CommRing E] : Inhabited E := ⟨0⟩
abbrev FgB.rg (i : FgB P w K mg base) : RgB P w K mg base := ⟨i.E, i.R.toRg⟩
instance datR {E : Type} [Lean.Grind.CommRing E] [DecidableEq E] (R : Rg P w K mg base E) : Dat R.t K := {
  toD := R.dat.toD, dp := R.dat.dp, dep := 3, sh := fun h => ⟨(R.dat.sh h).1, Nat.le_trans (R.dat.sh h).2 R.dep⟩, eq := R.dat.eq }
/-- a def for all rings at once -/
structure ClX {ι : Type 1} (P : Program) (w : World) (K : PySem.W.Frag) (mg : Str → Option Value) (base : Heap) (k : Nat) (x : Str) (sp : ι → Sp) : Prop where
  ex : ∃ (f : Addr) (fd : FuncData) (ps : List Str), (∀ i, FnOk P w K mg base (L2.CX P w) k f fd ps (sp i)) ∧ mg x = some (.ref f) ∧ PySem.W.keepIn K (.ref f) = true ∧ Binds K fd ps []
theorem ClX.at {ι : Type 1} {k : Nat} {x : Str} {sp : ι → Sp} (c : ClX P w K mg base k x sp) (i : ι) : Cl P w K mg base k x (sp i) := let ⟨f, fd, ps, h, a⟩ := c.ex; ⟨f, fd, ps, h i, a⟩
/-- for all of them at once, as they are told otherwise -/
theorem ClX.cl {ι : Type 1} {k : Nat} {x : Str} {sp : ι → Sp} {sp' : Sp} (c : ClX P w K mg base k x sp) (h : ∀ vs H Q E, sp' vs H Q E → ∃ i, sp i vs H Q E) : Cl P w K mg base k x sp' := by
  obtain ⟨f, fd, ps, F, a⟩ := c.ex
  refine ⟨f, fd, ps, ⟨fun vs H Q E z => ?_, fun A outer s H args us vs Q E hr he hb hv hs => ?_⟩, a⟩
  · obtain ⟨i, z⟩ := h _ _ _ _ z
    exact (F i).len vs H Q E z
  · obtain ⟨i, z⟩ := h _ _ _ _ hs
    exact (F i).run A outer s H args us vs Q E hr he hb hv z
theorem Mt.imp {k k' : Nat} {C : Addr} {m : Str} {sp sp' : Sp} (c : Mt P w K mg base k C m sp) (h : ∀ vs H Q E, sp' vs H Q E → sp vs H Q E) (hk : k ≤ k' := by decide) : Mt P w K mg base k' C m sp' := by
  obtain ⟨f, fd, ps, a, b, F, c⟩ := c.ex
  exact ⟨f, fd, ps, a, b, (F.imp h).mono hk, c⟩
theorem Cl.imp {k k' : Nat} {x : Str} {sp sp' : Sp} (c : Cl P w K mg base k x sp) (h : ∀ vs H Q E, sp' vs H Q E → sp vs H Q E) (hk : k ≤ k' := by decide) : Cl P w K mg base k' x sp' := by
  obtain ⟨f, fd, ps, F, c⟩ := c.ex
  exact ⟨f, fd, ps, (F.imp h).mono hk, c⟩
/-- one promise from another -/
theorem spF_cv {A A' β β' : Type} {args : A → List Sl} {pre : A → Prop} {u : Ty β} {f : A → β} {args' : A' → List Sl} {pre' : A' → Prop} {u' : Ty β'} {f' : A' → β'} (g : A' → A)
    (h1 : ∀ a B vs, pre' a → AOk B vs (args' a) → AOk B vs (args (g a))) (h2 : ∀ a, pre' a → pre (g a)) (h3 : ∀ a B v, pre' a → u.rp B v (f (g a)) → u'.rp B v (f' a)) : ∀ vs H Q E, spF args' pre' u' f' vs H Q E → spF args pre u f vs H Q E :=
  fun vs H Q E ⟨M, a, hM, hA, hp, hQ⟩ => ⟨M, g a, hM, h1 a _ _ hp hA, h2 a hp, fun v H' s r => hQ v H' s (h3 a _ _ hp r)⟩
theorem spOF_cv {A A' β β' : Type} {args : A → List Sl} {pre : A → Prop} {u : Ty β} {cls : Value} {f : A → Option β} {args' : A' → List Sl} {pre' : A' → Prop} {u' : Ty β'} {f' : A' → β'} (g : A' → A)
    (h1 : ∀ a B vs, pre' a → AOk B vs (args' a) → AOk B vs (args (g a))) (h2 : ∀ a, pre' a → pre (g a)) (h3 : ∀ a, pre' a → ∃ b, f (g a) = some b ∧ ∀ B v, u.rp B v b → u'.rp B v (f' a)) : ∀ vs H Q E, spF args' pre' u' f' vs H Q E → spO args pre u cls f vs H Q E :=
  fun vs H Q E ⟨M, a, hM, hA, hp, hQ⟩ => by
    obtain ⟨b, e, hb⟩ := h3 a hp
    refine ⟨M, g a, hM, h1 a _ _ hp hA, h2 a hp, fun b' e' v H' s r => ?_, fun e' => ?_⟩
    · rw [e] at e'
      cases e'
      exact hQ v H' s (hb _ _ r)
    · rw [e] at e'
      cases e'
theorem aok_cons {B : Hp} {v : V} {vs : List V} {s s' : Sl} {ss ss' : List Sl} (h : SlOk B (some v) s → SlOk B (some v) s') (hs : AOk B vs ss → AOk B vs ss') : AOk B (v :: vs) (s :: ss) → AOk B (v :: vs) (s' :: ss') := fun q => by
  cases q with
  | cons a b => exact .cons (h a) (hs b)
theorem aok_cv {α β : Type} {t : Ty α} {u : Ty β} {a : α} {b : β} {ss ss' : List Sl} (h : ∀ {B v}, t.rp B v a → u.rp B v b) (hs : ∀ {B vs}, AOk B vs ss → AOk B vs ss') : ∀ {B vs}, AOk B vs (.val t a :: ss) → AOk B vs (.val u b :: ss') := fun q => by
  cases q with
  | cons r q => 
    obtain ⟨v, e, r⟩ := r
    exact .cons ⟨v, e, h r⟩ (hs q)
end
section
variable {P : Program} {w : World} {K : PySem.W.Frag} {mg : Str → Option Value} {base : Heap} {F : Fx} {O O1 O2 O3 O' : Own} {l l' : Lc} {E : Type} [Lean.Grind.CommRing E] [DecidableEq E]
theorem ev_methR {te : TE} {R : Rg P w K mg base E} {m : Str} {A β : Type} {u : Ty β} {args : A → List Sl} {pre : A → Prop} {f : A → β} {tr : TA} {sls : List Sl} {X : XK} (a : A) (he : Ev F O l te R.r () O1) (hm : m ∈ mths) (h : EvA F O1 l tr sls O') (e : Sl.val R.r () :: sls = args a) (hp : pre a) :
    Ev F O l (tMeth R.C m (spF args pre u f) [] X te tr) u (f a) O' := fun σ H k Q q =>
  he σ H k _ fun v H1 s1 k1 r1 => by
    obtain ⟨p, dx, vs, e1, hp1, hn, _⟩ := R.obj r1
    refine ⟨p, dx, vs, e1, (bar_some.mp hp1).2, hn m hm, h σ H1 k1 _ fun ws H2 s2 k2 r2 => ?_⟩
    rw [List.append_nil]
    exact ⟨ad F O', a, k2.hx.adom, by rw [← e]; exact .cons (show SlOk _ (some v) (.val R.r ()) from ⟨v, rfl, R.r.mono s2.same r1⟩) r2, hp, fun v H' s r => q v H' ((s1.trans s2).grow s) (k2.grow s) r⟩
theorem ev_zeroR {te : TE} {R : Rg P w K mg base E} (he : Ev F O l te R.r () O1) : Ev F O l (tFld K te "zero") R.t 0 O1 := fun σ H k Q q =>
  he σ H k _ fun v H1 s1 k1 r1 => by
    obtain ⟨p, dx, vs, e1, hp1, hn, ⟨z, h1, h2⟩, _⟩ := R.obj r1
    exact ⟨p, R.C, dx, vs, z, e1, (bar_some.mp hp1).2, R.cl, R.na0, h1, q z H1 s1 k1 h2⟩
theorem ev_oneR {te : TE} {R : Rg P w K mg base E} (he : Ev F O l te R.r () O1) : Ev F O l (tFld K te "one") R.t 1 O1 := fun σ H k Q q =>
  he σ H k _ fun v H1 s1 k1 r1 => by
    obtain ⟨p, dx, vs, e1, hp1, hn, _, ⟨z, h1, h2⟩⟩ := R.obj r1
    exact ⟨p, R.C, dx, vs, z, e1, (bar_some.mp hp1).2, R.cl, R.na1, h1, q z H1 s1 k1 h2⟩
/-! ### rules for sizes -/
variable {m : Ms E}
theorem b3_mono {n d n' d' : Nat} {v : V3 E} (h : m.b3 n d v) (h1 : n ≤ n') (h2 : d ≤ d') : m.b3 n' d' v := ⟨m.mono h.1 h1 h2, m.mono h.2.1 h1 h2, m.mono h.2.2 h1 h2⟩
end
end TL
/-! The laws' own rings, and a ring of their own beside a field of the package. -/
namespace TL
open PySem L2
abbrev Ow : Type := Int × Int × List (List Int)
abbrev yOw : Ty Ow := yH3 yI yI (yL (yL yI))
section
variable {α β γ δ ε η : Type} {K : PySem.W.Frag} {t : Ty α} {u : Ty β} {w : Ty γ} {t' : Ty δ} {u' : Ty ε} {w' : Ty η}
theorem rp_3333 {B : Hp} {v : V} {x : α × β × γ} {d : δ} {e : ε} {f : η} (h1 : ∀ {H v}, t.rp H v x.1 → t'.rp H v d) (h2 : ∀ {H v}, u.rp H v x.2.1 → u'.rp H v e) (h3 : ∀ {H v}, w.rp H v x.2.2 → w'.rp H v f) (h : (y3 t u w).rp B v x) : (y3 t' u' w').rp B v (d, e, f) := by
  obtain ⟨p, a, b, c, e, hp, r1, r2, r3⟩ := h
  exact ⟨p, a, b, c, e, hp, h1 r1, h2 r2, h3 r3⟩
theorem rp_PP {B : Hp} {v : V} {x : α × β} {d : δ} {e : ε} (h1 : ∀ {H v}, t.rp H v x.1 → t'.rp H v d) (h2 : ∀ {H v}, u.rp H v x.2 → u'.rp H v e) (h : (yP t u).rp B v x) : (yP t' u').rp B v (d, e) := by
  obtain ⟨p, a, b, e, hp, r1, r2⟩ := h
  exact ⟨p, a, b, e, hp, h1 r1, h2 r2⟩
end
/-- a ring of a law's own: numbers told as integers -/
structure Sg (P : Program) (w : World) (K : PySem.W.Frag) (mg : Str → Option Value) (base : Heap) (A : Type) [Lean.Grind.CommRing A] [DecidableEq A] (of : Int → A) (o : Ow) where
  t : Ty A
  dat : Dat t K
  dep : dat.dep ≤ 3
  m : Ms A
  okn : Int → Prop
  ok_of : ∀ {n : Int}, 0 ≤ n → n < o.2.1 → okn n
  rof : ∀ {n : Int}, okn n → ∀ {H v}, yI.rp H v n → t.rp H v (of n)
  of0 : of 0 = 0
  of1 : of 1 = 1
  bdn : ∀ {n : Int}, okn n → m.bd 4 0 (of n)
  of_ne : ∀ {n : Int}, 0 ≤ n → n < o.2.1 → of n = 0 → n = 0
  q2 : 2 ≤ o.2.1 ∧ o.2.1 ≤ 997
  plus : Cl P w K mg base 12 "_law_plus" (spF (fun a : A × A => [.val yI o.1, .val t a.1, .val t a.2]) (fun a => m.bd 3000 0 a.1 ∧ m.bd 3000 0 a.2) t fun a => a.1 + a.2)
  minus : Cl P w K mg base 12 "_law_minus" (spF (fun a : A => [.val yI o.1, .val t a]) (fun a => m.bd 3000 0 a) t fun a => -a)
  times : Cl P w K mg base 12 "_law_times" (spF (fun a : A × A => [.val yOw o, .val t a.1, .val t a.2]) (fun a => m.bd 3000 0 a.1 ∧ m.bd 3000 0 a.2) t fun a => a.1 * a.2)
structure OgB (P : Program) (w : World) (K : PySem.W.Frag) (mg : Str → Option Value) (base : Heap) : Type 1 where
  A : Type
  [ring : Lean.Grind.CommRing A]
  [dec : DecidableEq A]
  of : Int → A
  o : Ow
  S : Sg P w K mg base A of o
/-- a ring A of a law's own beside a field E of the package -/
structure Mm : Type 1 where
  A : Type
  E : Type
  [ring : Lean.Grind.CommRing A]
  [decA : DecidableEq A]
  [fld : Lean.Grind.Field E]
  [decE : DecidableEq E]
  of : Int → A
  o : Ow
  φ : A → E
  φ0 : φ 0 = 0
  φ1 : φ 1 = 1
  φadd : ∀ a b, φ (a + b) = φ a + φ b
  φmul : ∀ a b, φ (a * b) = φ a * φ b
  φneg : ∀ a, φ (-a) = -φ a
  φinj : ∀ {a b}, φ a = φ b → a = b
  of0 : of 0 = 0
  of1 : of 1 = 1
  of_ne : ∀ {n : Int}, 0 ≤ n → n < o.2.1 → of n = 0 → n = 0
  of_q : o.1 = 0 → ∀ {n : Int}, of n = 0 → n = 0
  q2 : 2 ≤ o.2.1 ∧ o.2.1 ≤ 997
  p0 : 0 ≤ o.1
@[reducible] instance (M : Mm) : Lean.Grind.CommRing M.A := M.ring
@[reducible] instance (M : Mm) : DecidableEq M.A := M.decA
@[reducible] instance (M : Mm) : Lean.Grind.Field M.E := M.fld
@[reducible] instance (M : Mm) : DecidableEq M.E := M.decE
/-- lists of entries told in the field -/
def Mm.v (M : Mm) (a : V3 M.A) : V3 M.E := (M.φ a.1, M.φ a.2.1, M.φ a.2.2)
/-- the quotient of a pair: missing, (1, 0), or with 1 behind it -/
def ratioG {A E : Type} [Lean.Grind.CommRing A] [DecidableEq A] [Lean.Grind.Field E] (φ : A → E) (x : A × A) : Unit ⊕ List E :=
  if x.1 = 0 ∧ x.2 = 0 then .inl () else if x.2 = 0 then .inr [1, 0] else .inr [φ x.1 / φ x.2, 1]
def Mm.ratio (M : Mm) (x : M.A × M.A) : Unit ⊕ List M.E := ratioG M.φ x
structure Md (P : Program) (w : World) (K : PySem.W.Frag) (mg : Str → Option Value) (base : Heap) : Type 1 where
  M : Mm
  S : Sg P w K mg base M.A M.of M.o
  R : Fg P w K mg base M.E
  bdφ : ∀ {n d a}, S.m.bd n d a → R.m.bd n 0 (M.φ a)
  aeF : 0 < M.o.1 → ∀ {a H v}, S.t.rp H v a → R.t.rp H v (M.φ a)
  aeQ : M.o.1 = 0 → ∀ {a H v}, (yP S.t yI).rp H v (a, 1) → R.t.rp H v (M.φ a)
  okQ : M.o.1 = 0 → ∀ {n : Int}, -15 ≤ n → n ≤ 15 → S.okn n
  sameE : Cl P w K mg base 12 "_law_same" (spF (fun a : M.E × M.E => [.val R.t a.1, .val R.t a.2]) (fun _ => True) yB fun a => decide (a.1 = a.2))
/-- .. and its quotients of pairs -/
structure MdR (P : Program) (w : World) (K : PySem.W.Frag) (mg : Str → Option Value) (base : Heap) : Type 1 extends Md P w K mg base where
  ov : Mt P w K mg base 12 R.C "over" (spF (fun a : M.E × M.E => [.val R.r (), .val R.t a.1, .val R.t a.2]) (fun a => (R.m.lm a.1 ∧ R.m.lm a.2) ∧ a.2 ≠ 0) R.t fun a => a.1 / a.2)
  ratio : Cl P w K mg base 20 "_law_ratio" (spF (fun a : M.A × M.A => [.val yOw M.o, .val (yP S.t S.t) a]) (fun a => S.m.bd 2000 0 a.1 ∧ S.m.bd 2000 0 a.2) (ySum yN (yT R.t)) fun a => M.ratio a)
section
variable {P : Program} {w : World} {K : PySem.W.Frag} {mg : Str → Option Value} {base : Heap}
@[reducible] instance (i : OgB P w K mg base) : Lean.Grind.CommRing i.A := i.ring
@[reducible] instance (i : OgB P w K mg base) : DecidableEq i.A := i.dec
abbrev Md.fg (i : Md P w K mg base) : FgB P w K mg base := ⟨i.M.E, i.R⟩
abbrev MdR.fo (i : MdR P w K mg base) : FoB P w K mg base := ⟨i.M.E, { toFg := i.R, over := i.ov }⟩
abbrev Md.og (i : Md P w K mg base) : OgB P w K mg base := ⟨i.M.A, i.M.of, i.M.o, i.S⟩
theorem Sg.z0 {A : Type} [Lean.Grind.CommRing A] [DecidableEq A] {of : Int → A} {o : Ow} (S : Sg P w K mg base A of o) : ∀ {H v}, yI.rp H v 0 → S.t.rp H v 0 := fun {H v} h => by
  have := S.rof (S.ok_of (n := 0) (by decide) (by have := S.q2; omega)) h
  rwa [S.of0] at this
theorem Sg.z1 {A : Type} [Lean.Grind.CommRing A] [DecidableEq A] {of : Int → A} {o : Ow} (S : Sg P w K mg base A of o) : ∀ {H v}, yI.rp H v 1 → S.t.rp H v 1 := fun {H v} h => by
  have := S.rof (S.ok_of (n := 1) (by decide) (by have := S.q2; omega)) h
  rwa [S.of1] at this
instance datS {A : Type} [Lean.Grind.CommRing A] [DecidableEq A] {of : Int → A} {o : Ow} (S : Sg P w K mg base A of o) : Dat S.t K := {
  toD := S.dat.toD, dp := S.dat.dp, dep := 3, sh := fun h => ⟨(S.dat.sh h).1, Nat.le_trans (S.dat.sh h).2 S.dep⟩, eq := S.dat.eq }
/-- an integer as an element of the field -/
theorem Md.ieF (i : Md P w K mg base) (h : 0 < i.M.o.1) {n : Int} (hn : i.S.okn n) : ∀ {H v}, yI.rp H v n → i.R.t.rp H v (i.M.φ (i.M.of n)) := fun r => i.aeF h (i.S.rof hn r)
theorem Md.ieQ (i : Md P w K mg base) (h : i.M.o.1 = 0) {x : Int × Int} (h1 : x.2 = 1) (hn : i.S.okn x.1) : ∀ {H v}, (yP yI yI).rp H v x → i.R.t.rp H v (i.M.φ (i.M.of x.1)) := fun r => by
  refine i.aeQ h ?_
  obtain ⟨p, a, b, e, hp, r1, r2⟩ := r
  exact ⟨p, a, b, e, hp, i.S.rof hn r1, by rw [h1] at r2; exact r2⟩
theorem Md.aeQ' (i : Md P w K mg base) (h : i.M.o.1 = 0) {x : i.M.A × Int} (h1 : x.2 = 1) : ∀ {H v}, (yP i.S.t yI).rp H v x → i.R.t.rp H v (i.M.φ x.1) := fun r => by
  refine i.aeQ h ?_
  obtain ⟨a, b⟩ := x
  subst h1
  exact r
end
/-- a finite field: of the package, and the law's own one beside it, with the same elements -/
structure FfB (P : Program) (w : World) (K : PySem.W.Frag) (mg : Str → Option Value) (base : Heap) : Type 1 where
  E : Type
  [fld : Lean.Grind.Field E]
  [dec : DecidableEq E]
  of : Int → E
  o : Ow
  S : Sg P w K mg base E of o
  R : Fg P w K mg base E
  ae : ∀ {a H v}, S.t.rp H v a → R.t.rp H v a
  ea : ∀ {a H v}, R.t.rp H v a → S.t.rp H v a
  tr : ∀ n d x, R.m.bd n d x
  trS : ∀ n d x, S.m.bd n d x
  p0 : 0 < o.1
  sameE : Cl P w K mg base 12 "_law_same" (spF (fun a : E × E => [.val R.t a.1, .val R.t a.2]) (fun _ => True) yB fun a => decide (a.1 = a.2))
/-- .. with the law's inverse -/
structure FfI (P : Program) (w : World) (K : PySem.W.Frag) (mg : Str → Option Value) (base : Heap) : Type 1 extends FfB P w K mg base where
  inverse : Cl P w K mg base 20 "_law_inverse" (spF (fun a : E => [.val yOw o, .val S.t a]) (fun a => a ≠ 0) S.t fun a => a⁻¹)
/-- a ring and how the law compares its elements -/
structure RsB (P : Program) (w : World) (K : PySem.W.Frag) (mg : Str → Option Value) (base : Heap) : Type 1 where
  E : Type
  [ring : Lean.Grind.CommRing E]
  [dec : DecidableEq E]
  R : Rg P w K mg base E
  sameE : Cl P w K mg base 12 "_law_same" (spF (fun a : E × E => [.val R.t a.1, .val R.t a.2]) (fun _ => True) yB fun a => decide (a.1 = a.2))
section
variable {P : Program} {w : World} {K : PySem.W.Frag} {mg : Str → Option Value} {base : Heap}
@[reducible] instance (i : RsB P w K mg base) : Lean.Grind.CommRing i.E := i.ring
@[reducible] instance (i : RsB P w K mg base) : DecidableEq i.E := i.dec
abbrev RsB.rg (i : RsB P w K mg base) : RgB P w K mg base := ⟨i.E, i.R⟩
@[reducible] instance (i : FfB P w K mg base) : Lean.Grind.Field i.E := i.fld
@[reducible] instance (i : FfB P w K mg base) : DecidableEq i.E := i.dec
abbrev FfB.rs (i : FfB P w K mg base) : RsB P w K mg base := ⟨i.E, i.R.toRg, i.sameE⟩
abbrev FfB.fg (i : FfB P w K mg base) : FgB P w K mg base := ⟨i.E, i.R⟩
abbrev FfB.og (i : FfB P w K mg base) : OgB P w K mg base := ⟨i.E, i.of, i.o, i.S⟩
theorem FfB.tr3 (i : FfB P w K mg base) (n d : Nat) (v : V3 i.E) : i.R.m.b3 n d v := ⟨i.tr _ _ _, i.tr _ _ _, i.tr _ _ _⟩
theorem FfB.tr3S (i : FfB P w K mg base) (n d : Nat) (v : V3 i.E) : i.S.m.b3 n d v := ⟨i.trS _ _ _, i.trS _ _ _, i.trS _ _ _⟩
end
section
variable {F : Fx} {O O1 O2 O3 O' : Own} {l l' : Lc} {α β γ ρ A : Type} {K : PySem.W.Frag}
  {ta tb tc te t1 t2 : TE} {t : Ty α} {u : Ty β} {w : Ty γ} {a : α} {b : β} {c : γ} {D : Ends} {P : ρ → Prop} {r : ρ}
theorem ev_isnotB {x y : Bool} (ha : Ev F O l ta yB x O1) (hb : Ev F O1 l tb yB y O2) : Ev F O l (tOp (fun x y H Q => ∃ a b, x = V.bl a ∧ y = V.bl b ∧ Q (V.bl (!decide (a = b))) H) ta tb) yB (!decide (x = y)) O2 :=
  ev_op ha hb fun H v w _ e1 e2 Q q => ⟨x, y, e1, e2, q _ H (same_refl _) rfl⟩
/-- try: f(..) except C as e: .. -/
theorem b_tryD {args : A → List Sl} {pre : A → Prop} {cls c : Value} {f : A → Option β} {tr : TA} {sls : List Sl} {i : Nat} {ts : Addr → Value → Option Addr → TS} {Wout : WX} {k : β → ρ} {r0 : ρ} {rest : TS} (a : A) (h : EvA F O l tr sls O') (e : sls = args a) (hp : pre a)
    (hc : PySem.W.exmOne K cls c = some true) (h1 : ∀ b, f a = some b → Bd F O' l rest D P (k b))
    (h2 : f a = none → ∀ (aa : Addr) (N B C : L2.St → Hp → Prop), Bd F O' (l.set i (.val (yV (.ref aa)) ())) (ts aa cls none) ⟨N, D.rt, B, C⟩ P r0) :
    Bd F O l (tSeq (fun D σ H => tSeq (tDrop (tCallS (spO args pre u cls f) (WE (wAs K c i ts Wout D)) tr)) tNext D σ H) rest) D P (oel (f a) r0 k) := fun hr σ H kk =>
  h σ H kk _ fun vs H1 s1 k1 r1 => by
    subst e
    refine ⟨ad F O', a, k1.hx.adom, r1, hp, fun b hb v H' s r => ?_, fun hn H' s => ?_⟩
    · rw [hb] at hr
      exact h1 b hb hr _ H' (k1.grow s)
    · rw [hn] at hr
      exact ⟨true, hc, fun _ aa haa => h2 hn aa _ _ _ hr _ H' ((k1.grow s).set (t := yV (.ref aa)) (a := ()) i rfl), fun z => nomatch z⟩
end
end TL
set_option maxHeartbeats 1000000
namespace K23
open PySem L2 TL PyProof.Rows
def top (i : Nat) : Stmt := PySem.Challenge.pw_closefigures_k23_throws.main.body.getD i (.Pass ⟨0, 0, 0, 0⟩)
def sub (i j : Nat) : Stmt := match top i with | .ClassDef _ _ _ b _ _ _ _ _ _ _ => b.getD j (.Pass ⟨0, 0, 0, 0⟩) | s => s
abbrev s_wall : Stmt := top 0
abbrev s_SizeError___init__ : Stmt := sub 3 0
abbrev s_NumberError___init__ : Stmt := sub 4 0
abbrev s_PrimeError___init__ : Stmt := sub 5 0
abbrev s_ModulusError___init__ : Stmt := sub 6 0
abbrev s_dot : Stmt := top 9
abbrev s_cross : Stmt := top 10
abbrev s_bracket : Stmt := top 11
abbrev s_share : Stmt := top 12
abbrev s_throw_pair : Stmt := top 14
abbrev s_throw : Stmt := top 15
abbrev s_gcd_pair : Stmt := top 18
abbrev s_power_of : Stmt := top 19
abbrev s_power_modulo : Stmt := top 20
abbrev s_is_prime : Stmt := top 21
abbrev s_check_prime : Stmt := top 22
abbrev s_base_digits : Stmt := top 25
abbrev s_base_number : Stmt := top 26
abbrev s_trimmed : Stmt := top 27
abbrev s_times_modulo : Stmt := top 28
abbrev s_raised_modulo : Stmt := top 29
abbrev s_rest : Stmt := top 30
abbrev s_are_coprime : Stmt := top 31
abbrev s_is_irreducible : Stmt := top 32
abbrev s_Ring___init__ : Stmt := sub 34 0
abbrev s_Ring_of : Stmt := sub 34 1
abbrev s_Ring_plus : Stmt := sub 34 2
abbrev s_Ring_minus : Stmt := sub 34 3
abbrev s_Ring_negated : Stmt := sub 34 4
abbrev s_Ring_times : Stmt := sub 34 5
abbrev s_Ring_is_zero : Stmt := sub 34 6
abbrev s_Field___init__ : Stmt := sub 35 0
abbrev s_Field_inv : Stmt := sub 35 1
abbrev s_Field_over : Stmt := sub 35 2
abbrev s_checked_size : Stmt := top 37
abbrev s_cycle : Stmt := top 38
abbrev s_all_powers : Stmt := top 39
abbrev s_tables : Stmt := top 40
abbrev s_Finite___init__ : Stmt := sub 41 0
abbrev s_Finite_of : Stmt := sub 41 1
abbrev s_Finite_plus : Stmt := sub 41 2
abbrev s_Finite_minus : Stmt := sub 41 3
abbrev s_Finite_negated : Stmt := sub 41 4
abbrev s_Finite_times : Stmt := sub 41 5
abbrev s_Finite_is_zero : Stmt := sub 41 6
abbrev s_Finite_inv : Stmt := sub 41 7
abbrev s_Finite_over : Stmt := sub 41 8
abbrev s_Finite_digits_of : Stmt := sub 41 9
abbrev s_Finite_raised : Stmt := sub 41 10
abbrev s_Finite_all_elements : Stmt := sub 41 11
abbrev s_Fractions___init__ : Stmt := sub 43 0
abbrev s_Fractions_fraction : Stmt := sub 43 1
abbrev s_Fractions_of : Stmt := sub 43 2
abbrev s_Fractions_plus : Stmt := sub 43 3
abbrev s_Fractions_minus : Stmt := sub 43 4
abbrev s_Fractions_negated : Stmt := sub 43 5
abbrev s_Fractions_times : Stmt := sub 43 6
abbrev s_Fractions_is_zero : Stmt := sub 43 7
abbrev s_Fractions_inv : Stmt := sub 43 8
abbrev s_Fractions_over : Stmt := sub 43 9
abbrev s_law_cells : Stmt := top 45
abbrev s_law_draw : Stmt := top 46
abbrev s_law_prime : Stmt := top 47
abbrev s_law_choice : Stmt := top 48
abbrev s_law_plus : Stmt := top 49
abbrev s_law_minus : Stmt := top 50
abbrev s_law_product : Stmt := top 51
abbrev s_law_tables : Stmt := top 52
abbrev s_law_times : Stmt := top 53
abbrev s_law_inverse : Stmt := top 54
abbrev s_law_dot : Stmt := top 55
abbrev s_law_cross : Stmt := top 56
abbrev s_law_bracket : Stmt := top 57
abbrev s_law_same : Stmt := top 58
abbrev s_law_vector : Stmt := top 59
abbrev s_law_drawn : Stmt := top 60
abbrev s_law_unlike : Stmt := top 61
abbrev s_law_beside : Stmt := top 62
abbrev s_law_mix : Stmt := top 63
abbrev s_law_spanning : Stmt := top 64
abbrev s_law_carried : Stmt := top 65
abbrev s_law_gcd : Stmt := top 66
abbrev s_law_fraction : Stmt := top 67
abbrev s_law_products : Stmt := top 68
abbrev s_law_ratio : Stmt := top 69
abbrev s_law_given : Stmt := top 70
abbrev s_law_answers : Stmt := top 71
abbrev s_law_asked : Stmt := top 72
abbrev s_law_share : Stmt := top 73
abbrev s_law_side : Stmt := top 74
abbrev s_law : Stmt := top 75
structure Tx (P : Program) (K : PySem.W.Frag) (mg : Str → Option Value) : Prop where
  g_dot : ∃ f fd, mg "dot" = some (.ref f) ∧ FunD K "dot" "dot" (defArgs s_dot) (defBody s_dot) (defScope s_dot) [] [] f fd
  g_cross : ∃ f fd, mg "cross" = some (.ref f) ∧ FunD K "cross" "cross" (defArgs s_cross) (defBody s_cross) (defScope s_cross) [] [] f fd
  g_bracket : ∃ f fd, mg "bracket" = some (.ref f) ∧ FunD K "bracket" "bracket" (defArgs s_bracket) (defBody s_bracket) (defScope s_bracket) [] [] f fd
  g_share : ∃ f fd, mg "share" = some (.ref f) ∧ FunD K "share" "share" (defArgs s_share) (defBody s_share) (defScope s_share) [] [] f fd
  g_throw_pair : ∃ f fd, mg "throw_pair" = some (.ref f) ∧ FunD K "throw_pair" "throw_pair" (defArgs s_throw_pair) (defBody s_throw_pair) (defScope s_throw_pair) [] [] f fd
  g_throw : ∃ f fd, mg "throw" = some (.ref f) ∧ FunD K "throw" "throw" (defArgs s_throw) (defBody s_throw) (defScope s_throw) [] [] f fd
  g_gcd_pair : ∃ f fd, mg "gcd_pair" = some (.ref f) ∧ FunD K "gcd_pair" "gcd_pair" (defArgs s_gcd_pair) (defBody s_gcd_pair) (defScope s_gcd_pair) [] [] f fd
  g_power_of : ∃ f fd, mg "power_of" = some (.ref f) ∧ FunD K "power_of" "power_of" (defArgs s_power_of) (defBody s_power_of) (defScope s_power_of) [] [] f fd
  g_power_modulo : ∃ f fd, mg "power_modulo" = some (.ref f) ∧ FunD K "power_modulo" "power_modulo" (defArgs s_power_modulo) (defBody s_power_modulo) (defScope s_power_modulo) [] [] f fd
  g_is_prime : ∃ f fd, mg "is_prime" = some (.ref f) ∧ FunD K "is_prime" "is_prime" (defArgs s_is_prime) (defBody s_is_prime) (defScope s_is_prime) [] [] f fd
  g_check_prime : ∃ f fd, mg "check_prime" = some (.ref f) ∧ FunD K "check_prime" "check_prime" (defArgs s_check_prime) (defBody s_check_prime) (defScope s_check_prime) [] [] f fd
  g_base_digits : ∃ f fd, mg "base_digits" = some (.ref f) ∧ FunD K "base_digits" "base_digits" (defArgs s_base_digits) (defBody s_base_digits) (defScope s_base_digits) [] [] f fd
  g_base_number : ∃ f fd, mg "base_number" = some (.ref f) ∧ FunD K "base_number" "base_number" (defArgs s_base_number) (defBody s_base_number) (defScope s_base_number) [] [] f fd
  g_trimmed : ∃ f fd, mg "trimmed" = some (.ref f) ∧ FunD K "trimmed" "trimmed" (defArgs s_trimmed) (defBody s_trimmed) (defScope s_trimmed) [] [] f fd
  g_times_modulo : ∃ f fd, mg "times_modulo" = some (.ref f) ∧ FunD K "times_modulo" "times_modulo" (defArgs s_times_modulo) (defBody s_times_modulo) (defScope s_times_modulo) [] [] f fd
  g_raised_modulo : ∃ f fd, mg "raised_modulo" = some (.ref f) ∧ FunD K "raised_modulo" "raised_modulo" (defArgs s_raised_modulo) (defBody s_raised_modulo) (defScope s_raised_modulo) [] [] f fd
  g_rest : ∃ f fd, mg "_rest" = some (.ref f) ∧ FunD K "_rest" "_rest" (defArgs s_rest) (defBody s_rest) (defScope s_rest) [] [] f fd
  g_are_coprime : ∃ f fd, mg "_are_coprime" = some (.ref f) ∧ FunD K "_are_coprime" "_are_coprime" (defArgs s_are_coprime) (defBody s_are_coprime) (defScope s_are_coprime) [] [] f fd
  g_is_irreducible : ∃ f fd, mg "is_irreducible" = some (.ref f) ∧ FunD K "is_irreducible" "is_irreducible" (defArgs s_is_irreducible) (defBody s_is_irreducible) (defScope s_is_irreducible) [] [] f fd
  g_checked_size : ∃ f fd, mg "_checked_size" = some (.ref f) ∧ FunD K "_checked_size" "_checked_size" (defArgs s_checked_size) (defBody s_checked_size) (defScope s_checked_size) [] [] f fd
  g_cycle : ∃ f fd, mg "_cycle" = some (.ref f) ∧ FunD K "_cycle" "_cycle" (defArgs s_cycle) (defBody s_cycle) (defScope s_cycle) [] [] f fd
  g_all_powers : ∃ f fd, mg "_all_powers" = some (.ref f) ∧ FunD K "_all_powers" "_all_powers" (defArgs s_all_powers) (defBody s_all_powers) (defScope s_all_powers) [] [] f fd
  g_tables : ∃ f fd, mg "_tables" = some (.ref f) ∧ FunD K "_tables" "_tables" (defArgs s_tables) (defBody s_tables) (defScope s_tables) [] [] f fd
  g_law_cells : ∃ f fd, mg "_law_cells" = some (.ref f) ∧ FunD K "_law_cells" "_law_cells" (defArgs s_law_cells) (defBody s_law_cells) (defScope s_law_cells) [] [] f fd
  g_law_draw : ∃ f fd, mg "_law_draw" = some (.ref f) ∧ FunD K "_law_draw" "_law_draw" (defArgs s_law_draw) (defBody s_law_draw) (defScope s_law_draw) [] [] f fd
  g_law_prime : ∃ f fd, mg "_law_prime" = some (.ref f) ∧ FunD K "_law_prime" "_law_prime" (defArgs s_law_prime) (defBody s_law_prime) (defScope s_law_prime) [] [] f fd
  g_law_choice : ∃ f fd, mg "_law_choice" = some (.ref f) ∧ FunD K "_law_choice" "_law_choice" (defArgs s_law_choice) (defBody s_law_choice) (defScope s_law_choice) [] [] f fd
  g_law_plus : ∃ f fd, mg "_law_plus" = some (.ref f) ∧ FunD K "_law_plus" "_law_plus" (defArgs s_law_plus) (defBody s_law_plus) (defScope s_law_plus) [] [] f fd
  g_law_minus : ∃ f fd, mg "_law_minus" = some (.ref f) ∧ FunD K "_law_minus" "_law_minus" (defArgs s_law_minus) (defBody s_law_minus) (defScope s_law_minus) [] [] f fd
  g_law_product : ∃ f fd, mg "_law_product" = some (.ref f) ∧ FunD K "_law_product" "_law_product" (defArgs s_law_product) (defBody s_law_product) (defScope s_law_product) [] [] f fd
  g_law_tables : ∃ f fd, mg "_law_tables" = some (.ref f) ∧ FunD K "_law_tables" "_law_tables" (defArgs s_law_tables) (defBody s_law_tables) (defScope s_law_tables) [] [] f fd
  g_law_times : ∃ f fd, mg "_law_times" = some (.ref f) ∧ FunD K "_law_times" "_law_times" (defArgs s_law_times) (defBody s_law_times) (defScope s_law_times) [] [] f fd
  g_law_inverse : ∃ f fd, mg "_law_inverse" = some (.ref f) ∧ FunD K "_law_inverse" "_law_inverse" (defArgs s_law_inverse) (defBody s_law_inverse) (defScope s_law_inverse) [] [] f fd
  g_law_dot : ∃ f fd, mg "_law_dot" = some (.ref f) ∧ FunD K "_law_dot" "_law_dot" (defArgs s_law_dot) (defBody s_law_dot) (defScope s_law_dot) [] [] f fd
  g_law_cross : ∃ f fd, mg "_law_cross" = some (.ref f) ∧ FunD K "_law_cross" "_law_cross" (defArgs s_law_cross) (defBody s_law_cross) (defScope s_law_cross) [] [] f fd
  g_law_bracket : ∃ f fd, mg "_law_bracket" = some (.ref f) ∧ FunD K "_law_bracket" "_law_bracket" (defArgs s_law_bracket) (defBody s_law_bracket) (defScope s_law_bracket) [] [] f fd
  g_law_same : ∃ f fd, mg "_law_same" = some (.ref f) ∧ FunD K "_law_same" "_law_same" (defArgs s_law_same) (defBody s_law_same) (defScope s_law_same) [] [] f fd
  g_law_vector : ∃ f fd, mg "_law_vector" = some (.ref f) ∧ FunD K "_law_vector" "_law_vector" (defArgs s_law_vector) (defBody s_law_vector) (defScope s_law_vector) [] [] f fd
  g_law_drawn : ∃ f fd, mg "_law_drawn" = some (.ref f) ∧ FunD K "_law_drawn" "_law_drawn" (defArgs s_law_drawn) (defBody s_law_drawn) (defScope s_law_drawn) [] [] f fd
  g_law_unlike : ∃ f fd, mg "_law_unlike" = some (.ref f) ∧ FunD K "_law_unlike" "_law_unlike" (defArgs s_law_unlike) (defBody s_law_unlike) (defScope s_law_unlike) [] [] f fd
  g_law_beside : ∃ f fd, mg "_law_beside" = some (.ref f) ∧ FunD K "_law_beside" "_law_beside" (defArgs s_law_beside) (defBody s_law_beside) (defScope s_law_beside) [] [] f fd
  g_law_mix : ∃ f fd, mg "_law_mix" = some (.ref f) ∧ FunD K "_law_mix" "_law_mix" (defArgs s_law_mix) (defBody s_law_mix) (defScope s_law_mix) [] [] f fd
  g_law_spanning : ∃ f fd, mg "_law_spanning" = some (.ref f) ∧ FunD K "_law_spanning" "_law_spanning" (defArgs s_law_spanning) (defBody s_law_spanning) (defScope s_law_spanning) [] [] f fd
  g_law_carried : ∃ f fd, mg "_law_carried" = some (.ref f) ∧ FunD K "_law_carried" "_law_carried" (defArgs s_law_carried) (defBody s_law_carried) (defScope s_law_carried) [] [] f fd
  g_law_gcd : ∃ f fd, mg "_law_gcd" = some (.ref f) ∧ FunD K "_law_gcd" "_law_gcd" (defArgs s_law_gcd) (defBody s_law_gcd) (defScope s_law_gcd) [] [] f fd
  g_law_fraction : ∃ f fd, mg "_law_fraction" = some (.ref f) ∧ FunD K "_law_fraction" "_law_fraction" (defArgs s_law_fraction) (defBody s_law_fraction) (defScope s_law_fraction) [] [] f fd
  g_law_products : ∃ f fd, mg "_law_products" = some (.ref f) ∧ FunD K "_law_products" "_law_products" (defArgs s_law_products) (defBody s_law_products) (defScope s_law_products) [] [] f fd
  g_law_ratio : ∃ f fd, mg "_law_ratio" = some (.ref f) ∧ FunD K "_law_ratio" "_law_ratio" (defArgs s_law_ratio) (defBody s_law_ratio) (defScope s_law_ratio) [] [] f fd
  g_law_given : ∃ f fd, mg "_law_given" = some (.ref f) ∧ FunD K "_law_given" "_law_given" (defArgs s_law_given) (defBody s_law_given) (defScope s_law_given) [] [] f fd
  g_law_answers : ∃ f fd, mg "_law_answers" = some (.ref f) ∧ FunD K "_law_answers" "_law_answers" (defArgs s_law_answers) (defBody s_law_answers) (defScope s_law_answers) [] [] f fd
  g_law_asked : ∃ f fd, mg "_law_asked" = some (.ref f) ∧ FunD K "_law_asked" "_law_asked" (defArgs s_law_asked) (defBody s_law_asked) (defScope s_law_asked) [] [] f fd
  g_law_share : ∃ f fd, mg "_law_share" = some (.ref f) ∧ FunD K "_law_share" "_law_share" (defArgs s_law_share) (defBody s_law_share) (defScope s_law_share) [] [] f fd
  g_law_side : ∃ f fd, mg "_law_side" = some (.ref f) ∧ FunD K "_law_side" "_law_side" (defArgs s_law_side) (defBody s_law_side) (defScope s_law_side) [] [] f fd
  g_law : ∃ f fd, mg "law" = some (.ref f) ∧ FunD K "law" "law" (defArgs s_law) (defBody s_law) (defScope s_law) [] [] f fd
  me_Finite_inv : ∃ f fd, Meth K (He.ga K "Finite") "inv" f ∧ FunD K "inv" "Finite.inv" (defArgs s_Finite_inv) (defBody s_Finite_inv) (defScope s_Finite_inv) [] [] f fd
  me_Finite_is_zero : ∃ f fd, Meth K (He.ga K "Finite") "is_zero" f ∧ FunD K "is_zero" "Finite.is_zero" (defArgs s_Finite_is_zero) (defBody s_Finite_is_zero) (defScope s_Finite_is_zero) [] [] f fd
  me_Finite_minus : ∃ f fd, Meth K (He.ga K "Finite") "minus" f ∧ FunD K "minus" "Finite.minus" (defArgs s_Finite_minus) (defBody s_Finite_minus) (defScope s_Finite_minus) [] [] f fd
  me_Finite_negated : ∃ f fd, Meth K (He.ga K "Finite") "negated" f ∧ FunD K "negated" "Finite.negated" (defArgs s_Finite_negated) (defBody s_Finite_negated) (defScope s_Finite_negated) [] [] f fd
  me_Finite_of : ∃ f fd, Meth K (He.ga K "Finite") "of" f ∧ FunD K "of" "Finite.of" (defArgs s_Finite_of) (defBody s_Finite_of) (defScope s_Finite_of) [] [] f fd
  me_Finite_over : ∃ f fd, Meth K (He.ga K "Finite") "over" f ∧ FunD K "over" "Finite.over" (defArgs s_Finite_over) (defBody s_Finite_over) (defScope s_Finite_over) [] [] f fd
  me_Finite_plus : ∃ f fd, Meth K (He.ga K "Finite") "plus" f ∧ FunD K "plus" "Finite.plus" (defArgs s_Finite_plus) (defBody s_Finite_plus) (defScope s_Finite_plus) [] [] f fd
  me_Finite_times : ∃ f fd, Meth K (He.ga K "Finite") "times" f ∧ FunD K "times" "Finite.times" (defArgs s_Finite_times) (defBody s_Finite_times) (defScope s_Finite_times) [] [] f fd
  me_Fractions_fraction : ∃ f fd, Meth K (He.ga K "Fractions") "fraction" f ∧ FunD K "fraction" "Fractions.fraction" (defArgs s_Fractions_fraction) (defBody s_Fractions_fraction) (defScope s_Fractions_fraction) [] [] f fd
  me_Fractions_inv : ∃ f fd, Meth K (He.ga K "Fractions") "inv" f ∧ FunD K "inv" "Fractions.inv" (defArgs s_Fractions_inv) (defBody s_Fractions_inv) (defScope s_Fractions_inv) [] [] f fd
  me_Fractions_is_zero : ∃ f fd, Meth K (He.ga K "Fractions") "is_zero" f ∧ FunD K "is_zero" "Fractions.is_zero" (defArgs s_Fractions_is_zero) (defBody s_Fractions_is_zero) (defScope s_Fractions_is_zero) [] [] f fd
  me_Fractions_minus : ∃ f fd, Meth K (He.ga K "Fractions") "minus" f ∧ FunD K "minus" "Fractions.minus" (defArgs s_Fractions_minus) (defBody s_Fractions_minus) (defScope s_Fractions_minus) [] [] f fd
  me_Fractions_negated : ∃ f fd, Meth K (He.ga K "Fractions") "negated" f ∧ FunD K "negated" "Fractions.negated" (defArgs s_Fractions_negated) (defBody s_Fractions_negated) (defScope s_Fractions_negated) [] [] f fd
  me_Fractions_over : ∃ f fd, Meth K (He.ga K "Fractions") "over" f ∧ FunD K "over" "Fractions.over" (defArgs s_Fractions_over) (defBody s_Fractions_over) (defScope s_Fractions_over) [] [] f fd
  me_Fractions_plus : ∃ f fd, Meth K (He.ga K "Fractions") "plus" f ∧ FunD K "plus" "Fractions.plus" (defArgs s_Fractions_plus) (defBody s_Fractions_plus) (defScope s_Fractions_plus) [] [] f fd
  me_Fractions_times : ∃ f fd, Meth K (He.ga K "Fractions") "times" f ∧ FunD K "times" "Fractions.times" (defArgs s_Fractions_times) (defBody s_Fractions_times) (defScope s_Fractions_times) [] [] f fd
  cl_Finite : Cls K (He.ga K "Finite")
  cl_Fractions : Cls K (He.ga K "Fractions")
  gc_Finite : mg "Finite" = some (.ref (He.ga K "Finite"))
  gc_Fractions : mg "Fractions" = some (.ref (He.ga K "Fractions"))
  gc_ZeroError : mg "ZeroError" = some (.ref (He.ga K "ZeroError"))
  gi_MOST_PRIME : ∃ t, mg "MOST_PRIME" = some (.int 997 t)
  gi_MOST_SIZE : ∃ t, mg "MOST_SIZE" = some (.int 1024 t)
  na_Finite__lifts : NoAttr K (He.ga K "Finite") "_lifts"
  na_Finite__logs : NoAttr K (He.ga K "Finite") "_logs"
  na_Finite__powers : NoAttr K (He.ga K "Finite") "_powers"
  na_Finite_degree : NoAttr K (He.ga K "Finite") "degree"
  na_Finite_prime : NoAttr K (He.ga K "Finite") "prime"
  na_Finite_size : NoAttr K (He.ga K "Finite") "size"
  b_abs : mg "abs" = none
  b_bool : mg "bool" = none
  b_enumerate : mg "enumerate" = none
  b_int : mg "int" = none
  b_isinstance : mg "isinstance" = none
  b_len : mg "len" = none
  b_list : mg "list" = none
  b_range : mg "range" = none
  b_reversed : mg "reversed" = none
  b_tuple : mg "tuple" = none
  b_zip : mg "zip" = none
  x_ZeroError : PySem.W.excIn K (He.ga K "ZeroError") He.veBase "ValueError.__new__" = true
  k_ZeroError : PySem.W.keepIn K (.ref (He.ga K "ZeroError")) = true
  xb_ZeroError : PySem.W.subIn K (.ref (He.ga K "ZeroError")) (.type "BaseException") = some true
  xt_ZeroError : PySem.W.typeIn K (.ref (He.ga K "ZeroError")) = some (.type "type")
  ii_Ring : ∃ fd, FunD K "__init__" "Ring.__init__" (defArgs s_Ring___init__) (defBody s_Ring___init__) (defScope s_Ring___init__) [] [] (He.ma K (He.ga K "Ring") "__init__") fd
  b_super : mg "super" = none
  si_Field : SupD P K s_Field___init__ "__init__" "Field.__init__" (He.ma K (He.ga K "Field") "__init__") (He.ga K "Field")
  si_Finite : SupD P K s_Finite___init__ "__init__" "Finite.__init__" (He.ma K (He.ga K "Finite") "__init__") (He.ga K "Finite")
  sp_Finite_Finite : SupC K (He.ga K "Finite") (He.ga K "Finite") "__init__" (He.ma K (He.ga K "Field") "__init__")
  sp_Finite_Field : SupC K (He.ga K "Finite") (He.ga K "Field") "__init__" (He.ma K (He.ga K "Ring") "__init__")
  mk_Finite : Mk K (He.ga K "Finite") (He.ma K (He.ga K "Finite") "__init__")
  na_Finite_characteristic : NoAttr K (He.ga K "Finite") "characteristic"
  na_Finite_modulus : NoAttr K (He.ga K "Finite") "modulus"
  si_Fractions : SupD P K s_Fractions___init__ "__init__" "Fractions.__init__" (He.ma K (He.ga K "Fractions") "__init__") (He.ga K "Fractions")
  sp_Fractions_Fractions : SupC K (He.ga K "Fractions") (He.ga K "Fractions") "__init__" (He.ma K (He.ga K "Field") "__init__")
  sp_Fractions_Field : SupC K (He.ga K "Fractions") (He.ga K "Field") "__init__" (He.ma K (He.ga K "Ring") "__init__")
  mk_Fractions : Mk K (He.ga K "Fractions") (He.ma K (He.ga K "Fractions") "__init__")
  na_Fractions_zero : NoAttr K (He.ga K "Fractions") "zero"
  na_Fractions_one : NoAttr K (He.ga K "Fractions") "one"
  na_Fractions_characteristic : NoAttr K (He.ga K "Fractions") "characteristic"
  na_Fractions_size : NoAttr K (He.ga K "Fractions") "size"
  na_Finite_zero : NoAttr K (He.ga K "Finite") "zero"
  na_Finite_one : NoAttr K (He.ga K "Finite") "one"

section
variable {P : Program} {w : World} {K : PySem.W.Frag} {mg : Str → Option Value} {base : Heap}
structure FinS where
  prime : Int
  degree : Int
  size : Int
  modulus : List Int
  powers : List Int
  logs : List Int
  lifts : List Int
deriving DecidableEq, Repr

abbrev ns_Finite : List Str := ["zero", "one", "characteristic", "size", "prime", "degree", "modulus", "_powers", "_logs", "_lifts"]
abbrev sl_Finite (v : FinS) : List Sl := [.val yI (0 : Int), .val yI (1 : Int), .val yI v.prime, .val yI v.size, .val yI v.prime, .val yI v.degree, .val (yT yI) v.modulus, .val (yL yI) v.powers, .val (yL yI) v.logs, .val (yL yI) v.lifts]
abbrev y_Finite (K : PySem.W.Frag) : Ty FinS := yO (He.ga K "Finite") ns_Finite sl_Finite
theorem nd_Finite : ns_Finite.Nodup := by decide
theorem nm_Finite_inv : ("inv" : Str) ∉ ns_Finite := by decide
theorem nm_Finite_is_zero : ("is_zero" : Str) ∉ ns_Finite := by decide
theorem nm_Finite_minus : ("minus" : Str) ∉ ns_Finite := by decide
theorem nm_Finite_negated : ("negated" : Str) ∉ ns_Finite := by decide
theorem nm_Finite_of : ("of" : Str) ∉ ns_Finite := by decide
theorem nm_Finite_over : ("over" : Str) ∉ ns_Finite := by decide
theorem nm_Finite_plus : ("plus" : Str) ∉ ns_Finite := by decide
theorem nm_Finite_times : ("times" : Str) ∉ ns_Finite := by decide
abbrev ns_Fractions : List Str := ["zero", "one", "characteristic", "size"]
abbrev sl_Fractions (v : Unit) : List Sl := [.val (yP yI yI) ((0, 1) : Int × Int), .val (yP yI yI) ((1, 1) : Int × Int), .val yI (0 : Int), .val yI (0 : Int)]
abbrev y_Fractions (K : PySem.W.Frag) : Ty Unit := yO (He.ga K "Fractions") ns_Fractions sl_Fractions
theorem nd_Fractions : ns_Fractions.Nodup := by decide
theorem nm_Fractions_fraction : ("fraction" : Str) ∉ ns_Fractions := by decide
theorem nm_Fractions_inv : ("inv" : Str) ∉ ns_Fractions := by decide
theorem nm_Fractions_is_zero : ("is_zero" : Str) ∉ ns_Fractions := by decide
theorem nm_Fractions_minus : ("minus" : Str) ∉ ns_Fractions := by decide
theorem nm_Fractions_negated : ("negated" : Str) ∉ ns_Fractions := by decide
theorem nm_Fractions_over : ("over" : Str) ∉ ns_Fractions := by decide
theorem nm_Fractions_plus : ("plus" : Str) ∉ ns_Fractions := by decide
theorem nm_Fractions_times : ("times" : Str) ∉ ns_Fractions := by decide
/-- digits: small -/
def Dg (xs : List Int) : Prop := ∀ z ∈ xs, Sz 10 z
theorem len_pre {n : Nat} {pre post : List Int} {x : Int} (e : rng 0 n = pre ++ x :: post) : pre.length < n := by
  have := congrArg List.length e
  rw [rng_length, List.length_append, List.length_cons] at this
  omega
theorem power_of_step {n s s' x : Int} {pre : List Int} (hn : Sz 10 n) (hj : Sz (10 * pre.length + 1) s) (h : (bnd (s * n) fun f => Stp.go (ρ := Int) f) = .go s') : Sz (10 * (pre ++ [x]).length + 1) s' := by
  rw [← Stp.go.inj h]
  refine sz_mono (sz_mul hj hn) ?_
  rw [List.length_append, List.length_singleton]
  omega
theorem power_of_mul {n e s x : Int} {pre post : List Int} (hn : Sz 10 n) (he : e ≤ 20) (q : rng 0 (Int.toNat e) = pre ++ x :: post) (hj : Sz (10 * pre.length + 1) s) : CMulW s n := by
  have := len_pre q
  exact sz_mulW (m := 300) (sz_mono hj (by omega)) hn
theorem pm_mul {m x y : Int} (hm : Sz 20 m) (hx : 0 ≤ x ∧ x < m) (hy : 0 ≤ y ∧ y < m) : CMulW x y := sz_mulW (sz_le hm (by omega)) (sz_le hm (by omega))
theorem pm_0 {m n f g : Int} (hm : 0 < m) (e1 : f = 1 % m) (e2 : g = n % m) : (0 ≤ f ∧ f < m) ∧ 0 ≤ g ∧ g < m := by
  subst e1 e2
  exact ⟨⟨Int.emod_nonneg _ (by omega), Int.emod_lt_of_pos _ hm⟩, Int.emod_nonneg _ (by omega), Int.emod_lt_of_pos _ hm⟩
theorem pm_step {m : Int} {s s' : Int × Int × Int} (hm : 0 < m) (hj : (0 ≤ s.1 ∧ s.1 < m) ∧ 0 ≤ s.2.1 ∧ s.2.1 < m) (hc : 0 < s.2.2) (e : (bnd (if ((s.2.2 % (2 : Int)) = (1 : Int)) then ((s.1 * s.2.1) % m) else s.1) fun found_2 =>
  bnd ((s.2.1 * s.2.1) % m) fun factor_2 =>
  bnd (s.2.2 / (2 : Int)) fun left_2 =>
  Stp.go (ρ := Int) (found_2, factor_2, left_2)) = .go s') : ((0 ≤ s'.1 ∧ s'.1 < m) ∧ 0 ≤ s'.2.1 ∧ s'.2.1 < m) ∧ s'.2.2.toNat < s.2.2.toNat := by
  rw [← Stp.go.inj e]
  have md : ∀ x : Int, 0 ≤ x % m ∧ x % m < m := fun x => ⟨Int.emod_nonneg _ (by omega), Int.emod_lt_of_pos _ hm⟩
  refine ⟨⟨?_, md _⟩, by show (s.2.2 / 2).toNat < _; omega⟩
  show 0 ≤ (if _ then _ else _ : Int) ∧ (if _ then _ else _ : Int) < m
  split
  · exact md _
  · exact hj.1
theorem ip_mul {d : Int} (hj : 2 ≤ d ∧ d ≤ 40) : CMulW d d := sz_mulW (m := 10) (n := 10) (by unfold Sz; omega) (by unfold Sz; omega)
theorem ip_step {n s s' : Int} (hn : n < 1024) (hj : 2 ≤ s ∧ s ≤ 40) (hc : s * s ≤ n) (e : (if ((n % s) = (0 : Int)) then
  Stp.ret (false)
  else
  bnd (if (s = (2 : Int)) then (s + (1 : Int)) else (s + (2 : Int))) fun divisor_2 =>
  .go divisor_2) = .go s') : (2 ≤ s' ∧ s' ≤ 40) ∧ (100 - s').toNat < (100 - s).toNat := by
  have h32 : s < 33 := by
    rcases Int.lt_or_le s 33 with h | h
    · exact h
    · have := Int.mul_le_mul h h (by omega) (by omega)
      omega
  split at e
  · cases e
  · have e2 := Stp.go.inj e
    subst e2
    split <;> omega
theorem bd_step {b : Int} {s s' : Int × List Int} {x : Int} {pre : List Int} (hj : s.2.length ≤ pre.length) (h : (bnd (s.1 / b) fun number_1 => Stp.go (ρ := List Int) (number_1, (s.2 ++ [(s.1 % b)]))) = .go s') : s'.2.length ≤ (pre ++ [x]).length := by
  rw [← Stp.go.inj h]
  show (s.2 ++ [_]).length ≤ _
  rw [List.length_append, List.length_append]
  exact Nat.add_le_add_right hj _
theorem bd_len {m : Int} {s : Int × List Int} {x : Int} {pre post : List Int} (hm : m ≤ 20) (e : rng 0 (Int.toNat m) = pre ++ x :: post) (hj : s.2.length ≤ pre.length) : s.2.length < sizeLine := by
  have := len_pre e
  exact Nat.lt_of_lt_of_le (m := 30) (by omega) (by decide)
theorem bn_dg {ds pre post : List Int} {x : Int} (h : Dg ds) (e : List.reverse ds = pre ++ x :: post) : Sz 10 x := h x (by rw [← List.mem_reverse, e]; simp)
theorem bn_step {b s s' x : Int} {pre : List Int} (hb : Sz 10 b) (hx : Sz 10 x) (hj : Sz (11 * pre.length) s) (h : (bnd ((s * b) + x) fun number_2 => Stp.go (ρ := Int) number_2) = .go s') : Sz (11 * (pre ++ [x]).length) s' := by
  rw [← Stp.go.inj h]
  refine sz_mono (sz_add (sz_mul hj hb) (sz_mono hx (by omega))) ?_
  rw [List.length_append, List.length_singleton]
  omega
theorem bn_mul {b s x : Int} {ds pre post : List Int} (hb : Sz 10 b) (hl : ds.length ≤ 20) (e : List.reverse ds = pre ++ x :: post) (hj : Sz (11 * pre.length) s) : CMulW s b := by
  have := congrArg List.length e
  rw [List.length_reverse, List.length_append, List.length_cons] at this
  exact sz_mulW (m := 300) (sz_mono hj (by omega)) hb
theorem tr_mu {s s' : List Int} (hc : s ≠ [] ∧ ix s (-1) = 0) (e : Stp.go (ρ := List Int) (List.dropLast s) = .go s') : s'.length < s.length := by
  rw [← Stp.go.inj e, List.length_dropLast]
  have := List.length_pos_iff.mpr hc.1
  omega
theorem tm_ne {m : List Int} {s : List Int} {A B C D E F : Prop} {n : Nat} (hp : A ∧ B ∧ C ∧ D ∧ E ∧ F ∧ n + 1 = m.length ∧ 2 ≤ m.length) (hj : Dg s ∧ s.length + 1 = m.length) : s ≠ [] := fun z => by
  have h1 := hp.2.2.2.2.2.2.2
  have h2 := hj.2
  rw [z] at h2
  simp at h2
  omega
theorem dg_mod {p x : Int} (h : 0 < p) (hs : Sz 10 p) : Sz 10 (x % p) := sz_le hs (by
  have := Int.emod_nonneg x (show p ≠ 0 by omega)
  have := Int.emod_lt_of_pos x h
  omega)
theorem zip3_len {α : Type} {a b c : List α} {n : Nat} (h1 : a.length = n) (h2 : n ≤ b.length) (h3 : c.length = n) : (List.zip a (List.zip b c)).length = n := by
  rw [List.length_zip, List.length_zip]
  omega
/-- the six fields of 4, 8 and 9 elements -/
def sixF : List FinS := [⟨2, 2, 4, [1, 1, 1], [1, 2, 3, 1, 2, 3], [0, 0, 1, 2], [-1, 2, 1]⟩,
  ⟨2, 3, 8, [1, 1, 0, 1], [1, 2, 4, 3, 6, 7, 5, 1, 2, 4, 3, 6, 7, 5], [0, 0, 1, 3, 2, 6, 4, 5], [-1, 3, 6, 1, 5, 4, 2]⟩,
  ⟨2, 3, 8, [1, 0, 1, 1], [1, 2, 4, 5, 7, 3, 6, 1, 2, 4, 5, 7, 3, 6], [0, 0, 1, 5, 2, 3, 6, 4], [-1, 5, 3, 2, 6, 1, 4]⟩,
  ⟨3, 2, 9, [1, 0, 1], [1, 4, 6, 7, 2, 8, 3, 5, 1, 4, 6, 7, 2, 8, 3, 5], [0, 0, 4, 6, 1, 7, 2, 3, 5], [4, 7, 3, 5, -1, 2, 1, 6]⟩,
  ⟨3, 2, 9, [2, 1, 1], [1, 3, 7, 8, 2, 6, 5, 4, 1, 3, 7, 8, 2, 6, 5, 4], [0, 0, 4, 1, 7, 6, 5, 2, 3], [4, 7, 3, 5, -1, 2, 1, 6]⟩,
  ⟨3, 2, 9, [2, 2, 1], [1, 3, 4, 7, 2, 6, 8, 5, 1, 3, 4, 7, 2, 6, 8, 5], [0, 0, 4, 1, 2, 7, 5, 3, 6], [4, 2, 7, 6, -1, 3, 5, 1]⟩]
/-- a field of these laws -/
def FinOk (F : FinS) : Prop := F ∈ sixF ∨ ∃ p c : Int, (2 ≤ p ∧ p ≤ 997 ∧ 0 ≤ c ∧ c < p ∧ primeB p.toNat = true) ∧ F = ⟨p, 1, p, [c, 1], [], [], []⟩
def El (F : FinS) (x : Int) : Prop := 0 ≤ x ∧ x < F.size
theorem six_b : ∀ F ∈ sixF, F.degree ≠ 1 ∧ 2 ≤ F.prime ∧ F.prime ≤ 3 ∧ 4 ≤ F.size ∧ F.size ≤ 9 ∧ F.prime ≤ F.size := by decide +kernel
theorem fo_p {F : FinS} (h : FinOk F) : 0 < F.prime := by
  rcases h with h | ⟨p, c, h, rfl⟩
  · have := six_b F h
    omega
  · show 0 < p
    omega
theorem fo_six {F : FinS} (h : FinOk F) (h1 : ¬ F.degree = 1) : F ∈ sixF := by
  rcases h with h | ⟨p, c, h, rfl⟩
  · exact h
  · exact absurd rfl h1
theorem fo_one {F : FinS} (h : FinOk F) (h1 : F.degree = 1) : 2 ≤ F.prime ∧ F.prime ≤ 997 ∧ F.size = F.prime := by
  rcases h with h | ⟨p, c, h, rfl⟩
  · exact absurd h1 (six_b F h).1
  · exact ⟨h.1, h.2.1, rfl⟩
instance (xs : List Int) (i : Int) : Decidable (Inb xs i) := by unfold Inb; exact inferInstance
theorem el_rng {F : FinS} {x : Int} (h : El F x) : x ∈ rng 0 F.size.toNat := by
  unfold rng
  rw [List.mem_map]
  refine ⟨x.toNat, ?_, ?_⟩
  · rw [List.mem_range]
    have := h.1
    have := h.2
    omega
  · have := h.1
    omega
theorem six_log : ∀ F ∈ sixF, (∀ a ∈ rng 0 F.size.toNat, Inb F.logs a) ∧ Inb F.logs (F.prime - 1) := by decide +kernel
theorem six_walk : ∀ F ∈ sixF, ∀ a ∈ rng 0 F.size.toNat, a ≠ 0 → Inb F.powers (ix F.logs a + ix F.logs (F.prime - 1)) ∧ Inb F.powers (F.size - 1 - ix F.logs a) ∧ ∀ b ∈ rng 0 F.size.toNat, b ≠ 0 → Inb F.powers (ix F.logs a + ix F.logs b) ∧ Inb F.lifts (ix F.logs b - ix F.logs a) ∧ (0 ≤ ix F.lifts (ix F.logs b - ix F.logs a) → Inb F.powers (ix F.logs a + ix F.lifts (ix F.logs b - ix F.logs a))) := by decide +kernel
theorem fw_log {F : FinS} {x : Int} (h : FinOk F) (h1 : ¬ F.degree = 1) (hx : El F x) : Inb F.logs x := (six_log F (fo_six h h1)).1 x (el_rng hx)
theorem fw_logp {F : FinS} (h : FinOk F) (h1 : ¬ F.degree = 1) : Inb F.logs (F.prime - 1) := (six_log F (fo_six h h1)).2
theorem fw_lift {F : FinS} {x y t : Int} (h : FinOk F) (h1 : ¬ F.degree = 1) (hx : El F x) (hy : El F y) (x0 : ¬ x = 0) (y0 : ¬ y = 0) (e : t = ix F.logs x) : Inb F.lifts (ix F.logs y - t) := by
  rw [e]
  exact ((six_walk F (fo_six h h1) x (el_rng hx) x0).2.2 y (el_rng hy) y0).2.1
theorem fw_pow {F : FinS} {x y t u : Int} (h : FinOk F) (h1 : ¬ F.degree = 1) (hx : El F x) (hy : El F y) (x0 : ¬ x = 0) (y0 : ¬ y = 0) (e : t = ix F.logs x) (e2 : u = ix F.lifts (ix F.logs y - t)) (hu : ¬ u < 0) : Inb F.powers (t + u) := by
  rw [e2, e] at *
  exact ((six_walk F (fo_six h h1) x (el_rng hx) x0).2.2 y (el_rng hy) y0).2.2 (by omega)
theorem fw_mul {F : FinS} {x y : Int} (h : FinOk F) (h1 : ¬ F.degree = 1) (hx : El F x) (hy : El F y) (x0 : ¬ x = 0) (y0 : ¬ y = 0) : Inb F.powers (ix F.logs x + ix F.logs y) := ((six_walk F (fo_six h h1) x (el_rng hx) x0).2.2 y (el_rng hy) y0).1
theorem fw_neg {F : FinS} {x : Int} (h : FinOk F) (h1 : ¬ F.degree = 1) (hx : El F x) (x0 : ¬ x = 0) : Inb F.powers (ix F.logs x + ix F.logs (F.prime - 1)) := (six_walk F (fo_six h h1) x (el_rng hx) x0).1
theorem fw_inv {F : FinS} {x : Int} (h : FinOk F) (h1 : ¬ F.degree = 1) (hx : El F x) (x0 : ¬ x = 0) : Inb F.powers (F.size - 1 - ix F.logs x) := (six_walk F (fo_six h h1) x (el_rng hx) x0).2.1
theorem fo_mulW {F : FinS} {x y : Int} (h : FinOk F) (h1 : F.degree = 1) (hx : El F x) (hy : El F y) : CMulW x y := by
  have h2 := fo_one h h1
  have h3 := hx.1
  have h4 := hx.2
  have h5 := hy.1
  have h6 := hy.2
  exact sz_mulW (m := 10) (n := 10) (by unfold Sz; omega) (by unfold Sz; omega)
theorem fo_pm {F : FinS} (h : FinOk F) (h1 : F.degree = 1) : 0 < F.prime ∧ Sz 20 F.prime := by
  have h2 := fo_one h h1
  exact ⟨by omega, by unfold Sz; omega⟩
/-- the pool of the law: cells behind three numbers: draws so far, what is left, where -/
def PlOk (s : List Int) : Prop := 3 ≤ s.length ∧ 2 ≤ ix s 2 ∧ 0 ≤ ix s 0 ∧ ix s 0 < 2 ^ 60
theorem dr_0 {s t : List Int} (h : PlOk s) (e : t = setI s 0 (ix s 0 + 1)) : t.length = s.length ∧ ix t 0 = ix s 0 + 1 ∧ ix t 2 = ix s 2 := by
  have h1 := h.1
  have a1 := ix_setN (xs := s) (n := 0) (x := ix s 0 + 1) (m := 0) (by omega) (by omega)
  have a2 := ix_setN (xs := s) (n := 0) (x := ix s 0 + 1) (m := 2) (by omega) (by omega)
  rw [e]
  exact ⟨setI_len' _ _ _, a1, a2⟩
theorem dr_2 {s t u : List Int} (h : PlOk s) (e : t = setI s 0 (ix s 0 + 1)) (e2 : u = setI t 2 (ix t 2 + 1)) : u.length = s.length ∧ ix u 0 = ix s 0 + 1 ∧ ix u 2 = ix s 2 + 1 := by
  have h1 := h.1
  obtain ⟨k1, k2, k3⟩ := dr_0 h e
  have a1 := ix_setN (xs := t) (n := 2) (x := ix t 2 + 1) (m := 0) (by omega) (by omega)
  have a2 := ix_setN (xs := t) (n := 2) (x := ix t 2 + 1) (m := 2) (by omega) (by omega)
  rw [e2]
  refine ⟨by rw [setI_len', k1], ?_, ?_⟩
  · rw [← k2]; exact a1
  · rw [← k3]; exact a2
theorem dr_mul {s t u : List Int} (h : PlOk s) (e : t = setI s 0 (ix s 0 + 1)) (e2 : u = setI t 2 (ix t 2 + 1)) : CMulW 101 (ix u 0) := by
  rw [(dr_2 h e e2).2.1]
  exact sz_mulW (m := 7) (n := 61) (by unfold Sz; omega) (by have := h.2.2; unfold Sz; omega)
theorem dr_at {s t u v : List Int} {y : Int} (h : PlOk s) (e : t = setI s 0 (ix s 0 + 1)) (e2 : u = setI t 2 (ix t 2 + 1)) (e3 : v = setI u 1 y) (hl : ix v 2 < (v.length : Int)) : Inb v (ix v 2) := by
  have h1 := h.1
  have h2 := h.2.1
  obtain ⟨k1, k2, k3⟩ := dr_2 h e e2
  have a2 := ix_setN (xs := u) (n := 1) (x := y) (m := 2) (by omega) (by omega)
  have a3 : ix v 2 = ix u 2 := by rw [e3]; exact a2
  unfold Inb
  omega
def Eo (q x : Int) : Prop := 0 ≤ x ∧ x < q
def Vq (q : Int) (v : List Int) : Prop := ∀ x ∈ v, Eo q x
def V3q (q : Int) (v : List Int) : Prop := v.length = 3 ∧ Vq q v
def V6q (q : Int) (v : List Int) : Prop := v.length = 6 ∧ Vq q v
def T3q (q : Int) (t : List (List Int)) : Prop := t.length = 3 ∧ ∀ v ∈ t, V3q q v
/-- what is drawn moves the pool by at most k -/
def Pl2 (s s' : List Int) (k : Int) : Prop := 3 ≤ s'.length ∧ 2 ≤ ix s' 2 ∧ 0 ≤ ix s' 0 ∧ ix s' 0 ≤ ix s 0 + k
def PlB (n : Int) (s : List Int) : Prop := 3 ≤ s.length ∧ 2 ≤ ix s 2 ∧ 0 ≤ ix s 0 ∧ ix s 0 ≤ n
theorem plb_ok {n : Int} {s : List Int} (h : PlB n s) (hn : n ≤ 20000 := by omega) : PlOk s := ⟨h.1, h.2.1, h.2.2.1, by have := h.2.2.2; omega⟩
local macro_rules | `(tactic| decreasing_trivial_pre_omega) => `(tactic| (simp only [Pl2, PlB, PlOk] at *; omega))
theorem inb_v3 {q i : Int} {v : List Int} (h : V3q q v) (h0 : 0 ≤ i) (h1 : i < 3) : Inb v i := ⟨by omega, by rw [h.1]; exact h1⟩
theorem inb_v6 {q i : Int} {v : List Int} (h : V6q q v) (h0 : 0 ≤ i) (h1 : i < 6) : Inb v i := ⟨by omega, by rw [h.1]; exact h1⟩
theorem eo_v3 {q i : Int} {v : List Int} (h : V3q q v) (h0 : 0 ≤ i) (h1 : i < 3) : Eo q (ix v i) := h.2 _ (ix_mem (inb_v3 h h0 h1))
theorem eo_v6 {q i : Int} {v : List Int} (h : V6q q v) (h0 : 0 ≤ i) (h1 : i < 6) : Eo q (ix v i) := h.2 _ (ix_mem (inb_v6 h h0 h1))
theorem v3_len {q : Int} {v : List Int} (h : V3q q v) : v.length = 3 := h.1
theorem v6_len {q : Int} {v : List Int} (h : V6q q v) : v.length = 6 := h.1
theorem v3_mk {q a b c : Int} (ha : Eo q a) (hb : Eo q b) (hc : Eo q c) : V3q q [a, b, c] := ⟨rfl, fun x hx => by
  simp only [List.mem_cons, List.not_mem_nil, or_false] at hx
  rcases hx with h | h | h <;> rw [h] <;> assumption⟩
theorem v6_mk {q a b c d e f : Int} (ha : Eo q a) (hb : Eo q b) (hc : Eo q c) (hd : Eo q d) (he : Eo q e) (hf : Eo q f) : V6q q [a, b, c, d, e, f] := ⟨rfl, fun x hx => by
  simp only [List.mem_cons, List.not_mem_nil, or_false] at hx
  rcases hx with h | h | h | h | h | h <;> rw [h] <;> assumption⟩
theorem v3_vq {q : Int} {v : List Int} (h : V3q q v) : Vq q v := h.2
theorem v6_vq {q : Int} {v : List Int} (h : V6q q v) : Vq q v := h.2
theorem el_of {F : FinS} {x : Int} (h : Eo F.size x) : El F x := h
theorem eo_mem {q x : Int} {v : List Int} (h : Vq q v) (hx : x ∈ v) : Eo q x := h x hx
theorem v3_t {q i : Int} {t : List (List Int)} (h : T3q q t) (h0 : 0 ≤ i) (h1 : i < 3) : V3q q (ix t i) := h.2 _ (ix_mem ⟨by omega, by rw [h.1]; exact h1⟩)
theorem t3_mk {q : Int} {a b c : List Int} (ha : V3q q a) (hb : V3q q b) (hc : V3q q c) : T3q q [a, b, c] := ⟨rfl, fun x hx => by
  simp only [List.mem_cons, List.not_mem_nil, or_false] at hx
  rcases hx with h | h | h <;> rw [h] <;> assumption⟩
theorem t3_len {q : Int} {t : List (List Int)} (h : T3q q t) : t.length = 3 := h.1
local macro_rules | `(tactic| array_get_dec) => `(tactic| first | (assumption) | fail)
local macro_rules | `(tactic| array_get_dec) => `(tactic| first | ((with_reducible apply v3_len <;> array_get_dec)) | fail)
local macro_rules | `(tactic| array_get_dec) => `(tactic| first | ((with_reducible apply v6_len <;> array_get_dec)) | fail)
local macro_rules | `(tactic| array_get_dec) => `(tactic| first | ((with_reducible apply t3_len <;> array_get_dec)) | fail)
local macro_rules | `(tactic| array_get_dec) => `(tactic| first | ((with_reducible refine v3_mk ?_ ?_ ?_ <;> array_get_dec)) | fail)
local macro_rules | `(tactic| array_get_dec) => `(tactic| first | ((with_reducible refine v6_mk ?_ ?_ ?_ ?_ ?_ ?_ <;> array_get_dec)) | fail)
local macro_rules | `(tactic| array_get_dec) => `(tactic| first | ((with_reducible refine v3_vq ?_ ; array_get_dec)) | fail)
local macro_rules | `(tactic| array_get_dec) => `(tactic| first | ((with_reducible refine v6_vq ?_ ; array_get_dec)) | fail)
local macro_rules | `(tactic| array_get_dec) => `(tactic| first | ((with_reducible refine eo_v3 ?_ ?_ ?_) <;> (first | omega | array_get_dec)) | fail)
local macro_rules | `(tactic| array_get_dec) => `(tactic| first | ((with_reducible refine eo_v6 ?_ ?_ ?_) <;> (first | omega | array_get_dec)) | fail)
local macro_rules | `(tactic| array_get_dec) => `(tactic| first | ((with_reducible refine v3_t ?_ ?_ ?_) <;> (first | omega | array_get_dec)) | fail)
local macro_rules | `(tactic| array_get_dec) => `(tactic| first | ((with_reducible apply inb_v3); assumption; omega; omega) | fail)
local macro_rules | `(tactic| array_get_dec) => `(tactic| first | ((with_reducible refine el_of ?_ ; array_get_dec)) | fail)
local macro_rules | `(tactic| array_get_dec) => `(tactic| first | ((with_reducible apply And.intro <;> array_get_dec)) | fail)
theorem v3_line {q : Int} {v : List Int} (h : V3q q v) : v.length ≤ sizeLine := by rw [h.1]; decide
theorem v6_line {q : Int} {v : List Int} (h : V6q q v) : v.length ≤ sizeLine := by rw [h.1]; decide
theorem t3_line {q : Int} {v : List (List Int)} (h : T3q q v) : v.length ≤ sizeLine := by rw [h.1]; decide
theorem zip_line {α β : Type} {a : List α} {b : List β} (h : a.length ≤ sizeLine) : (List.zip a b).length ≤ sizeLine := by
  rw [List.length_zip]
  exact Nat.le_trans (Nat.min_le_left _ _) h
theorem rng_line {lo : Int} {n : Nat} (h : n ≤ 1000) : (rng lo n).length ≤ sizeLine := by rw [rng_length]; exact Nat.le_trans h (by decide)
local macro_rules | `(tactic| array_get_dec) => `(tactic| first | ((with_reducible apply v3_line); assumption) | fail)
local macro_rules | `(tactic| array_get_dec) => `(tactic| first | ((with_reducible apply v6_line); assumption) | fail)
local macro_rules | `(tactic| array_get_dec) => `(tactic| first | ((with_reducible apply t3_line); assumption) | fail)
local macro_rules | `(tactic| array_get_dec) => `(tactic| first | ((with_reducible apply zip_line); array_get_dec) | fail)
local macro_rules | `(tactic| array_get_dec) => `(tactic| first | ((with_reducible refine rng_line ?_) ; omega) | fail)
/-- the laws' own small fields: p, the size, the table of products -/
def owns6 : List (Int × Int × List (List Int)) := [(2, 4, [[0, 0, 0, 0], [0, 1, 2, 3], [0, 2, 3, 1], [0, 3, 1, 2]]),
  (2, 8, [[0, 0, 0, 0, 0, 0, 0, 0], [0, 1, 2, 3, 4, 5, 6, 7], [0, 2, 4, 6, 3, 1, 7, 5], [0, 3, 6, 5, 7, 4, 1, 2], [0, 4, 3, 7, 6, 2, 5, 1], [0, 5, 1, 4, 2, 7, 3, 6], [0, 6, 7, 1, 5, 3, 2, 4], [0, 7, 5, 2, 1, 6, 4, 3]]),
  (2, 8, [[0, 0, 0, 0, 0, 0, 0, 0], [0, 1, 2, 3, 4, 5, 6, 7], [0, 2, 4, 6, 5, 7, 1, 3], [0, 3, 6, 5, 1, 2, 7, 4], [0, 4, 5, 1, 7, 3, 2, 6], [0, 5, 7, 2, 3, 6, 4, 1], [0, 6, 1, 7, 2, 4, 3, 5], [0, 7, 3, 4, 6, 1, 5, 2]]),
  (3, 9, [[0, 0, 0, 0, 0, 0, 0, 0, 0], [0, 1, 2, 3, 4, 5, 6, 7, 8], [0, 2, 1, 6, 8, 7, 3, 5, 4], [0, 3, 6, 2, 5, 8, 1, 4, 7], [0, 4, 8, 5, 6, 1, 7, 2, 3], [0, 5, 7, 8, 1, 3, 4, 6, 2], [0, 6, 3, 1, 7, 4, 2, 8, 5], [0, 7, 5, 4, 2, 6, 8, 3, 1], [0, 8, 4, 7, 3, 2, 5, 1, 6]]),
  (3, 9, [[0, 0, 0, 0, 0, 0, 0, 0, 0], [0, 1, 2, 3, 4, 5, 6, 7, 8], [0, 2, 1, 6, 8, 7, 3, 5, 4], [0, 3, 6, 7, 1, 4, 5, 8, 2], [0, 4, 8, 1, 5, 6, 2, 3, 7], [0, 5, 7, 4, 6, 2, 8, 1, 3], [0, 6, 3, 5, 2, 8, 7, 4, 1], [0, 7, 5, 8, 3, 1, 4, 2, 6], [0, 8, 4, 2, 7, 3, 1, 6, 5]]),
  (3, 9, [[0, 0, 0, 0, 0, 0, 0, 0, 0], [0, 1, 2, 3, 4, 5, 6, 7, 8], [0, 2, 1, 6, 8, 7, 3, 5, 4], [0, 3, 6, 4, 7, 1, 8, 2, 5], [0, 4, 8, 7, 2, 3, 5, 6, 1], [0, 5, 7, 1, 3, 8, 2, 4, 6], [0, 6, 3, 8, 5, 2, 4, 1, 7], [0, 7, 5, 2, 6, 4, 1, 8, 3], [0, 8, 4, 5, 1, 6, 7, 3, 2]])]
/-- an own field: one of the six, or a prime field -/
def OwK (o : Int × Int × List (List Int)) : Prop := o ∈ owns6 ∨ ∃ p : Int, 2 ≤ p ∧ p ≤ 997 ∧ primeB p.toNat = true ∧ o = (p, p, [])
theorem ow6_b : ∀ o ∈ owns6, 2 ≤ o.1 ∧ o.1 ≤ 3 ∧ o.1 < o.2.1 ∧ o.2.1 ≤ 9 ∧ (o.2.2.length : Int) = o.2.1 ∧ ∀ r ∈ o.2.2, (r.length : Int) = o.2.1 ∧ ∀ x ∈ r, 0 ≤ x ∧ x < o.2.1 := by decide +kernel
theorem ow_p {o : Int × Int × List (List Int)} (h : OwK o) : 2 ≤ o.1 ∧ o.1 ≤ 997 ∧ o.1 ≤ o.2.1 ∧ o.2.1 ≤ 997 := by
  rcases h with h | ⟨p, h1, h2, h3, rfl⟩
  · have := ow6_b o h
    omega
  · exact ⟨h1, h2, Int.le_refl _, h2⟩
theorem eo_0 {o : Int × Int × List (List Int)} (h : OwK o) : Eo o.2.1 0 := by
  have := ow_p h
  exact ⟨by omega, by omega⟩
theorem eo_1 {o : Int × Int × List (List Int)} (h : OwK o) : Eo o.2.1 1 := by
  have := ow_p h
  exact ⟨by omega, by omega⟩
local macro_rules | `(tactic| array_get_dec) => `(tactic| first | ((with_reducible apply eo_0); assumption) | fail)
local macro_rules | `(tactic| array_get_dec) => `(tactic| first | ((with_reducible apply eo_1); assumption) | fail)
theorem eo_rng {q x : Int} (h0 : 0 ≤ x) (h : x < q) : x ∈ rng 0 q.toNat := by
  unfold rng
  rw [List.mem_map]
  exact ⟨x.toNat, by rw [List.mem_range]; omega, by omega⟩
theorem eoB {o : Int × Int × List (List Int)} {x : Int} (h : OwK o) (hx : Eo o.2.1 x) : Eo 1000 x := by
  have := ow_p h
  exact ⟨hx.1, by have := hx.2; omega⟩
/-- an own field with its p: what may be handed in with p -/
def PpK (p : Int) : Prop := 2 ≤ p ∧ p ≤ 997
/-- inner places of short lists -/
theorem ap_len {α β : Type} {xs pre post : List α} {x : α} {s : List β} (e : xs = pre ++ x :: post) (hj : s.length ≤ pre.length) (h : xs.length ≤ 1000) : s.length < sizeLine := by
  rw [e, List.length_append, List.length_cons] at h
  exact Nat.lt_of_lt_of_le (m := 1001) (by omega) (by decide)
local macro_rules | `(tactic| get_elem_tactic_extensible) => `(tactic| first | omega | decide)
local macro_rules | `(tactic| sizeOf_list_dec) => `(tactic| ((try dsimp only); first | array_get_dec | omega | (subst_vars; array_get_dec)))
local macro_rules | `(tactic| array_mem_dec) => `(tactic| first | (assumption) | fail)
theorem bd_ix {E : Type} [Lean.Grind.CommRing E] {m : Ms E} {n d : Nat} {xs : List E} {k : Int} (h : ∀ x ∈ xs, m.bd n d x) : m.bd n d (ix xs k) := by
  unfold ix
  cases e : L2.atI xs k with
  | none => exact m.mono m.zero (Nat.zero_le _) (Nat.zero_le _)
  | some x =>
    refine h x ?_
    unfold L2.atI at e
    obtain ⟨j, _, e2⟩ := Option.bind_eq_some_iff.mp e
    exact List.mem_of_getElem? e2
theorem bd_ix3 {E : Type} [Lean.Grind.CommRing E] {m : Ms E} {n d : Nat} {v : V3 E} {k : Int} (h : m.b3 n d v) : m.bd n d (ix [v.1, v.2.1, v.2.2] k) := bd_ix fun x hx => by
  simp only [List.mem_cons, List.not_mem_nil, or_false] at hx
  rcases hx with e | e | e <;> rw [e]
  · exact h.1
  · exact h.2.1
  · exact h.2.2
theorem b3_1 {E : Type} [Lean.Grind.CommRing E] {m : Ms E} {n d : Nat} {v : V3 E} (h : m.b3 n d v) : m.bd n d v.1 := h.1
theorem b3_2 {E : Type} [Lean.Grind.CommRing E] {m : Ms E} {n d : Nat} {v : V3 E} (h : m.b3 n d v) : m.bd n d v.2.1 := h.2.1
theorem b3_3 {E : Type} [Lean.Grind.CommRing E] {m : Ms E} {n d : Nat} {v : V3 E} (h : m.b3 n d v) : m.bd n d v.2.2 := h.2.2
local macro_rules | `(tactic| array_mem_dec) => `(tactic| first | ((with_reducible apply b3_1; array_mem_dec)) | fail)
local macro_rules | `(tactic| array_mem_dec) => `(tactic| first | ((with_reducible apply b3_2; array_mem_dec)) | fail)
local macro_rules | `(tactic| array_mem_dec) => `(tactic| first | ((with_reducible apply b3_3; array_mem_dec)) | fail)
local macro_rules | `(tactic| array_mem_dec) => `(tactic| first | ((with_reducible apply bd_ix3; array_mem_dec)) | fail)
local macro_rules | `(tactic| array_mem_dec) => `(tactic| first | ((with_reducible apply Ms.add) <;> array_mem_dec) | fail)
local macro_rules | `(tactic| array_mem_dec) => `(tactic| first | ((with_reducible apply Ms.sub) <;> array_mem_dec) | fail)
local macro_rules | `(tactic| array_mem_dec) => `(tactic| first | ((with_reducible apply Ms.mul) <;> array_mem_dec) | fail)
local macro_rules | `(tactic| array_mem_dec) => `(tactic| first | ((with_reducible apply Ms.neg); array_mem_dec) | fail)
local macro_rules | `(tactic| array_mem_dec) => `(tactic| first | (with_reducible exact Ms.zero _) | (with_reducible exact Ms.one _) | fail)
local macro_rules | `(tactic| get_elem_tactic_trivial) => `(tactic| ((try dsimp only [Ms.lm]); first | ((repeat' with_reducible apply And.intro) <;> (first | assumption | omega | trivial | (have hmr := mem_rng ‹_ ∈ rng _ _›; simp only [List.length_cons, List.length_nil]; omega) | (with_reducible apply Ms.mono; array_mem_dec; exact Nat.le_of_ble_eq_true rfl; exact Nat.le_of_ble_eq_true rfl) | (with_reducible apply b3_mono; array_mem_dec; exact Nat.le_of_ble_eq_true rfl; exact Nat.le_of_ble_eq_true rfl) | decide | (show (3 : Nat) ≤ sizeLine; decide) | (exact fun z => ‹¬ decide _ = true› (decide_eq_true z)))) | (subst_vars; (repeat' with_reducible apply And.intro) <;> (first | assumption | omega | trivial | (have hmr := mem_rng ‹_ ∈ rng _ _›; simp only [List.length_cons, List.length_nil]; omega) | (with_reducible apply Ms.mono; array_mem_dec; exact Nat.le_of_ble_eq_true rfl; exact Nat.le_of_ble_eq_true rfl) | (with_reducible apply b3_mono; array_mem_dec; exact Nat.le_of_ble_eq_true rfl; exact Nat.le_of_ble_eq_true rfl) | decide | (show (3 : Nat) ≤ sizeLine; decide) | (exact fun z => ‹¬ decide _ = true› (decide_eq_true z))))))
theorem bd_mem {E : Type} [Lean.Grind.CommRing E] {m : Ms E} {n d : Nat} {v : V3 E} {x : E} (h : x ∈ [v.1, v.2.1, v.2.2]) (hv : m.b3 n d v) : m.bd n d x := by
  simp only [List.mem_cons, List.not_mem_nil, or_false] at h
  rcases h with e | e | e <;> rw [e]
  · exact hv.1
  · exact hv.2.1
  · exact hv.2.2
local macro_rules | `(tactic| array_mem_dec) => `(tactic| first | (with_reducible apply bd_mem; assumption; array_mem_dec) | fail)
local macro_rules | `(tactic| array_mem_dec) => `(tactic| first | (with_reducible apply Fg.bd_inv; array_mem_dec) | fail)
theorem gcd_mu {s s' : Int × Int} (hc : ¬ s.2 = 0) (e : bnd (s.2, s.1.fmod s.2) (fun x => Stp.go (S := Int × Int) (ρ := Int) (x.1, x.2)) = Stp.go s') : s'.2.natAbs < s.2.natAbs := by
  have e2 := Stp.go.inj e
  rw [← e2]
  exact fmod_abs_lt _ hc
theorem sz_big {x y : Int} (h : Sz 4000 x) (k : Sz 4000 y) : Sz 9000 (x * y) := sz_mono (sz_mul h k) (by omega)

theorem sc_power_of : FnScope ["number", "exponent", "found", "_"] ["number", "exponent"] (defScope s_power_of) := ⟨rfl, rfl, rfl, by decide +kernel, rfl, by decide +kernel, by decide +kernel⟩
def m_power_of (a_number : Int) (a_exponent : Int) : Int :=
  bnd (1 : Int) fun found_1 =>
  ((forL (fun (s_1 : Int) x_1 =>
  bnd (s_1 * a_number) fun found_2 =>
  .go found_2) (rng 0 (Int.toNat a_exponent)) found_1).out fun s_1 =>
  s_1)

theorem ok_power_of (T : Tx P K mg) : Cl P w K mg base 1 "power_of" (spF (fun a : Int × Int => [.val yI a.1, .val yI a.2]) (fun a : Int × Int => Sz 10 a.1 ∧ 0 ≤ a.2 ∧ a.2 ≤ 20) yI (fun a => m_power_of a.1 a.2)) := by
  obtain ⟨f, fd, hg, FD⟩ := T.g_power_of
  refine ⟨f, fd, ["number", "exponent"], ?_, hg, FD.kp, FD.bindsN fun _ _ _ _ _ _ us hl => match us, hl with | [_, _], _ => rfl⟩
  refine TL.FunD.okC (N := ["number", "exponent", "found", "_"]) FD sc_power_of (lenF fun _ => rfl) fun cdv A outer s H E hr => ?_
  refine ⟨_, (pss_cons (ps_set (i := 2) sc_power_of.nd rfl (by first | exact .inl rfl | exact .inr rfl) pe_int) (pss_cons (ps_for (passes_of rfl) rfl (pi_range1 (by rfl) T.b_range (pa_cons (pv 1) pa_nil)) (pg_name (i := 3) sc_power_of.nd (by rfl) (by first | exact .inl rfl | exact .inr rfl)) (pss_cons (ps_set (i := 2) sc_power_of.nd rfl (by first | exact .inl rfl | exact .inr rfl) (pe_op op_mulW (pv 2) (pv 0))) pss_nil)) (pss_cons (ps_ret (pv 2)) pss_nil))), fun vs Q h => run_F (fun F a rt hpre => ?_) vs H Q E h⟩
  show Bd _ _ _ _ _ _ (m_power_of a.1 a.2)
  unfold m_power_of
  refine b_let ev_int fun found_1 hfound_1 => ?_
  refine b_for _ (fun (s_1 : Int) => ([] : Own)) (fun (s_1 : Int) => (⟨[.val yI a.1, .val yI a.2, .val yI s_1, .any], []⟩ : Lc)) (fun pre s => Sz (10 * pre.length + 1) s) found_1 (iv_rng1 ev_var (by first | omega | assumption | decide | exact ⟨by omega, by omega⟩) (by first | omega | assumption | decide | exact ⟨by omega, by omega⟩)) (tg_name 3) rfl ⟨(.cons (.inl rfl) (.cons (.inl rfl) (.cons (.inl rfl) (.cons (.inr rfl) .nil)))), rfl⟩ (by rw [hfound_1]; exact sz_lit (by decide +kernel)) (fun pre x post s s' e hj h => power_of_step hpre.1 hj h) (fun gs_1 pre x_1 post s_1 he_1 hj_1 N B P' hgo_1 hret_1 => ?_) (fun s_1 hj_2 => ?_)
  · have hmx_1 : x_1 ∈ (rng 0 (Int.toNat a.2)) := by rw [he_1]; exact List.mem_append_right _ List.mem_cons_self
    refine b_let (ev_mul ev_var ev_var (by exact power_of_mul hpre.1 hpre.2.2 he_1 hj_1)) fun found_2 hfound_2 => ?_
    exact b_next fun h => nx_wk (hgo_1 _ h) ⟨(.cons (.inl rfl) (.cons (.inl rfl) (.cons (.inl rfl) (.cons (.inr rfl) .nil)))), rfl⟩
  · exact b_seq (b_ret ev_var (fun h => h _))

theorem sc_power_modulo : FnScope ["number", "exponent", "modulus", "found", "factor", "left"] ["number", "exponent", "modulus"] (defScope s_power_modulo) := ⟨rfl, rfl, rfl, by decide +kernel, rfl, by decide +kernel, by decide +kernel⟩
def m_power_modulo (a_number : Int) (a_exponent : Int) (a_modulus : Int) : Int :=
  bnd ((1 : Int) % a_modulus) fun found_1 =>
  bnd (a_number % a_modulus) fun factor_1 =>
  bnd a_exponent fun left_1 =>
  ((whileL (fun s_1 : Int × Int × Int => ((0 : Int) < s_1.2.2)) (fun s_1 =>
  bnd (if ((s_1.2.2 % (2 : Int)) = (1 : Int)) then ((s_1.1 * s_1.2.1) % a_modulus) else s_1.1) fun found_2 =>
  bnd ((s_1.2.1 * s_1.2.1) % a_modulus) fun factor_2 =>
  bnd (s_1.2.2 / (2 : Int)) fun left_2 =>
  .go (found_2, factor_2, left_2)) ((fun s => s.2.2.toNat) (found_1, factor_1, left_1) + 1) (found_1, factor_1, left_1)).out fun s_1 =>
  s_1.1)

theorem ok_power_modulo (T : Tx P K mg) : Cl P w K mg base 1 "power_modulo" (spF (fun a : Int × Int × Int => [.val yI a.1, .val yI a.2.1, .val yI a.2.2]) (fun a : Int × Int × Int => 0 < a.2.2 ∧ Sz 20 a.2.2) yI (fun a => m_power_modulo a.1 a.2.1 a.2.2)) := by
  obtain ⟨f, fd, hg, FD⟩ := T.g_power_modulo
  refine ⟨f, fd, ["number", "exponent", "modulus"], ?_, hg, FD.kp, FD.bindsN fun _ _ _ _ _ _ us hl => match us, hl with | [_, _, _], _ => rfl⟩
  refine TL.FunD.okC (N := ["number", "exponent", "modulus", "found", "factor", "left"]) FD sc_power_modulo (lenF fun _ => rfl) fun cdv A outer s H E hr => ?_
  refine ⟨_, (pss_cons (ps_set (i := 3) sc_power_modulo.nd rfl (by first | exact .inl rfl | exact .inr rfl) (pe_op op_mod pe_int (pv 2))) (pss_cons (ps_set (i := 4) sc_power_modulo.nd rfl (by first | exact .inl rfl | exact .inr rfl) (pe_op op_mod (pv 0) (pv 2))) (pss_cons (ps_set (i := 5) sc_power_modulo.nd rfl (by first | exact .inl rfl | exact .inr rfl) (pv 1)) (pss_cons (ps_while (passes_of rfl) (pt_cmpR op_gt (pv 5) pe_int (nomark _)) (pss_cons (ps_if (pt_cmpR op_eq (pe_op op_mod (pv 5) pe_int) pe_int (nomark _)) (pss_cons (ps_set (i := 3) sc_power_modulo.nd rfl (by first | exact .inl rfl | exact .inr rfl) (pe_op op_mod (pe_op op_mulW (pv 3) (pv 4)) (pv 2))) pss_nil) pss_nil) (pss_cons (ps_set (i := 4) sc_power_modulo.nd rfl (by first | exact .inl rfl | exact .inr rfl) (pe_op op_mod (pe_op op_mulW (pv 4) (pv 4)) (pv 2))) (pss_cons (ps_set (i := 5) sc_power_modulo.nd rfl (by first | exact .inl rfl | exact .inr rfl) (pe_op op_fdivW (pv 5) pe_int)) pss_nil)))) (pss_cons (ps_ret (pv 3)) pss_nil))))), fun vs Q h => run_F (fun F a rt hpre => ?_) vs H Q E h⟩
  show Bd _ _ _ _ _ _ (m_power_modulo a.1 a.2.1 a.2.2)
  unfold m_power_modulo
  refine b_let (ev_mod ev_int ev_var (by first | exact hpre.1 | omega | exact sz_divW (show Sz 2 (2 : Int) from sz_lit (by decide +kernel)) (by omega))) fun found_1 hfound_1 => ?_
  refine b_let (ev_mod ev_var ev_var (by first | exact hpre.1 | omega | exact sz_divW (show Sz 2 (2 : Int) from sz_lit (by decide +kernel)) (by omega))) fun factor_1 hfactor_1 => ?_
  refine b_let ev_var fun left_1 hleft_1 => ?_
  refine b_while _ _ (fun (s_1 : Int × Int × Int) => ([] : Own)) (fun (s_1 : Int × Int × Int) => (⟨[.val yI a.1, .val yI a.2.1, .val yI a.2.2, .val yI s_1.1, .val yI s_1.2.1, .val yI s_1.2.2], []⟩ : Lc)) (fun s => (0 ≤ s.1 ∧ s.1 < a.2.2) ∧ 0 ≤ s.2.1 ∧ s.2.1 < a.2.2) (fun s => s.2.2.toNat) (found_1, factor_1, left_1) rfl ⟨(.cons (.inl rfl) (.cons (.inl rfl) (.cons (.inl rfl) (.cons (.inl rfl) (.cons (.inl rfl) (.cons (.inl rfl) .nil)))))), rfl⟩ (pm_0 hpre.1 hfound_1 hfactor_1) (fun s_1 hj_1 => (tt_d (ev_gt ev_var ev_int))) (fun s s' hj hc e => pm_step hpre.1 hj hc e) (fun s_1 hj_1 hc_1 N B P' hgo_1 hret_1 => ?_) (fun s_1 hj_1 hc_2 => ?_)
  · refine b_join (fun (found_2 : Int) => (⟨[.val yI a.1, .val yI a.2.1, .val yI a.2.2, .val yI found_2, .val yI s_1.2.1, .val yI s_1.2.2], []⟩ : Lc)) (fun (found_2 : Int) => ([] : Own)) (tt_d (ev_eq (ev_mod ev_var ev_int (by first | exact hpre.1 | omega | exact sz_divW (show Sz 2 (2 : Int) from sz_lit (by decide +kernel)) (by omega))) ev_int)) (x1 := ((s_1.1 * s_1.2.1) % a.2.2)) (x2 := s_1.1) (fun h_1 => (sx_set (ev_mod (ev_mul ev_var ev_var (by exact pm_mul hpre.2 hj_1.1 hj_1.2)) ev_var (by first | exact hpre.1 | omega | exact sz_divW (show Sz 2 (2 : Int) from sz_lit (by decide +kernel)) (by omega))) (sx_wk sx_next ⟨(.cons (.inl rfl) (.cons (.inl rfl) (.cons (.inl rfl) (.cons (.inl rfl) (.cons (.inl rfl) (.cons (.inl rfl) .nil)))))), rfl⟩))) (fun h_1 => (sx_wk sx_next ⟨(.cons (.inl rfl) (.cons (.inl rfl) (.cons (.inl rfl) (.cons (.inl rfl) (.cons (.inl rfl) (.cons (.inl rfl) .nil)))))), rfl⟩)) fun found_2 hfound_2 => ?_
    refine b_let (ev_mod (ev_mul ev_var ev_var (by exact pm_mul hpre.2 hj_1.2 hj_1.2)) ev_var (by first | exact hpre.1 | omega | exact sz_divW (show Sz 2 (2 : Int) from sz_lit (by decide +kernel)) (by omega))) fun factor_2 hfactor_2 => ?_
    refine b_let (ev_div ev_var ev_int (by first | exact hpre.1 | omega | exact sz_divW (show Sz 2 (2 : Int) from sz_lit (by decide +kernel)) (by omega))) fun left_2 hleft_2 => ?_
    exact b_next fun h => nx_wk (hgo_1 _ h) ⟨(.cons (.inl rfl) (.cons (.inl rfl) (.cons (.inl rfl) (.cons (.inl rfl) (.cons (.inl rfl) (.cons (.inl rfl) .nil)))))), rfl⟩
  · exact b_seq (b_ret ev_var (fun h => h _))

theorem pm_val {n e m : Int} (hm : 0 < m) (he : 0 ≤ e) (h1 : 1 < m) : m_power_modulo n e m = n ^ e.toNat % m := by
  unfold m_power_modulo
  simp only [bnd]
  generalize hW : whileL (ρ := Int) (fun s_1 : Int × Int × Int => (0 : Int) < s_1.2.2) _ _ _ = W
  have : ∃ s', W = .go s' ∧ (((s'.1 * s'.2.1 ^ s'.2.2.toNat) % m = n ^ e.toNat % m ∧ 0 ≤ s'.2.2) ∧ 0 ≤ s'.1 ∧ s'.1 < m) ∧ ¬ 0 < s'.2.2 := by
    rw [← hW]
    refine whileL_end (c := fun s_1 : Int × Int × Int => (0 : Int) < s_1.2.2) (fun s : Int × Int × Int => ((s.1 * s.2.1 ^ s.2.2.toNat) % m = n ^ e.toNat % m ∧ 0 ≤ s.2.2) ∧ 0 ≤ s.1 ∧ s.1 < m) (fun s => s.2.2.toNat) (fun s hj hc => ⟨_, rfl, ⟨⟨?_, ?_⟩, ?_⟩, ?_⟩) _ _ ?_ (Nat.lt_succ_self _)
    · rw [← hj.1.1]
      exact pm_half hc
    · show 0 ≤ s.2.2 / 2
      omega
    · show 0 ≤ (if _ then _ else _ : Int) ∧ (if _ then _ else _ : Int) < m
      split
      · exact ⟨Int.emod_nonneg _ (by omega), Int.emod_lt_of_pos _ hm⟩
      · exact hj.2
    · show (s.2.2 / 2).toNat < s.2.2.toNat
      omega
    · refine ⟨⟨?_, he⟩, ⟨Int.emod_nonneg _ (by omega), Int.emod_lt_of_pos _ hm⟩⟩
      show (1 % m * (n % m) ^ e.toNat) % m = _
      rw [mod_mul (Int.emod_emod_of_dvd _ (Int.dvd_refl m)) (mod_pow (Int.emod_emod_of_dvd _ (Int.dvd_refl m)) _), Int.one_mul]
  obtain ⟨s, rfl, ⟨⟨h3, h4⟩, h5, h6⟩, h7⟩ := this
  show s.1 = _
  rw [← h3, show s.2.2.toNat = 0 by omega, Int.pow_zero, Int.mul_one, Int.emod_eq_of_lt h5 h6]
theorem pm_inv {a p : Int} (hp : p ≤ 997) (h : primeB p.toNat = true) (h0 : 0 < a) (ha : a < p) : a * m_power_modulo a (p - 2) p % p = 1 := by
  have h2 : 2 ≤ p := by
    unfold primeB at h
    rw [Bool.and_eq_true] at h
    have := of_decide_eq_true h.1
    omega
  rw [pm_val (by omega) (by omega) (by omega)]
  have h3 := fermat (p := p.toNat) (a := a.toNat) (by omega) h (by omega) (by omega)
  rw [mod_mul (b := a) rfl (Int.emod_emod_of_dvd _ (Int.dvd_refl p)), Int.mul_comm, ← Int.pow_succ, show (p - 2).toNat.succ = p.toNat - 1 by omega]
  have e1 : a = ((a.toNat : Nat) : Int) := by omega
  have e2 : p = ((p.toNat : Nat) : Int) := by omega
  rw [e1, e2, ← Int.natCast_pow, ← Int.natCast_emod]
  simp only [Int.toNat_natCast]
  rw [h3]
  rfl

theorem sc_is_prime : FnScope ["number", "divisor"] ["number"] (defScope s_is_prime) := ⟨rfl, rfl, rfl, by decide +kernel, rfl, by decide +kernel, by decide +kernel⟩
def m_is_prime (a_number : Int) : Bool :=
  (if (a_number < (2 : Int)) then
  false
  else
  bnd (2 : Int) fun divisor_1 =>
  ((whileL (fun s_1 : Int => ((s_1 * s_1) ≤ a_number)) (fun s_1 =>
  (if ((a_number % s_1) = (0 : Int)) then
  .ret (false)
  else
  bnd (if (s_1 = (2 : Int)) then (s_1 + (1 : Int)) else (s_1 + (2 : Int))) fun divisor_2 =>
  .go divisor_2)) ((fun s => (100 - s).toNat) divisor_1 + 1) divisor_1).out fun s_1 =>
  true))

theorem ok_is_prime (T : Tx P K mg) : Cl P w K mg base 1 "is_prime" (spF (fun a : Int => [.val yI a]) (fun a : Int => a < 1024) yB (fun a => m_is_prime a)) := by
  obtain ⟨f, fd, hg, FD⟩ := T.g_is_prime
  refine ⟨f, fd, ["number"], ?_, hg, FD.kp, FD.bindsN fun _ _ _ _ _ _ us hl => match us, hl with | [_], _ => rfl⟩
  refine TL.FunD.okC (N := ["number", "divisor"]) FD sc_is_prime (lenF fun _ => rfl) fun cdv A outer s H E hr => ?_
  refine ⟨_, (pss_cons (ps_if (pt_cmpR op_lt (pv 0) pe_int (nomark _)) (pss_cons (ps_ret pe_bl) pss_nil) pss_nil) (pss_cons (ps_set (i := 1) sc_is_prime.nd rfl (by first | exact .inl rfl | exact .inr rfl) pe_int) (pss_cons (ps_while (passes_of rfl) (pt_cmpR op_le (pe_op op_mulW (pv 1) (pv 1)) (pv 0) (nomark _)) (pss_cons (ps_if (pt_cmpR op_eq (pe_op op_mod (pv 0) (pv 1)) pe_int (nomark _)) (pss_cons (ps_ret pe_bl) pss_nil) pss_nil) (pss_cons (ps_set (i := 1) sc_is_prime.nd rfl (by first | exact .inl rfl | exact .inr rfl) (pe_ifExp (pt_cmpR op_eq (pv 1) pe_int (nomark _)) (pe_op op_add (pv 1) pe_int) (pe_op op_add (pv 1) pe_int))) pss_nil))) (pss_cons (ps_ret pe_bl) pss_nil)))), fun vs Q h => run_F (fun F a rt hpre => ?_) vs H Q E h⟩
  show Bd _ _ _ _ _ _ (m_is_prime a)
  unfold m_is_prime
  refine b_seq (b_if (tt_d (ev_lt ev_var ev_int)) (fun h_1 => ?_) (fun h_1 => ?_))
  · exact b_seq (b_ret ev_bl (fun h => h _))
  · refine b_fall ?_
    refine b_let ev_int fun divisor_1 hdivisor_1 => ?_
    refine b_while _ _ (fun (s_1 : Int) => ([] : Own)) (fun (s_1 : Int) => (⟨[.val yI a, .val yI s_1], []⟩ : Lc)) (fun s => 2 ≤ s ∧ s ≤ 40) (fun s => (100 - s).toNat) divisor_1 rfl ⟨(.cons (.inl rfl) (.cons (.inl rfl) .nil)), rfl⟩ (by omega) (fun s_1 hj_1 => (tt_d (ev_le (ev_mul ev_var ev_var (by first | omega | exact ip_mul hj_1)) ev_var))) (fun s s' hj hc e => ip_step hpre hj hc e) (fun s_1 hj_1 hc_1 N B P' hgo_1 hret_1 => ?_) (fun s_1 hj_1 hc_2 => ?_)
    · refine b_seq (b_if (tt_d (ev_eq (ev_mod ev_var ev_var (by first | omega | exact ip_mul hj_1)) ev_int)) (fun h_2 => ?_) (fun h_2 => ?_))
      · exact b_seq (b_ret ev_bl (fun h => (hret_1 _ h) _))
      · refine b_fall ?_
        refine b_let (ev_ifE (tt_d (ev_eq ev_var ev_int)) (fun h_3 => (ev_add ev_var ev_int)) (fun h_3 => (ev_add ev_var ev_int))) fun divisor_2 hdivisor_2 => ?_
        exact b_next fun h => nx_wk (hgo_1 _ h) ⟨(.cons (.inl rfl) (.cons (.inl rfl) .nil)), rfl⟩
    · exact b_seq (b_ret ev_bl (fun h => h _))

/-- a modulus that may be asked about -/
def MdP (p : Int) (m : List Int) : Prop := 2 ≤ p ∧ p ≤ 997 ∧ m_is_prime p = true ∧ 2 ≤ m.length ∧ m.length ≤ 11 ∧ (∀ z ∈ m, 0 ≤ z ∧ z < p) ∧ ix m (-1) = 1
theorem md_sz {p : Int} {m : List Int} (h : MdP p m) : Sz 10 p := by
  have h1 := h.1
  have h2 := h.2.1
  unfold Sz
  omega
theorem md_ne {p : Int} {m : List Int} (h : MdP p m) : m ≠ [] := fun z => by
  have := h.2.2.2.1
  rw [z] at this
  simp at this
theorem md_dg {p : Int} {m : List Int} (h : MdP p m) : Dg m := fun z hz => by
  have h1 := h.2.2.2.2.2.1 z hz
  have h2 := h.2.1
  unfold Sz
  omega

theorem sc_check_prime : FnScope ["number"] ["number"] (defScope s_check_prime) := ⟨rfl, rfl, rfl, by decide +kernel, rfl, by decide +kernel, by decide +kernel⟩
def m_check_prime (a_number : Int) : Unit :=
  (if (¬ ((2 : Int) ≤ a_number ∧ a_number ≤ (997 : Int))) then
  default
  else
  (if (¬ ((m_is_prime a_number) = true)) then
  default
  else
  ()))

theorem ok_check_prime (T : Tx P K mg) : Cl P w K mg base 2 "check_prime" (spF (fun a : Int => [.val yI a]) (fun a : Int => 2 ≤ a ∧ a ≤ 997 ∧ m_is_prime a = true) yN (fun a => m_check_prime a)) := by
  obtain ⟨f, fd, hg, FD⟩ := T.g_check_prime
  refine ⟨f, fd, ["number"], ?_, hg, FD.kp, FD.bindsN fun _ _ _ _ _ _ us hl => match us, hl with | [_], _ => rfl⟩
  refine TL.FunD.okC (N := ["number"]) FD sc_check_prime (lenF fun _ => rfl) fun cdv A outer s H E hr => ?_
  refine ⟨_, (pss_cons (ps_if (pt_not (pt_chain op_le op_le pe_int (pv 0) (pe_gint (by rfl) T.gi_MOST_PRIME))) pss_dead pss_nil) (pss_cons (ps_if (pt_not (pt_val (pe_cl (ok_is_prime T) hr (by decide) (by rfl) passL (pa_cons (pv 0) pa_nil)))) pss_dead pss_nil) pss_nil)), fun vs Q h => run_F (fun F a rt hpre => ?_) vs H Q E h⟩
  show Bd _ _ _ _ _ _ (m_check_prime a)
  unfold m_check_prime
  refine b_seq (b_if (tt_not (tt_chain (fun i j : Int => i ≤ j) (fun i j : Int => i ≤ j) ev_int ev_var ev_int)) (fun h_1 => ?_) (fun h_1 => ?_))
  · exact b_dead (by first | omega | exact ‹¬ m_is_prime _ = true› hpre.2.2)
  · refine b_fall ?_
    refine b_seq (b_if (tt_not (tt_b (ev_call a (ea_cons ev_var ea_nil) rfl (by omega)))) (fun h_2 => ?_) (fun h_2 => ?_))
    · exact b_dead (by first | omega | exact ‹¬ m_is_prime _ = true› hpre.2.2)
    · refine b_fall ?_
      exact b_next fun h => nx_end (h _)

theorem sc_base_digits : FnScope ["base", "many", "number", "digits", "_"] ["base", "many", "number"] (defScope s_base_digits) := ⟨rfl, rfl, rfl, by decide +kernel, rfl, by decide +kernel, by decide +kernel⟩
def m_base_digits (a_base : Int) (a_many : Int) (a_number : Int) : (List Int) :=
  bnd ([] : List Int) fun digits_1 =>
  ((forL (fun (s_1 : Int × List Int) x_1 =>
  bnd (s_1.1 / a_base) fun number_1 =>
  .go (number_1, (s_1.2 ++ [(s_1.1 % a_base)]))) (rng 0 (Int.toNat a_many)) (a_number, digits_1)).out fun s_1 =>
  s_1.2)

theorem ok_base_digits (T : Tx P K mg) : Cl P w K mg base 1 "base_digits" (spL (fun a : Int × Int × Int => [.val yI a.1, .val yI a.2.1, .val yI a.2.2]) (fun a : Int × Int × Int => 0 < a.1 ∧ Sz 20 a.1 ∧ 0 ≤ a.2.1 ∧ a.2.1 ≤ 20) yI (fun a => m_base_digits a.1 a.2.1 a.2.2)) := by
  obtain ⟨f, fd, hg, FD⟩ := T.g_base_digits
  refine ⟨f, fd, ["base", "many", "number"], ?_, hg, FD.kp, FD.bindsN fun _ _ _ _ _ _ us hl => match us, hl with | [_, _, _], _ => rfl⟩
  refine TL.FunD.okC (N := ["base", "many", "number", "digits", "_"]) FD sc_base_digits (lenL fun _ => rfl) fun cdv A outer s H E hr => ?_
  refine ⟨_, (pss_cons (ps_set (i := 3) sc_base_digits.nd rfl (by first | exact .inl rfl | exact .inr rfl) (pe_lst pa_nil)) (pss_cons (ps_for (passes_of rfl) rfl (pi_range1 (by rfl) T.b_range (pa_cons (pv 1) pa_nil)) (pg_name (i := 4) sc_base_digits.nd (by rfl) (by first | exact .inl rfl | exact .inr rfl)) (pss_cons (ps_expr (pe_bm PySem.F.plainAttrs_list PySem.F.slot_list_append PySem.F.type_list_append mt_append (pv 3) (pa_cons (pe_op op_mod (pv 2) (pv 0)) pa_nil))) (pss_cons (ps_set (i := 2) sc_base_digits.nd rfl (by first | exact .inl rfl | exact .inr rfl) (pe_op op_fdivW (pv 2) (pv 0))) pss_nil))) (pss_cons (ps_ret (pv 3)) pss_nil))), fun vs Q h => run_L (fun F a rt hpre => ?_) vs H Q E h⟩
  show Bd _ _ _ _ _ _ (m_base_digits a.1 a.2.1 a.2.2)
  unfold m_base_digits
  refine b_letO (evl_lst (t := yI) (xs := []) ea_nil rfl (Nat.zero_le _)) fun p_1 digits_1 hdigits_1 => ?_
  refine b_for _ (fun (s_1 : Int × List Int) => ([(p_1, cL yI s_1.2)] : Own)) (fun (s_1 : Int × List Int) => (⟨[.val yI a.1, .val yI a.2.1, .val yI s_1.1, .val (yV (.ref p_1)) (), .any], []⟩ : Lc)) (fun pre s => s.2.length ≤ pre.length) (a.2.2, digits_1) (iv_rng1 ev_var (by omega) (by omega)) (tg_name 4) rfl ⟨(.cons (.inl rfl) (.cons (.inl rfl) (.cons (.inl rfl) (.cons (.inl rfl) (.cons (.inr rfl) .nil))))), rfl⟩ (by rw [hdigits_1]; exact Nat.le_refl _) (fun pre x post s s' e hj h => bd_step hj h) (fun gs_1 pre x_1 post s_1 he_1 hj_1 N B P' hgo_1 hret_1 => ?_) (fun s_1 hj_2 => ?_)
  · have hmx_1 : x_1 ∈ (rng 0 (Int.toNat a.2.1)) := by rw [he_1]; exact List.mem_append_right _ List.mem_cons_self
    refine b_drop (ev_append (t := yI) (xs := s_1.2) 0 ev_var (ev_mod ev_var ev_var (by exact hpre.1)) (by exact bd_len hpre.2.2.2 he_1 hj_1)) ?_
    refine b_let (ev_div ev_var ev_var (by exact sz_divW hpre.2.1 hpre.1)) fun number_1 hnumber_1 => ?_
    exact b_next fun h => nx_wk (hgo_1 _ h) ⟨(.cons (.inl rfl) (.cons (.inl rfl) (.cons (.inl rfl) (.cons (.inl rfl) (.cons (.inr rfl) .nil))))), rfl⟩
  · exact b_seq (b_retOwn (t := yI) (xs := s_1.2) 0 ev_var rfl (fun h => h))

theorem sc_base_number : FnScope ["base", "digits", "number", "digit"] ["base", "digits"] (defScope s_base_number) := ⟨rfl, rfl, rfl, by decide +kernel, rfl, by decide +kernel, by decide +kernel⟩
def m_base_number (a_base : Int) (a_digits : (List Int)) : Int :=
  bnd (0 : Int) fun number_1 =>
  ((forL (fun (s_1 : Int) digit_1 =>
  bnd ((s_1 * a_base) + digit_1) fun number_2 =>
  .go number_2) (List.reverse a_digits) number_1).out fun s_1 =>
  s_1)

theorem ok_base_number (T : Tx P K mg) : Cl P w K mg base 1 "base_number" (spF (fun a : Int × (List Int) => [.val yI a.1, .val (yL yI) a.2]) (fun a : Int × (List Int) => Sz 10 a.1 ∧ a.2.length ≤ 20 ∧ Dg a.2) yI (fun a => m_base_number a.1 a.2)) := by
  obtain ⟨f, fd, hg, FD⟩ := T.g_base_number
  refine ⟨f, fd, ["base", "digits"], ?_, hg, FD.kp, FD.bindsN fun _ _ _ _ _ _ us hl => match us, hl with | [_, _], _ => rfl⟩
  refine TL.FunD.okC (N := ["base", "digits", "number", "digit"]) FD sc_base_number (lenF fun _ => rfl) fun cdv A outer s H E hr => ?_
  refine ⟨_, (pss_cons (ps_set (i := 2) sc_base_number.nd rfl (by first | exact .inl rfl | exact .inr rfl) pe_int) (pss_cons (ps_for (passes_of rfl) rfl (RT.pi_revA (by rfl) T.b_reversed (pv 1)) (pg_name (i := 3) sc_base_number.nd (by rfl) (by first | exact .inl rfl | exact .inr rfl)) (pss_cons (ps_set (i := 2) sc_base_number.nd rfl (by first | exact .inl rfl | exact .inr rfl) (pe_op op_add (pe_op op_mulW (pv 2) (pv 0)) (pv 3))) pss_nil)) (pss_cons (ps_ret (pv 2)) pss_nil))), fun vs Q h => run_F (fun F a rt hpre => ?_) vs H Q E h⟩
  show Bd _ _ _ _ _ _ (m_base_number a.1 a.2)
  unfold m_base_number
  refine b_let ev_int fun number_1 hnumber_1 => ?_
  refine b_for _ (fun (s_1 : Int) => ([] : Own)) (fun (s_1 : Int) => (⟨[.val yI a.1, .val (yL yI) a.2, .val yI s_1, .any], []⟩ : Lc)) (fun pre s => Sz (11 * pre.length) s) number_1 (iv_revAL ev_var) (tg_name 3) rfl ⟨(.cons (.inl rfl) (.cons (.inl rfl) (.cons (.inl rfl) (.cons (.inr rfl) .nil)))), rfl⟩ (by rw [hnumber_1]; exact sz_lit (by decide +kernel)) (fun pre x post s s' e hj h => bn_step hpre.1 (bn_dg hpre.2.2 e) hj h) (fun gs_1 pre digit_1 post s_1 he_1 hj_1 N B P' hgo_1 hret_1 => ?_) (fun s_1 hj_2 => ?_)
  · have hmdigit_1 : digit_1 ∈ (List.reverse a.2) := by rw [he_1]; exact List.mem_append_right _ List.mem_cons_self
    refine b_let (ev_add (ev_mul ev_var ev_var (by exact bn_mul hpre.1 hpre.2.1 he_1 hj_1)) ev_var) fun number_2 hnumber_2 => ?_
    exact b_next fun h => nx_wk (hgo_1 _ h) ⟨(.cons (.inl rfl) (.cons (.inl rfl) (.cons (.inl rfl) (.cons (.inr rfl) .nil)))), rfl⟩
  · exact b_seq (b_ret ev_var (fun h => h _))

theorem sc_trimmed : FnScope ["digits", "found"] ["digits"] (defScope s_trimmed) := ⟨rfl, rfl, rfl, by decide +kernel, rfl, by decide +kernel, by decide +kernel⟩
def m_trimmed (a_digits : (List Int)) : (List Int) :=
  bnd a_digits fun found_1 =>
  ((whileL (fun s_1 : List Int => ((s_1 ≠ []) ∧ ((ix s_1 (-(1 : Int))) = (0 : Int)))) (fun s_1 =>
  .go (List.dropLast s_1)) ((fun s => s.length) found_1 + 1) found_1).out fun s_1 =>
  s_1)

theorem ok_trimmed (T : Tx P K mg) : Cl P w K mg base 1 "trimmed" (spL (fun a : (List Int) => [.val (yL yI) a]) (fun _ : (List Int) => True) yI (fun a => m_trimmed a)) := by
  obtain ⟨f, fd, hg, FD⟩ := T.g_trimmed
  refine ⟨f, fd, ["digits"], ?_, hg, FD.kp, FD.bindsN fun _ _ _ _ _ _ us hl => match us, hl with | [_], _ => rfl⟩
  refine TL.FunD.okC (N := ["digits", "found"]) FD sc_trimmed (lenL fun _ => rfl) fun cdv A outer s H E hr => ?_
  refine ⟨_, (pss_cons (ps_set (i := 1) sc_trimmed.nd rfl (by first | exact .inl rfl | exact .inr rfl) (pe_callTy (call_list_K (K := K) rfl) (by rfl) T.b_list (by decide +kernel) (pa_cons (pv 0) pa_nil))) (pss_cons (ps_while (passes_of rfl) (PW.pt (pw_and (pt_truth (pv 1) (fun _ => rfl)) (pw_and1 (pt_cmpR op_eq (pe_ix (ixL_K (K := K) rfl) (pv 1) (pe_un un_neg pe_int) (fun _ _ => rfl)) pe_int (nomark _))))) (pss_cons (ps_expr (pe_bm0 PySem.F.plainAttrs_list PySem.F.slot_list_pop PySem.F.type_list_pop mt_pop (pv 1))) pss_nil)) (pss_cons (ps_ret (pv 1)) pss_nil))), fun vs Q h => run_L (fun F a rt hpre => ?_) vs H Q E h⟩
  show Bd _ _ _ _ _ _ (m_trimmed a)
  unfold m_trimmed
  refine b_letO (evl_listL ev_var) fun p_1 found_1 hfound_1 => ?_
  refine b_while _ _ (fun (s_1 : List Int) => ([(p_1, cL yI s_1)] : Own)) (fun (s_1 : List Int) => (⟨[.val (yL yI) a, .val (yV (.ref p_1)) ()], []⟩ : Lc)) (fun _ => True) (fun s => s.length) found_1 rfl ⟨(.cons (.inl rfl) (.cons (.inl rfl) .nil)), rfl⟩ trivial (fun s_1 hj_1 => (tt_and (tt_truO (t := yI) (xs := s_1) 0 ev_var) fun hb_1 => (tt_d (ev_eq (ev_ixO (t := yI) (xs := s_1) 0 ev_var (ev_neg ev_int) (by exact inbl ‹_›)) ev_int)))) (fun s s' _ hc e => ⟨trivial, tr_mu hc e⟩) (fun s_1 hj_1 hc_1 N B P' hgo_1 hret_1 => ?_) (fun s_1 hj_1 hc_2 => ?_)
  · refine b_drop (ev_popT (t := yI) (xs := s_1) 0 ev_var (by exact hc_1.1)) ?_
    exact b_next fun h => nx_wk (hgo_1 _ h) ⟨(.cons (.inl rfl) (.cons (.inl rfl) .nil)), rfl⟩
  · exact b_seq (b_retOwn (t := yI) (xs := s_1) 0 ev_var rfl (fun h => h))

theorem sc_times_modulo : FnScope ["prime", "modulus", "a", "b", "found", "digit", "top", "lifted", "low", "m", "x"] ["prime", "modulus", "a", "b"] (defScope s_times_modulo) := ⟨rfl, rfl, rfl, by decide +kernel, rfl, by decide +kernel, by decide +kernel⟩
def m_times_modulo (a_prime : Int) (a_modulus : (List Int)) (a_a : (List Int)) (a_b : (List Int)) : (List Int) :=
  bnd (List.replicate (Int.toNat ((a_modulus.length : Int) - (1 : Int))) (0 : Int)) fun found_1 =>
  ((forL (fun (s_1 : (List Int)) digit_1 =>
  bnd (ix s_1 (-(1 : Int))) fun top_1 =>
  bnd ([(0 : Int)] ++ (List.dropLast s_1)) fun lifted_1 =>
  bnd (List.map (fun (x_1 : (Int × Int × Int)) => (((x_1.1 - (top_1 * x_1.2.1)) + (digit_1 * x_1.2.2)) % a_prime)) (List.zip lifted_1 (List.zip a_modulus a_a))) fun found_2 =>
  .go found_2) (List.reverse a_b) found_1).out fun s_1 =>
  s_1)
abbrev TmP (p : Int) (m a b : List Int) : Prop := 0 < p ∧ Sz 10 p ∧ m.length ≤ 12 ∧ Dg m ∧ Dg a ∧ Dg b ∧ a.length + 1 = m.length ∧ 2 ≤ m.length
theorem tm_0 {p : Int} {m a b f : List Int} (hp : TmP p m a b) (e : f = List.replicate (Int.toNat ((m.length : Int) - 1)) 0) : Dg f ∧ f.length + 1 = m.length := by
  subst e
  refine ⟨fun z hz => ?_, ?_⟩
  · rw [List.eq_of_mem_replicate hz]
    exact sz_lit (by decide +kernel)
  · rw [List.length_replicate]
    have := hp.2.2.2.2.2.2.2
    omega
theorem tm_len {p : Int} {m a b s : List Int} (hp : TmP p m a b) (hj : Dg s ∧ s.length + 1 = m.length) : (List.zip ([(0 : Int)] ++ s.dropLast) (List.zip m a)).length = s.length := by
  have h1 := hp.2.2.2.2.2.2.1
  have h2 := hp.2.2.2.2.2.2.2
  refine zip3_len (n := s.length) ?_ (by omega) (by omega)
  rw [List.length_append, List.length_dropLast, List.length_singleton]
  omega
theorem tm_step {p x : Int} {m a b : List Int} {s s' : List Int} (hp : TmP p m a b) (hj : Dg s ∧ s.length + 1 = m.length) (h : (bnd (ix s (-(1 : Int))) fun top_1 =>
  bnd ([(0 : Int)] ++ (List.dropLast s)) fun lifted_1 =>
  bnd (List.map (fun (x_1 : Int × Int × Int) => (((x_1.1 - (top_1 * x_1.2.1)) + (x * x_1.2.2)) % p)) (List.zip lifted_1 (List.zip m a))) fun found_2 =>
  Stp.go (ρ := List Int) found_2) = .go s') : Dg s' ∧ s'.length + 1 = m.length := by
  rw [← Stp.go.inj h]
  refine ⟨fun z hz => ?_, ?_⟩
  · obtain ⟨q, _, e⟩ := List.mem_map.mp hz
    rw [← e]
    exact dg_mod hp.1 hp.2.1
  · rw [List.length_map, tm_len hp hj]
    exact hj.2
theorem tm_rep {p : Int} {m a b : List Int} (hp : TmP p m a b) : (m.length : Int) - 1 ≤ sizeLine := by
  have := hp.2.2.1
  exact Int.le_trans (b := 12) (by omega) (by decide)
theorem tm_cat {p : Int} {m a b s : List Int} (hp : TmP p m a b) (hj : Dg s ∧ s.length + 1 = m.length) : [(0 : Int)].length + s.dropLast.length ≤ sizeLine := by
  have h1 := hp.2.2.1
  have h2 := hj.2
  rw [List.length_dropLast, List.length_singleton]
  exact Nat.le_trans (m := 12) (by omega) (by decide)
theorem tm_zip {p : Int} {m a b l : List Int} (hp : TmP p m a b) : (List.zip l (List.zip m a)).length ≤ sizeLine := by
  have h1 := hp.2.2.1
  rw [List.length_zip, List.length_zip]
  exact Nat.le_trans (m := 12) (by omega) (by decide)
theorem zip3_mem {α β γ : Type} {a : List α} {b : List β} {c : List γ} {q : α × β × γ} (h : q ∈ List.zip a (List.zip b c)) : q.1 ∈ a ∧ q.2.1 ∈ b ∧ q.2.2 ∈ c := by
  obtain ⟨x, y⟩ := q
  have h1 := List.of_mem_zip h
  obtain ⟨y1, y2⟩ := y
  have h2 := List.of_mem_zip h1.2
  exact ⟨h1.1, h2.1, h2.2⟩
theorem tm_mul1 {p t : Int} {m a b s l : List Int} {q : Int × Int × Int} (hp : TmP p m a b) (hj : Dg s ∧ s.length + 1 = m.length) (e : t = ix s (-1)) (h : q ∈ List.zip l (List.zip m a)) : CMulW t q.2.1 := by
  rw [e]
  exact sz_mulW (hj.1 _ (ix_mem (inbl (tm_ne hp hj)))) (hp.2.2.2.1 _ (zip3_mem h).2.1)
theorem tm_mul2 {p d : Int} {m a b l : List Int} {q : Int × Int × Int} (hp : TmP p m a b) (hd : d ∈ List.reverse b) (h : q ∈ List.zip l (List.zip m a)) : CMulW d q.2.2 :=
  sz_mulW (hp.2.2.2.2.2.1 _ (List.mem_reverse.mp hd)) (hp.2.2.2.2.1 _ (zip3_mem h).2.2)


theorem ok_times_modulo (T : Tx P K mg) : Cl P w K mg base 1 "times_modulo" (spF (fun a : Int × (List Int) × (List Int) × (List Int) => [.val yI a.1, .val (yT yI) a.2.1, .val (yL yI) a.2.2.1, .val (yL yI) a.2.2.2]) (fun a : Int × (List Int) × (List Int) × (List Int) => 0 < a.1 ∧ Sz 10 a.1 ∧ a.2.1.length ≤ 12 ∧ Dg a.2.1 ∧ Dg a.2.2.1 ∧ Dg a.2.2.2 ∧ a.2.2.1.length + 1 = a.2.1.length ∧ 2 ≤ a.2.1.length) (yL yI) (fun a => m_times_modulo a.1 a.2.1 a.2.2.1 a.2.2.2)) := by
  obtain ⟨f, fd, hg, FD⟩ := T.g_times_modulo
  refine ⟨f, fd, ["prime", "modulus", "a", "b"], ?_, hg, FD.kp, FD.bindsN fun _ _ _ _ _ _ us hl => match us, hl with | [_, _, _, _], _ => rfl⟩
  refine TL.FunD.okC (N := ["prime", "modulus", "a", "b", "found", "digit", "top", "lifted", "low", "m", "x"]) FD sc_times_modulo (lenF fun _ => rfl) fun cdv A outer s H E hr => ?_
  refine ⟨_, (pss_cons (ps_set (i := 4) sc_times_modulo.nd rfl (by first | exact .inl rfl | exact .inr rfl) (pe_op op_rep (pe_lst (pa_cons pe_int pa_nil)) (pe_op op_sub (pe_callB call_len_seq (by rfl) T.b_len (by decide +kernel) (pa_cons (pv 1) pa_nil)) pe_int))) (pss_cons (ps_for (passes_of rfl) rfl (RT.pi_revA (by rfl) T.b_reversed (pv 3)) (pg_name (i := 5) sc_times_modulo.nd (by rfl) (by first | exact .inl rfl | exact .inr rfl)) (pss_cons (ps_set (i := 6) sc_times_modulo.nd rfl (by first | exact .inl rfl | exact .inr rfl) (pe_ix (ixL_K (K := K) rfl) (pv 4) (pe_un un_neg pe_int) (fun _ _ => rfl))) (pss_cons (ps_set (i := 7) sc_times_modulo.nd rfl (by first | exact .inl rfl | exact .inr rfl) (pe_op op_cat (pe_lst (pa_cons pe_int pa_nil)) (pe_slice sl_list (pv 4) po_none (po_some (pe_un un_neg pe_int))))) (pss_cons (ps_setLc (i := 4) (own := [("low", 8), ("m", 9), ("x", 10)]) (tt := tYes) rfl sc_times_modulo.nd rfl rfl (sw_true rfl rfl rfl (by decide +kernel)) (pi_zip3 true false true (by rfl) T.b_zip (pa_cons (pv 7) (pa_cons (pv 1) (pa_cons (pv 2) pa_nil)))) (by first | exact blkOk_by (N := ["prime", "modulus", "a", "b", "found", "digit", "top", "lifted", "low", "m", "x"]) (sc := defScope s_times_modulo) (by decide +kernel) | exact blkOk_by rfl) (fun _ _ _ _ _ => (pg_tupK (K := K) (n := 3) rfl (by rfl) (pgs_cons (pg_name (i := 8) sc_times_modulo.nd (by rfl) (by first | exact .inl rfl | exact .inr rfl)) (pgs_cons (pg_name (i := 9) sc_times_modulo.nd (by rfl) (by first | exact .inl rfl | exact .inr rfl)) (pgs_cons (pg_name (i := 10) sc_times_modulo.nd (by rfl) (by first | exact .inl rfl | exact .inr rfl)) pgs_nil))))) (fun _ _ _ _ _ => pts_nil) (fun _ _ _ _ _ => (pe_op op_mod (pe_op op_add (pe_op op_sub (pv 8) (pe_op op_mulW (pv 6) (pv 9))) (pe_op op_mulW (pv 5) (pv 10))) (pv 0)))) pss_nil)))) (pss_cons (ps_ret (pv 4)) pss_nil))), fun vs Q h => run_F (fun F a rt hpre => ?_) vs H Q E h⟩
  show Bd _ _ _ _ _ _ (m_times_modulo a.1 a.2.1 a.2.2.1 a.2.2.2)
  unfold m_times_modulo
  refine b_let (ev_l (evl_rep1 (evl_lst (t := yI) (xs := [(0 : Int)]) (ea_cons ev_int ea_nil) rfl (lit_len 1 rfl (by decide))) (ev_sub (ev_lenT ev_var) ev_int) (by exact tm_rep hpre) (by omega))) fun found_1 hfound_1 => ?_
  refine b_for _ (fun (s_1 : (List Int)) => ([] : Own)) (fun (s_1 : (List Int)) => (⟨[.val yI a.1, .val (yT yI) a.2.1, .val (yL yI) a.2.2.1, .val (yL yI) a.2.2.2, .val (yL yI) s_1, .any, .any, .any, .any, .any, .any], []⟩ : Lc)) (fun pre s => Dg s ∧ s.length + 1 = a.2.1.length) found_1 (iv_revAL ev_var) (tg_name 5) rfl ⟨(.cons (.inl rfl) (.cons (.inl rfl) (.cons (.inl rfl) (.cons (.inl rfl) (.cons (.inl rfl) (.cons (.inr rfl) (.cons (.inr rfl) (.cons (.inr rfl) (.cons (.inr rfl) (.cons (.inr rfl) (.cons (.inr rfl) .nil))))))))))), rfl⟩ (tm_0 hpre hfound_1) (fun pre x post s s' e hj h => tm_step hpre hj h) (fun gs_1 pre digit_1 post s_1 he_1 hj_1 N B P' hgo_1 hret_1 => ?_) (fun s_1 hj_2 => ?_)
  · have hmdigit_1 : digit_1 ∈ (List.reverse a.2.2.2) := by rw [he_1]; exact List.mem_append_right _ List.mem_cons_self
    refine b_let (ev_ixL ev_var (ev_neg ev_int) (by exact inbl (tm_ne hpre hj_1))) fun top_1 htop_1 => ?_
    refine b_let (ev_l (evl_cat (ev_l (evl_lst (t := yI) (xs := [(0 : Int)]) (ea_cons ev_int ea_nil) rfl (lit_len 1 rfl (by decide)))) (ev_l (evl_initL ev_var (ev_neg ev_int))) (by exact tm_cat hpre hj_1))) fun lifted_1 hlifted_1 => ?_
    refine b_let (ev_l (lc_map (fun (x_1 : (Int × Int × Int)) => (((x_1.1 - (top_1 * x_1.2.1)) + (digit_1 * x_1.2.2)) % a.1)) (iv_zip3 (t := yI) (u := yI) (w := yI) true false true ev_var ev_var ev_var) (tg_triple (tg_name 8) (tg_name 9) (tg_name 10)) (by decide) (by exact tm_zip hpre) (fun D gs x_1 hm_1 => (ev_mod (ev_add (ev_sub ev_var (ev_mul ev_var ev_var (by exact tm_mul1 hpre hj_1 htop_1 ‹_›))) (ev_mul ev_var ev_var (by exact tm_mul2 hpre hmdigit_1 ‹_›))) ev_var (by exact hpre.1))))) fun found_2 hfound_2 => ?_
    exact b_next fun h => nx_wk (hgo_1 _ h) ⟨(.cons (.inl rfl) (.cons (.inl rfl) (.cons (.inl rfl) (.cons (.inl rfl) (.cons (.inl rfl) (.cons (.inr rfl) (.cons (.inr rfl) (.cons (.inr rfl) (.cons (.inr rfl) (.cons (.inr rfl) (.cons (.inr rfl) .nil))))))))))), rfl⟩
  · exact b_seq (b_ret ev_var (fun h => h _))

theorem tm_post {p : Int} {m a b : List Int} (hp : TmP p m a b) : Dg (m_times_modulo p m a b) ∧ (m_times_modulo p m a b).length + 1 = m.length := by
  unfold m_times_modulo
  simp only [bnd]
  generalize hW : @forL (List Int) (List Int) Int _ _ _ = W
  have : ∃ s', W = .go s' ∧ Dg s' ∧ s'.length + 1 = m.length := by
    rw [← hW]
    exact forL_go0 (fun _ s => Dg s ∧ s.length + 1 = m.length) (tm_0 hp rfl) fun q x r s e hj => ⟨_, rfl, tm_step (x := x) hp hj rfl⟩
  obtain ⟨s, rfl, h⟩ := this
  exact h

theorem sc_raised_modulo : FnScope ["prime", "modulus", "a", "exponent", "found", "factor", "left"] ["prime", "modulus", "a", "exponent"] (defScope s_raised_modulo) := ⟨rfl, rfl, rfl, by decide +kernel, rfl, by decide +kernel, by decide +kernel⟩
def m_raised_modulo (a_prime : Int) (a_modulus : (List Int)) (a_a : (List Int)) (a_exponent : Int) : (List Int) :=
  bnd (m_base_digits a_prime ((a_modulus.length : Int) - (1 : Int)) (1 : Int)) fun found_1 =>
  bnd a_a fun factor_1 =>
  bnd a_exponent fun left_1 =>
  ((whileL (fun s_1 : (List Int) × (List Int) × Int => ((0 : Int) < s_1.2.2)) (fun s_1 =>
  bnd (if ((s_1.2.2 % (2 : Int)) = (1 : Int)) then (m_times_modulo a_prime a_modulus s_1.1 s_1.2.1) else s_1.1) fun found_2 =>
  bnd (m_times_modulo a_prime a_modulus s_1.2.1 s_1.2.1) fun factor_2 =>
  bnd (s_1.2.2 / (2 : Int)) fun left_2 =>
  .go (found_2, factor_2, left_2)) ((fun s => s.2.2.toNat) (found_1, factor_1, left_1) + 1) (found_1, factor_1, left_1)).out fun s_1 =>
  s_1.1)
theorem bd_post {b n : Int} {m : Nat} (hb : 0 < b) (hs : Sz 10 b) : Dg (m_base_digits b (m : Int) n) ∧ (m_base_digits b (m : Int) n).length = m := by
  unfold m_base_digits
  simp only [bnd]
  generalize hW : @forL (Int × List Int) (List Int) Int _ _ _ = W
  have : ∃ s', W = .go s' ∧ Dg s'.2 ∧ s'.2.length = (rng 0 (Int.toNat (m : Int))).length := by
    rw [← hW]
    refine forL_go0 (fun pre (s : Int × List Int) => Dg s.2 ∧ s.2.length = pre.length) ⟨fun z hz => (by cases hz), rfl⟩ fun q x r s e hj => ⟨_, rfl, fun z hz => ?_, ?_⟩
    · rcases List.mem_append.mp hz with h | h
      · exact hj.1 z h
      · rw [List.mem_singleton.mp h]
        exact dg_mod hb hs
    · rw [List.length_append, List.length_append, hj.2]
      rfl
  obtain ⟨s, rfl, h1, h2⟩ := this
  refine ⟨h1, ?_⟩
  show s.2.length = m
  rw [h2, rng_length]
  omega
theorem rm_bd {p : Int} {m a b : List Int} (hp : TmP p m a b) : 0 < p ∧ Sz 20 p ∧ 0 ≤ (m.length : Int) - 1 ∧ (m.length : Int) - 1 ≤ 20 := by
  have h1 := hp.2.2.1
  have h2 := hp.2.2.2.2.2.2.2
  exact ⟨hp.1, sz_mono hp.2.1 (by omega), by omega, by omega⟩
abbrev RmJ (p : Int) (m x : List Int) : Prop := TmP p m x x
theorem rm_0 {p : Int} {m a f g : List Int} (hp : TmP p m a a) (e1 : f = m_base_digits p ((m.length : Int) - 1) 1) (e2 : g = a) : RmJ p m f ∧ RmJ p m g := by
  subst e2
  refine ⟨?_, hp⟩
  obtain ⟨h1, h2, h3, h4, h5, h6, h7, h8⟩ := hp
  have e3 : (m.length : Int) - 1 = ((m.length - 1 : Nat) : Int) := by omega
  rw [e3] at e1
  obtain ⟨k1, k2⟩ := bd_post (n := 1) (m := m.length - 1) h1 h2
  rw [← e1] at k1 k2
  exact ⟨h1, h2, h3, h4, k1, k1, by omega, h8⟩
theorem rm_t1 {p : Int} {m x y : List Int} (hj : RmJ p m x ∧ RmJ p m y) : TmP p m x y := by
  obtain ⟨⟨h1, h2, h3, h4, h5, h6, h7, h8⟩, ⟨_, _, _, _, _, k6, _, _⟩⟩ := hj
  exact ⟨h1, h2, h3, h4, h5, k6, h7, h8⟩
theorem rm_tm {p : Int} {m x y : List Int} (h : TmP p m x y) : RmJ p m (m_times_modulo p m x y) := by
  obtain ⟨k1, k2⟩ := tm_post h
  obtain ⟨h1, h2, h3, h4, h5, h6, h7, h8⟩ := h
  exact ⟨h1, h2, h3, h4, k1, k1, k2, h8⟩
theorem rm_step {p : Int} {m : List Int} {s s' : List Int × List Int × Int} (hj : RmJ p m s.1 ∧ RmJ p m s.2.1) (hc : 0 < s.2.2) (e : (bnd (if ((s.2.2 % (2 : Int)) = (1 : Int)) then (m_times_modulo p m s.1 s.2.1) else s.1) fun found_2 =>
  bnd (m_times_modulo p m s.2.1 s.2.1) fun factor_2 =>
  bnd (s.2.2 / (2 : Int)) fun left_2 =>
  Stp.go (ρ := List Int) (found_2, factor_2, left_2)) = .go s') : (RmJ p m s'.1 ∧ RmJ p m s'.2.1) ∧ s'.2.2.toNat < s.2.2.toNat := by
  rw [← Stp.go.inj e]
  refine ⟨⟨?_, rm_tm hj.2⟩, by show (s.2.2 / 2).toNat < _; omega⟩
  show RmJ p m (if _ then _ else _)
  split
  · exact rm_tm (rm_t1 hj)
  · exact hj.1


theorem ok_raised_modulo (T : Tx P K mg) : Cl P w K mg base 2 "raised_modulo" (spF (fun a : Int × (List Int) × (List Int) × Int => [.val yI a.1, .val (yT yI) a.2.1, .val (yL yI) a.2.2.1, .val yI a.2.2.2]) (fun a : Int × (List Int) × (List Int) × Int => TmP a.1 a.2.1 a.2.2.1 a.2.2.1 ∧ a.1 ≤ 1000) (yL yI) (fun a => m_raised_modulo a.1 a.2.1 a.2.2.1 a.2.2.2)) := by
  obtain ⟨f, fd, hg, FD⟩ := T.g_raised_modulo
  refine ⟨f, fd, ["prime", "modulus", "a", "exponent"], ?_, hg, FD.kp, FD.bindsN fun _ _ _ _ _ _ us hl => match us, hl with | [_, _, _, _], _ => rfl⟩
  refine TL.FunD.okC (N := ["prime", "modulus", "a", "exponent", "found", "factor", "left"]) FD sc_raised_modulo (lenF fun _ => rfl) fun cdv A outer s H E hr => ?_
  refine ⟨_, (pss_cons (ps_set (i := 4) sc_raised_modulo.nd rfl (by first | exact .inl rfl | exact .inr rfl) (pe_cl (ok_base_digits T) hr (by decide) (by rfl) passL (pa_cons (pv 0) (pa_cons (pe_op op_sub (pe_callB call_len_seq (by rfl) T.b_len (by decide +kernel) (pa_cons (pv 1) pa_nil)) pe_int) (pa_cons pe_int pa_nil))))) (pss_cons (ps_set (i := 5) sc_raised_modulo.nd rfl (by first | exact .inl rfl | exact .inr rfl) (pv 2)) (pss_cons (ps_set (i := 6) sc_raised_modulo.nd rfl (by first | exact .inl rfl | exact .inr rfl) (pv 3)) (pss_cons (ps_while (passes_of rfl) (pt_cmpR op_gt (pv 6) pe_int (nomark _)) (pss_cons (ps_if (pt_cmpR op_eq (pe_op op_mod (pv 6) pe_int) pe_int (nomark _)) (pss_cons (ps_set (i := 4) sc_raised_modulo.nd rfl (by first | exact .inl rfl | exact .inr rfl) (pe_cl (ok_times_modulo T) hr (by decide) (by rfl) passL (pa_cons (pv 0) (pa_cons (pv 1) (pa_cons (pv 4) (pa_cons (pv 5) pa_nil)))))) pss_nil) pss_nil) (pss_cons (ps_set (i := 5) sc_raised_modulo.nd rfl (by first | exact .inl rfl | exact .inr rfl) (pe_cl (ok_times_modulo T) hr (by decide) (by rfl) passL (pa_cons (pv 0) (pa_cons (pv 1) (pa_cons (pv 5) (pa_cons (pv 5) pa_nil)))))) (pss_cons (ps_set (i := 6) sc_raised_modulo.nd rfl (by first | exact .inl rfl | exact .inr rfl) (pe_op op_fdivW (pv 6) pe_int)) pss_nil)))) (pss_cons (ps_ret (pv 4)) pss_nil))))), fun vs Q h => run_F (fun F a rt hpre => ?_) vs H Q E h⟩
  show Bd _ _ _ _ _ _ (m_raised_modulo a.1 a.2.1 a.2.2.1 a.2.2.2)
  unfold m_raised_modulo
  refine b_let (ev_l (ev_callL (a.1, ((a.2.1.length : Int) - (1 : Int)), (1 : Int)) (ea_cons ev_var (ea_cons (ev_sub (ev_lenT ev_var) ev_int) (ea_cons ev_int ea_nil))) rfl (by exact rm_bd hpre.1))) fun found_1 hfound_1 => ?_
  refine b_let ev_var fun factor_1 hfactor_1 => ?_
  refine b_let ev_var fun left_1 hleft_1 => ?_
  refine b_while _ _ (fun (s_1 : (List Int) × (List Int) × Int) => ([] : Own)) (fun (s_1 : (List Int) × (List Int) × Int) => (⟨[.val yI a.1, .val (yT yI) a.2.1, .val (yL yI) a.2.2.1, .val yI a.2.2.2, .val (yL yI) s_1.1, .val (yL yI) s_1.2.1, .val yI s_1.2.2], []⟩ : Lc)) (fun s => RmJ a.1 a.2.1 s.1 ∧ RmJ a.1 a.2.1 s.2.1) (fun s => s.2.2.toNat) (found_1, factor_1, left_1) rfl ⟨(.cons (.inl rfl) (.cons (.inl rfl) (.cons (.inl rfl) (.cons (.inl rfl) (.cons (.inl rfl) (.cons (.inl rfl) (.cons (.inl rfl) .nil))))))), rfl⟩ (rm_0 hpre.1 hfound_1 hfactor_1) (fun s_1 hj_1 => (tt_d (ev_gt ev_var ev_int))) (fun s s' hj hc e => rm_step hj hc e) (fun s_1 hj_1 hc_1 N B P' hgo_1 hret_1 => ?_) (fun s_1 hj_1 hc_2 => ?_)
  · refine b_join (fun (found_2 : (List Int)) => (⟨[.val yI a.1, .val (yT yI) a.2.1, .val (yL yI) a.2.2.1, .val yI a.2.2.2, .val (yL yI) found_2, .val (yL yI) s_1.2.1, .val yI s_1.2.2], []⟩ : Lc)) (fun (found_2 : (List Int)) => ([] : Own)) (tt_d (ev_eq (ev_mod ev_var ev_int (by first | omega | exact sz_divW (show Sz 2 (2 : Int) from sz_lit (by decide +kernel)) (by omega))) ev_int)) (x1 := (m_times_modulo a.1 a.2.1 s_1.1 s_1.2.1)) (x2 := s_1.1) (fun h_1 => (sx_set (ev_call (a.1, a.2.1, s_1.1, s_1.2.1) (ea_cons ev_var (ea_cons ev_var (ea_cons ev_var (ea_cons ev_var ea_nil)))) rfl (by first | exact rm_t1 hj_1 | exact hj_1.2)) (sx_wk sx_next ⟨(.cons (.inl rfl) (.cons (.inl rfl) (.cons (.inl rfl) (.cons (.inl rfl) (.cons (.inl rfl) (.cons (.inl rfl) (.cons (.inl rfl) .nil))))))), rfl⟩))) (fun h_1 => (sx_wk sx_next ⟨(.cons (.inl rfl) (.cons (.inl rfl) (.cons (.inl rfl) (.cons (.inl rfl) (.cons (.inl rfl) (.cons (.inl rfl) (.cons (.inl rfl) .nil))))))), rfl⟩)) fun found_2 hfound_2 => ?_
    refine b_let (ev_call (a.1, a.2.1, s_1.2.1, s_1.2.1) (ea_cons ev_var (ea_cons ev_var (ea_cons ev_var (ea_cons ev_var ea_nil)))) rfl (by first | exact rm_t1 hj_1 | exact hj_1.2)) fun factor_2 hfactor_2 => ?_
    refine b_let (ev_div ev_var ev_int (by first | omega | exact sz_divW (show Sz 2 (2 : Int) from sz_lit (by decide +kernel)) (by omega))) fun left_2 hleft_2 => ?_
    exact b_next fun h => nx_wk (hgo_1 _ h) ⟨(.cons (.inl rfl) (.cons (.inl rfl) (.cons (.inl rfl) (.cons (.inl rfl) (.cons (.inl rfl) (.cons (.inl rfl) (.cons (.inl rfl) .nil))))))), rfl⟩
  · exact b_seq (b_ret ev_var (fun h => h _))

theorem rm_post {p e : Int} {m a : List Int} (hp : TmP p m a a) : RmJ p m (m_raised_modulo p m a e) := by
  unfold m_raised_modulo
  simp only [bnd]
  have h0 := rm_0 hp rfl rfl
  generalize hW : whileL (ρ := List Int) (S := List Int × List Int × Int) (fun s_1 => (0 : Int) < s_1.2.2) _ _ _ = W
  have : ∃ s', W = .go s' ∧ RmJ p m s'.1 ∧ RmJ p m s'.2.1 := by
    rw [← hW]
    exact whileL_inv (fun s : List Int × List Int × Int => RmJ p m s.1 ∧ RmJ p m s.2.1) (fun s hj hc => ⟨_, rfl, (rm_step (p := p) (m := m) (s := s) hj hc rfl).1⟩) _ _ h0
  obtain ⟨s, rfl, h⟩ := this
  exact h.1

theorem sc_rest : FnScope ["prime", "a", "b", "rest", "inverse", "factor", "start", "at"] ["prime", "a", "b"] (defScope s_rest) := ⟨rfl, rfl, rfl, by decide +kernel, rfl, by decide +kernel, by decide +kernel⟩
def m_rest (a_prime : Int) (a_a : (List Int)) (a_b : (List Int)) : (List Int) :=
  bnd a_a fun rest_1 =>
  bnd (m_power_modulo (ix a_b (-(1 : Int))) (a_prime - (2 : Int)) a_prime) fun inverse_1 =>
  ((whileL (fun s_1 : List Int => ((a_b.length : Int) ≤ (s_1.length : Int))) (fun s_1 =>
  bnd (((ix s_1 (-1)) * inverse_1) % a_prime) fun factor_1 =>
  bnd ((((List.dropLast s_1).length : Int) + (1 : Int)) - (a_b.length : Int)) fun start_1 =>
  ((forL (fun (s_2 : List Int) at_1 =>
  .go (setI s_2 (start_1 + at_1) (((ix s_2 (start_1 + at_1)) - (factor_1 * (ix a_b at_1))) % a_prime))) (rng 0 (Int.toNat ((a_b.length : Int) - (1 : Int)))) (List.dropLast s_1)).out fun s_2 =>
  .go s_2)) ((fun s => s.length) rest_1 + 1) rest_1).out fun s_1 =>
  (m_trimmed s_1))
theorem pm_post {n e m : Int} (hm : 0 < m) : 0 ≤ m_power_modulo n e m ∧ m_power_modulo n e m < m := by
  unfold m_power_modulo
  simp only [bnd]
  have h0 := pm_0 (n := n) hm rfl rfl
  generalize hW : whileL (ρ := Int) (S := Int × Int × Int) (fun s_1 => (0 : Int) < s_1.2.2) _ _ _ = W
  have : ∃ s', W = .go s' ∧ (0 ≤ s'.1 ∧ s'.1 < m) ∧ 0 ≤ s'.2.1 ∧ s'.2.1 < m := by
    rw [← hW]
    exact whileL_inv (fun s : Int × Int × Int => (0 ≤ s.1 ∧ s.1 < m) ∧ 0 ≤ s.2.1 ∧ s.2.1 < m) (fun s hj hc => ⟨_, rfl, (pm_step hm hj hc rfl).1⟩) _ _ h0
  obtain ⟨s, rfl, h⟩ := this
  exact h.1
theorem setI_len {α : Type} (xs : List α) (i : Int) (x : α) : (setI xs i x).length = xs.length := by
  unfold setI
  split
  · exact List.length_set
  · rfl
theorem setI_mem {α : Type} {xs : List α} {i : Int} {x z : α} (h : z ∈ setI xs i x) : z ∈ xs ∨ z = x := by
  unfold setI at h
  split at h
  · exact List.mem_or_eq_of_mem_set h
  · exact .inl h
theorem setI_dg {xs : List Int} {i x : Int} (h : Dg xs) (hx : Sz 10 x) : Dg (setI xs i x) := fun z hz => by
  rcases setI_mem hz with k | k
  · exact h z k
  · rw [k]; exact hx
theorem dg_drop {xs : List Int} (h : Dg xs) : Dg xs.dropLast := fun z hz => h z (List.dropLast_subset _ hz)
abbrev RsP (p : Int) (a b : List Int) : Prop := 2 ≤ p ∧ Sz 10 p ∧ b ≠ [] ∧ Dg b ∧ Dg a ∧ b.length ≤ 12
theorem rs_ne {p : Int} {a b s : List Int} (hp : RsP p a b) (hc : (b.length : Int) ≤ (s.length : Int)) : s ≠ [] := fun z => by
  have := List.length_pos_iff.mpr hp.2.2.1
  rw [z, List.length_nil] at hc
  omega
theorem rs_inv {p n e x : Int} {a b : List Int} (hp : RsP p a b) (h : x = m_power_modulo n e p) : Sz 10 x := by
  have := pm_post (n := n) (e := e) (m := p) (by have := hp.1; omega)
  rw [← h] at this
  exact sz_le hp.2.1 (by omega)
theorem rs_fac {p x y : Int} {a b : List Int} (hp : RsP p a b) (h : x = y % p) : Sz 10 x := by
  rw [h]
  exact dg_mod (by have := hp.1; omega) hp.2.1
theorem rs_in {p st at_ : Int} {a b s s2 : List Int} (h1 : st = (s.dropLast.length : Int) + 1 - (b.length : Int)) (h2 : s2.length = s.dropLast.length) (h3 : at_ ∈ rng 0 (Int.toNat ((b.length : Int) - 1))) (hc : (b.length : Int) ≤ (s.length : Int)) (hp : RsP p a b) : Inb s2 (st + at_) := by
  have h4 := mem_rng h3
  have h5 := List.length_pos_iff.mpr hp.2.2.1
  rw [List.length_dropLast] at h1 h2
  unfold Inb
  omega
theorem rs_b {at_ : Int} {b : List Int} (h3 : at_ ∈ rng 0 (Int.toNat ((b.length : Int) - 1))) : Inb b at_ := by
  have h4 := mem_rng h3
  unfold Inb
  omega
theorem rs_in_step {ρ : Type} {p i x : Int} {n : Nat} {a b s s' : List Int} (hp : RsP p a b) (hj : Dg s ∧ s.length = n) (h : Stp.go (ρ := ρ) (setI s i (x % p)) = .go s') : Dg s' ∧ s'.length = n := by
  rw [← Stp.go.inj h]
  exact ⟨setI_dg hj.1 (dg_mod (by have := hp.1; omega) hp.2.1), by rw [setI_len]; exact hj.2⟩
theorem rs_step {p inv : Int} {a b s s' : List Int} (hp : RsP p a b) (hj : Dg s) (hc : (b.length : Int) ≤ (s.length : Int)) (e : (bnd (((ix s (-1)) * inv) % p) fun factor_1 =>
  bnd ((((List.dropLast s).length : Int) + (1 : Int)) - (b.length : Int)) fun start_1 =>
  ((forL (ρ := Stp (List Int) (List Int)) (fun (s_2 : List Int) at_1 =>
  .go (setI s_2 (start_1 + at_1) (((ix s_2 (start_1 + at_1)) - (factor_1 * (ix b at_1))) % p))) (rng 0 (Int.toNat ((b.length : Int) - (1 : Int)))) (List.dropLast s)).out fun s_2 =>
  Stp.go (ρ := List Int) s_2)) = .go s') : Dg s' ∧ s'.length < s.length := by
  simp only [bnd] at e
  generalize hW : @forL (List Int) (Stp (List Int) (List Int)) Int _ _ _ = W at e
  have : ∃ s', W = .go s' ∧ Dg s' ∧ s'.length = s.dropLast.length := by
    rw [← hW]
    exact forL_go0 (fun _ s' => Dg s' ∧ s'.length = s.dropLast.length) ⟨dg_drop hj, rfl⟩ fun q x r s e hj => ⟨_, rfl, rs_in_step (ρ := List Int) hp hj rfl⟩
  obtain ⟨t, rfl, h1, h2⟩ := this
  rw [← Stp.go.inj e]
  refine ⟨h1, ?_⟩
  rw [h2, List.length_dropLast]
  have := List.length_pos_iff.mpr (rs_ne hp hc)
  omega


theorem ok_rest (T : Tx P K mg) : Cl P w K mg base 2 "_rest" (spF (fun a : Int × (List Int) × (List Int) => [.val yI a.1, .val (yLT yI) a.2.1, .val (yL yI) a.2.2]) (fun a : Int × (List Int) × (List Int) => 2 ≤ a.1 ∧ Sz 10 a.1 ∧ a.2.2 ≠ [] ∧ Dg a.2.2 ∧ Dg a.2.1 ∧ a.2.2.length ≤ 12) (yL yI) (fun a => m_rest a.1 a.2.1 a.2.2)) := by
  obtain ⟨f, fd, hg, FD⟩ := T.g_rest
  refine ⟨f, fd, ["prime", "a", "b"], ?_, hg, FD.kp, FD.bindsN fun _ _ _ _ _ _ us hl => match us, hl with | [_, _, _], _ => rfl⟩
  refine TL.FunD.okC (N := ["prime", "a", "b", "rest", "inverse", "factor", "start", "at"]) FD sc_rest (lenF fun _ => rfl) fun cdv A outer s H E hr => ?_
  refine ⟨_, (pss_cons (ps_set (i := 3) sc_rest.nd rfl (by first | exact .inl rfl | exact .inr rfl) (pe_callTy (call_list_K (K := K) rfl) (by rfl) T.b_list (by decide +kernel) (pa_cons (pv 1) pa_nil))) (pss_cons (ps_set (i := 4) sc_rest.nd rfl (by first | exact .inl rfl | exact .inr rfl) (pe_cl (ok_power_modulo T) hr (by decide) (by rfl) passL (pa_cons (pe_ix (ixL_K (K := K) rfl) (pv 2) (pe_un un_neg pe_int) (fun _ _ => rfl)) (pa_cons (pe_op op_sub (pv 0) pe_int) (pa_cons (pv 0) pa_nil))))) (pss_cons (ps_while (passes_of rfl) (pt_cmpR op_ge (pe_callB call_len_seq (by rfl) T.b_len (by decide +kernel) (pa_cons (pv 3) pa_nil)) (pe_callB call_len_seq (by rfl) T.b_len (by decide +kernel) (pa_cons (pv 2) pa_nil)) (nomark _)) (pss_cons (ps_set (i := 5) sc_rest.nd rfl (by first | exact .inl rfl | exact .inr rfl) (pe_op op_mod (pe_op op_mulW (pe_bm0 PySem.F.plainAttrs_list PySem.F.slot_list_pop PySem.F.type_list_pop mt_pop (pv 3)) (pv 4)) (pv 0))) (pss_cons (ps_set (i := 6) sc_rest.nd rfl (by first | exact .inl rfl | exact .inr rfl) (pe_op op_sub (pe_op op_add (pe_callB call_len_seq (by rfl) T.b_len (by decide +kernel) (pa_cons (pv 3) pa_nil)) pe_int) (pe_callB call_len_seq (by rfl) T.b_len (by decide +kernel) (pa_cons (pv 2) pa_nil)))) (pss_cons (ps_for (passes_of rfl) rfl (pi_range1 (by rfl) T.b_range (pa_cons (pe_op op_sub (pe_callB call_len_seq (by rfl) T.b_len (by decide +kernel) (pa_cons (pv 2) pa_nil)) pe_int) pa_nil)) (pg_name (i := 7) sc_rest.nd (by rfl) (by first | exact .inl rfl | exact .inr rfl)) (pss_cons (ps_asg (pe_op op_mod (pe_op op_sub (pe_ix (ixL_K (K := K) rfl) (pv 3) (pe_op op_add (pv 6) (pv 7)) (fun _ _ => rfl)) (pe_op op_mulW (pv 5) (pe_ix (ixL_K (K := K) rfl) (pv 2) (pv 7) (fun _ _ => rfl)))) (pv 0)) (pg_sub (pv 3) (pe_op op_add (pv 6) (pv 7)) set_list)) pss_nil)) pss_nil)))) (pss_cons (ps_ret (pe_cl (ok_trimmed T) hr (by decide) (by rfl) passL (pa_cons (pv 3) pa_nil))) pss_nil)))), fun vs Q h => run_F (fun F a rt hpre => ?_) vs H Q E h⟩
  show Bd _ _ _ _ _ _ (m_rest a.1 a.2.1 a.2.2)
  unfold m_rest
  refine b_letO (evl_listLT ev_var) fun p_1 rest_1 hrest_1 => ?_
  refine b_let (ev_call ((ix a.2.2 (-(1 : Int))), (a.1 - (2 : Int)), a.1) (ea_cons (ev_ixL ev_var (ev_neg ev_int) (by exact inbl hpre.2.2.1)) (ea_cons (ev_sub ev_var ev_int) (ea_cons ev_var ea_nil))) rfl (by exact ⟨show (0 : Int) < a.1 by have := hpre.1; omega, sz_mono hpre.2.1 (by omega)⟩)) fun inverse_1 hinverse_1 => ?_
  refine b_while _ _ (fun (s_1 : List Int) => ([(p_1, cL yI s_1)] : Own)) (fun (s_1 : List Int) => (⟨[.val yI a.1, .val (yLT yI) a.2.1, .val (yL yI) a.2.2, .val (yV (.ref p_1)) (), .val yI inverse_1, .any, .any, .any], []⟩ : Lc)) (fun s => Dg s) (fun s => s.length) rest_1 rfl ⟨(.cons (.inl rfl) (.cons (.inl rfl) (.cons (.inl rfl) (.cons (.inl rfl) (.cons (.inl rfl) (.cons (.inr rfl) (.cons (.inr rfl) (.cons (.inr rfl) .nil)))))))), rfl⟩ (by rw [hrest_1]; exact hpre.2.2.2.2.1) (fun s_1 hj_1 => (tt_d (ev_ge (ev_lenO (t := yI) (xs := s_1) 0 ev_var) (ev_lenL ev_var)))) (fun s s' hj hc e => rs_step hpre hj hc e) (fun s_1 hj_1 hc_1 N B P' hgo_1 hret_1 => ?_) (fun s_1 hj_1 hc_2 => ?_)
  · refine b_let (ev_mod (ev_mul (ev_popT (t := yI) (xs := s_1) 0 ev_var (by exact rs_ne hpre hc_1)) ev_var (by exact sz_mulW (hj_1 _ (ix_mem (inbl (rs_ne hpre hc_1)))) (rs_inv hpre hinverse_1))) ev_var (by omega)) fun factor_1 hfactor_1 => ?_
    refine b_let (ev_sub (ev_add (ev_lenO (t := yI) (xs := (List.dropLast s_1)) 0 ev_var) ev_int) (ev_lenL ev_var)) fun start_1 hstart_1 => ?_
    refine b_for _ (fun (s_2 : List Int) => ([(p_1, cL yI s_2)] : Own)) (fun (s_2 : List Int) => (⟨[.val yI a.1, .val (yLT yI) a.2.1, .val (yL yI) a.2.2, .val (yV (.ref p_1)) (), .val yI inverse_1, .val yI factor_1, .val yI start_1, .any], []⟩ : Lc)) (fun _ s => Dg s ∧ s.length = (List.dropLast s_1).length) (List.dropLast s_1) (iv_rng1 (ev_sub (ev_lenL ev_var) ev_int) (by omega) (by omega)) (tg_name 7) rfl ⟨(.cons (.inl rfl) (.cons (.inl rfl) (.cons (.inl rfl) (.cons (.inl rfl) (.cons (.inl rfl) (.cons (.inl rfl) (.cons (.inl rfl) (.cons (.inr rfl) .nil)))))))), rfl⟩ ⟨fun z hz => hj_1 z (List.dropLast_subset _ hz), rfl⟩ (fun pre x post s s' e hj h => rs_in_step hpre hj h) (fun gs_1 pre at_1 post s_2 he_1 hj_2 N B P' hgo_2 hret_2 => ?_) (fun s_2 hj_3 => ?_)
    · have hmat_1 : at_1 ∈ (rng 0 (Int.toNat ((a.2.2.length : Int) - (1 : Int)))) := by rw [he_1]; exact List.mem_append_right _ List.mem_cons_self
      refine b_setI (t := yI) (xs := s_2) 0 (ev_mod (ev_sub (ev_ixO (t := yI) (xs := s_2) 0 ev_var (ev_add ev_var ev_var) (by exact rs_in hstart_1 hj_2.2 hmat_1 hc_1 hpre)) (ev_mul ev_var (ev_ixL ev_var ev_var (by exact rs_b hmat_1)) (by exact sz_mulW (rs_fac hpre hfactor_1) (hpre.2.2.2.1 _ (ix_mem (rs_b hmat_1)))))) ev_var (by omega)) ev_var (ev_add ev_var ev_var) (by exact rs_in hstart_1 hj_2.2 hmat_1 hc_1 hpre) rfl ?_
      exact b_next fun h => nx_wk (hgo_2 _ h) ⟨(.cons (.inl rfl) (.cons (.inl rfl) (.cons (.inl rfl) (.cons (.inl rfl) (.cons (.inl rfl) (.cons (.inl rfl) (.cons (.inl rfl) (.cons (.inr rfl) .nil)))))))), rfl⟩
    · exact b_next fun h => nx_wk (hgo_1 _ h) ⟨(.cons (.inl rfl) (.cons (.inl rfl) (.cons (.inl rfl) (.cons (.inl rfl) (.cons (.inl rfl) (.cons (.inr rfl) (.cons (.inr rfl) (.cons (.inr rfl) .nil)))))))), rfl⟩
  · exact b_seq (b_ret (ev_l (ev_callL s_1 (ea_cons (ev_frz (t := yI) (xs := s_1) 0 ev_var) ea_nil) rfl trivial)) (fun h => h _))

theorem tr_post (xs : List Int) : (∀ z ∈ m_trimmed xs, z ∈ xs) ∧ (m_trimmed xs).length ≤ xs.length := by
  unfold m_trimmed
  simp only [bnd]
  generalize hW : whileL (ρ := List Int) (fun s_1 : List Int => s_1 ≠ [] ∧ ix s_1 (-1) = 0) _ _ _ = W
  have : ∃ s', W = .go s' ∧ (∀ z ∈ s', z ∈ xs) ∧ s'.length ≤ xs.length := by
    rw [← hW]
    refine whileL_inv (fun s : List Int => (∀ z ∈ s, z ∈ xs) ∧ s.length ≤ xs.length) (fun s hj hc => ⟨_, rfl, fun z hz => hj.1 z (List.dropLast_subset _ hz), ?_⟩) _ _ ⟨fun z hz => hz, Nat.le_refl _⟩
    rw [List.length_dropLast]
    have := hj.2
    omega
  obtain ⟨s, rfl, h⟩ := this
  exact h
theorem tr_dg {xs : List Int} (h : Dg xs) : Dg (m_trimmed xs) := fun z hz => h z ((tr_post xs).1 z hz)
theorem rs_post {p : Int} {a b : List Int} (hp : RsP p a b) : Dg (m_rest p a b) ∧ (m_rest p a b).length < b.length := by
  unfold m_rest
  simp only [bnd]
  generalize hW : whileL (ρ := List Int) (fun s_1 : List Int => (b.length : Int) ≤ (s_1.length : Int)) _ _ _ = W
  have : ∃ s', W = .go s' ∧ Dg s' ∧ ¬ (b.length : Int) ≤ (s'.length : Int) := by
    rw [← hW]
    refine whileL_end (c := fun s_1 : List Int => (b.length : Int) ≤ (s_1.length : Int)) (fun s : List Int => Dg s) (fun s => s.length) (fun s hj hc => ?_) _ _ hp.2.2.2.2.1 (Nat.lt_succ_self _)
    generalize hV : @forL (List Int) (Stp (List Int) (List Int)) Int _ _ _ = W2
    have : ∃ s', W2 = .go s' ∧ Dg s' ∧ s'.length = s.dropLast.length := by
      rw [← hV]
      exact forL_go0 (fun _ s' => Dg s' ∧ s'.length = s.dropLast.length) ⟨dg_drop hj, rfl⟩ fun q x r s e hj => ⟨_, rfl, rs_in_step (ρ := List Int) hp hj rfl⟩
    obtain ⟨t, rfl, h1, h2⟩ := this
    refine ⟨t, rfl, h1, ?_⟩
    rw [h2, List.length_dropLast]
    have := List.length_pos_iff.mpr (rs_ne hp hc)
    omega
  obtain ⟨s, rfl, h1, h2⟩ := this
  show Dg (m_trimmed s) ∧ (m_trimmed s).length < b.length
  have := (tr_post s).2
  exact ⟨tr_dg h1, by omega⟩

theorem sc_are_coprime : FnScope ["prime", "a", "b"] ["prime", "a", "b"] (defScope s_are_coprime) := ⟨rfl, rfl, rfl, by decide +kernel, rfl, by decide +kernel, by decide +kernel⟩
def m_are_coprime (a_prime : Int) (a_a : (List Int)) (a_b : (List Int)) : Bool :=
  ((whileL (fun s_1 : (List Int) × (List Int) => (s_1.2 ≠ [])) (fun s_1 =>
  bnd (s_1.2, (m_rest a_prime s_1.1 s_1.2)) fun x_1 =>
  .go (x_1.1, x_1.2)) ((fun s => s.2.length) (a_a, a_b) + 1) (a_a, a_b)).out fun s_1 =>
  (decide ((s_1.1.length : Int) = (1 : Int))))
theorem ac_step {p : Int} {a b : List Int} {s s' : List Int × List Int} (hp : 2 ≤ p ∧ Sz 10 p ∧ Dg a ∧ Dg b ∧ a.length ≤ 12 ∧ b.length ≤ 12) (hj : Dg s.1 ∧ Dg s.2 ∧ s.1.length ≤ 12 ∧ s.2.length ≤ 12) (hc : s.2 ≠ []) (e : (bnd (s.2, (m_rest p s.1 s.2)) fun x_1 => Stp.go (ρ := Bool) (x_1.1, x_1.2)) = .go s') : (Dg s'.1 ∧ Dg s'.2 ∧ s'.1.length ≤ 12 ∧ s'.2.length ≤ 12) ∧ s'.2.length < s.2.length := by
  rw [← Stp.go.inj e]
  have := rs_post (p := p) (a := s.1) (b := s.2) ⟨hp.1, hp.2.1, hc, hj.2.1, hj.1, hj.2.2.2⟩
  refine ⟨⟨hj.2.1, this.1, hj.2.2.2, ?_⟩, this.2⟩
  show (m_rest p s.1 s.2).length ≤ 12
  have := hj.2.2.2
  omega


theorem ok_are_coprime (T : Tx P K mg) : Cl P w K mg base 3 "_are_coprime" (spF (fun a : Int × (List Int) × (List Int) => [.val yI a.1, .val (yLT yI) a.2.1, .val (yL yI) a.2.2]) (fun a : Int × (List Int) × (List Int) => 2 ≤ a.1 ∧ Sz 10 a.1 ∧ Dg a.2.1 ∧ Dg a.2.2 ∧ a.2.1.length ≤ 12 ∧ a.2.2.length ≤ 12) yB (fun a => m_are_coprime a.1 a.2.1 a.2.2)) := by
  obtain ⟨f, fd, hg, FD⟩ := T.g_are_coprime
  refine ⟨f, fd, ["prime", "a", "b"], ?_, hg, FD.kp, FD.bindsN fun _ _ _ _ _ _ us hl => match us, hl with | [_, _, _], _ => rfl⟩
  refine TL.FunD.okC (N := ["prime", "a", "b"]) FD sc_are_coprime (lenF fun _ => rfl) fun cdv A outer s H E hr => ?_
  refine ⟨_, (pss_cons (ps_while (passes_of rfl) (pt_truth (pv 2) (fun _ => rfl)) (pss_cons (ps_par (i := 1) (j := 2) rfl sc_are_coprime.nd rfl rfl (by decide) rfl rfl (pa_cons (pv 2) (pa_cons (pe_cl (ok_rest T) hr (by decide) (by rfl) passL (pa_cons (pv 0) (pa_cons (pv 1) (pa_cons (pv 2) pa_nil)))) pa_nil)) (by rfl)) pss_nil)) (pss_cons (ps_ret (pe_cmpR op_eq (pe_callB call_len_seq (by rfl) T.b_len (by decide +kernel) (pa_cons (pv 1) pa_nil)) pe_int (nomark _))) pss_nil)), fun vs Q h => run_F (fun F a rt hpre => ?_) vs H Q E h⟩
  show Bd _ _ _ _ _ _ (m_are_coprime a.1 a.2.1 a.2.2)
  unfold m_are_coprime
  refine b_while _ _ (fun (s_1 : (List Int) × (List Int)) => ([] : Own)) (fun (s_1 : (List Int) × (List Int)) => (⟨[.val yI a.1, .val (yLT yI) s_1.1, .val (yL yI) s_1.2], []⟩ : Lc)) (fun s => Dg s.1 ∧ Dg s.2 ∧ s.1.length ≤ 12 ∧ s.2.length ≤ 12) (fun s => s.2.length) (a.2.1, a.2.2) rfl ⟨(.cons (.inl rfl) (.cons (.inl rfl) (.cons (.inl rfl) .nil))), rfl⟩ ⟨hpre.2.2.1, hpre.2.2.2.1, hpre.2.2.2.2.1, hpre.2.2.2.2.2⟩ (fun s_1 hj_1 => (tt_truL ev_var)) (fun s s' hj hc e => ac_step hpre hj hc e) (fun s_1 hj_1 hc_1 N B P' hgo_1 hret_1 => ?_) (fun s_1 hj_1 hc_2 => ?_)
  · refine b_letP (ea_cons (ev_ltL ev_var) (ea_cons (ev_call (a.1, s_1.1, s_1.2) (ea_cons ev_var (ea_cons ev_var (ea_cons ev_var ea_nil))) rfl (by exact ⟨hpre.1, hpre.2.1, hc_1, hj_1.2.1, hj_1.1, hj_1.2.2.2⟩)) ea_nil)) fun x_1 hx_1 => ?_
    exact b_next fun h => nx_wk (hgo_1 _ h) ⟨(.cons (.inl rfl) (.cons (.inl rfl) (.cons (.inl rfl) .nil))), rfl⟩
  · exact b_seq (b_ret (ev_eq (ev_lenLT ev_var) ev_int) (fun h => h _))

theorem sc_is_irreducible : FnScope ["prime", "digits", "degree", "letter", "power", "_", "change", "x", "y"] ["prime", "digits"] (defScope s_is_irreducible) := ⟨rfl, rfl, rfl, by decide +kernel, rfl, by decide +kernel, by decide +kernel⟩
def m_is_irreducible (a_prime : Int) (a_digits : (List Int)) : Bool :=
  bnd ((a_digits.length : Int) - (1 : Int)) fun degree_1 =>
  bnd (m_base_digits a_prime degree_1 a_prime) fun letter_1 =>
  bnd letter_1 fun power_1 =>
  ((forL (fun (s_1 : (List Int)) x_1 =>
  bnd (m_raised_modulo a_prime a_digits s_1 a_prime) fun power_2 =>
  bnd (List.map (fun (x_2 : (Int × Int)) => ((x_2.1 - x_2.2) % a_prime)) (List.zip power_2 letter_1)) fun change_1 =>
  (if (¬ ((m_are_coprime a_prime a_digits (m_trimmed change_1)) = true)) then
  .ret (false)
  else
  .go power_2)) (rng 0 (Int.toNat (degree_1 / (2 : Int)))) power_1).out fun s_1 =>
  true)
theorem ii_bd {p d : Int} {m : List Int} (hp : MdP p m) (h : d = (m.length : Int) - 1) : 0 < p ∧ Sz 20 p ∧ 0 ≤ d ∧ d ≤ 20 := by
  have h1 := hp.1
  have h2 := hp.2.2.2.1
  have h3 := hp.2.2.2.2.1
  exact ⟨by omega, sz_mono (md_sz hp) (by omega), by omega, by omega⟩
theorem ii_0 {p d : Int} {m l w : List Int} (hp : MdP p m) (h : d = (m.length : Int) - 1) (e : l = m_base_digits p d p) (e2 : w = l) : TmP p m w w := by
  have h1 := hp.1
  have h2 := hp.2.2.2.1
  have h3 := hp.2.2.2.2.1
  have e3 : d = ((m.length - 1 : Nat) : Int) := by omega
  rw [e3] at e
  obtain ⟨k1, k2⟩ := bd_post (n := p) (m := m.length - 1) (show 0 < p by omega) (md_sz hp)
  rw [← e, ← e2] at k1 k2
  exact ⟨by omega, md_sz hp, by omega, md_dg hp, k1, k1, by omega, h2⟩
theorem ii_rng {p d : Int} {m : List Int} (hp : MdP p m) (h : d = (m.length : Int) - 1) : -(2 ^ 62) ≤ d / 2 ∧ d / 2 < 2 ^ 62 := by
  have h2 := hp.2.2.2.1
  have h3 := hp.2.2.2.2.1
  omega
theorem ii_step {p : Int} {m l s s' : List Int} (hj : TmP p m s s) (h : (bnd (m_raised_modulo p m s p) fun power_2 =>
  bnd (List.map (fun x_2 => ((x_2.1 - x_2.2) % p)) (List.zip power_2 l)) fun change_1 =>
  (if (¬ ((m_are_coprime p m (m_trimmed change_1)) = true)) then
  Stp.ret (false)
  else
  .go power_2)) = .go s') : TmP p m s' s' := by
  simp only [bnd] at h
  split at h
  · cases h
  · rw [← Stp.go.inj h]
    exact rm_post hj
theorem ii_len {p : Int} {m l s w : List Int} (hj : TmP p m s s) (h : w = m_raised_modulo p m s p) : (List.zip w l).length ≤ sizeLine := by
  have h1 := rm_post (e := p) hj
  rw [← h] at h1
  have h2 := h1.2.2.2.2.2.2.1
  have h3 := hj.2.2.1
  rw [List.length_zip]
  exact Nat.le_trans (m := 12) (by omega) (by decide)
theorem ii_ac {p : Int} {m l s w c : List Int} (hp : MdP p m) (hj : TmP p m s s) (h : w = m_raised_modulo p m s p) (hc : c = List.map (fun x_2 : Int × Int => ((x_2.1 - x_2.2) % p)) (List.zip w l)) : 2 ≤ p ∧ Sz 10 p ∧ Dg m ∧ Dg (m_trimmed c) ∧ m.length ≤ 12 ∧ (m_trimmed c).length ≤ 12 := by
  have h1 := rm_post (e := p) hj
  rw [← h] at h1
  have h2 := h1.2.2.2.2.2.2.1
  have h3 := hj.2.2.1
  have h4 := (tr_post c).2
  have h5 : c.length ≤ 12 := by
    rw [hc, List.length_map, List.length_zip]
    omega
  have h6 : Dg c := fun z hz => by
    rw [hc] at hz
    obtain ⟨q, _, e⟩ := List.mem_map.mp hz
    rw [← e]
    exact dg_mod hj.1 hj.2.1
  exact ⟨hp.1, md_sz hp, md_dg hp, tr_dg h6, h3, by omega⟩


theorem ok_is_irreducible (T : Tx P K mg) : Cl P w K mg base 4 "is_irreducible" (spF (fun a : Int × (List Int) => [.val yI a.1, .val (yT yI) a.2]) (fun a : Int × (List Int) => MdP a.1 a.2) yB (fun a => m_is_irreducible a.1 a.2)) := by
  obtain ⟨f, fd, hg, FD⟩ := T.g_is_irreducible
  refine ⟨f, fd, ["prime", "digits"], ?_, hg, FD.kp, FD.bindsN fun _ _ _ _ _ _ us hl => match us, hl with | [_, _], _ => rfl⟩
  refine TL.FunD.okC (N := ["prime", "digits", "degree", "letter", "power", "_", "change", "x", "y"]) FD sc_is_irreducible (lenF fun _ => rfl) fun cdv A outer s H E hr => ?_
  refine ⟨_, (pss_cons (ps_expr (pe_cl (ok_check_prime T) hr (by decide) (by rfl) passL (pa_cons (pv 0) pa_nil))) (pss_cons (ps_set (i := 2) sc_is_irreducible.nd rfl (by first | exact .inl rfl | exact .inr rfl) (pe_op op_sub (pe_callB call_len_seq (by rfl) T.b_len (by decide +kernel) (pa_cons (pv 1) pa_nil)) pe_int)) (pss_cons (ps_set (i := 3) sc_is_irreducible.nd rfl (by first | exact .inl rfl | exact .inr rfl) (pe_cl (ok_base_digits T) hr (by decide) (by rfl) passL (pa_cons (pv 0) (pa_cons (pv 2) (pa_cons (pv 0) pa_nil))))) (pss_cons (ps_set (i := 4) sc_is_irreducible.nd rfl (by first | exact .inl rfl | exact .inr rfl) (pv 3)) (pss_cons (ps_for (passes_of rfl) rfl (pi_range1 (by rfl) T.b_range (pa_cons (pe_op op_fdivW (pv 2) pe_int) pa_nil)) (pg_name (i := 5) sc_is_irreducible.nd (by rfl) (by first | exact .inl rfl | exact .inr rfl)) (pss_cons (ps_set (i := 4) sc_is_irreducible.nd rfl (by first | exact .inl rfl | exact .inr rfl) (pe_cl (ok_raised_modulo T) hr (by decide) (by rfl) passL (pa_cons (pv 0) (pa_cons (pv 1) (pa_cons (pv 4) (pa_cons (pv 0) pa_nil)))))) (pss_cons (ps_setLc (i := 6) (own := [("x", 7), ("y", 8)]) (tt := tYes) rfl sc_is_irreducible.nd rfl rfl (sw_true rfl rfl rfl (by decide +kernel)) (pi_zip2 true true (by rfl) T.b_zip (pa_cons (pv 4) (pa_cons (pv 3) pa_nil))) (by first | exact blkOk_by (N := ["prime", "digits", "degree", "letter", "power", "_", "change", "x", "y"]) (sc := defScope s_is_irreducible) (by decide +kernel) | exact blkOk_by rfl) (fun _ _ _ _ _ => (pg_tupK (K := K) (n := 2) rfl (by rfl) (pgs_cons (pg_name (i := 7) sc_is_irreducible.nd (by rfl) (by first | exact .inl rfl | exact .inr rfl)) (pgs_cons (pg_name (i := 8) sc_is_irreducible.nd (by rfl) (by first | exact .inl rfl | exact .inr rfl)) pgs_nil)))) (fun _ _ _ _ _ => pts_nil) (fun _ _ _ _ _ => (pe_op op_mod (pe_op op_sub (pv 7) (pv 8)) (pv 0)))) (pss_cons (ps_if (pt_not (pt_val (pe_cl (ok_are_coprime T) hr (by decide) (by rfl) passL (pa_cons (pv 0) (pa_cons (pv 1) (pa_cons (pe_cl (ok_trimmed T) hr (by decide) (by rfl) passL (pa_cons (pv 6) pa_nil)) pa_nil)))))) (pss_cons (ps_ret pe_bl) pss_nil) pss_nil) pss_nil)))) (pss_cons (ps_ret pe_bl) pss_nil)))))), fun vs Q h => run_F (fun F a rt hpre => ?_) vs H Q E h⟩
  show Bd _ _ _ _ _ _ (m_is_irreducible a.1 a.2)
  unfold m_is_irreducible
  refine b_drop (ev_call a.1 (ea_cons ev_var ea_nil) rfl (by exact ⟨hpre.1, hpre.2.1, hpre.2.2.1⟩)) ?_
  refine b_let (ev_sub (ev_lenT ev_var) ev_int) fun degree_1 hdegree_1 => ?_
  refine b_let (ev_l (ev_callL (a.1, degree_1, a.1) (ea_cons ev_var (ea_cons ev_var (ea_cons ev_var ea_nil))) rfl (by exact ii_bd hpre hdegree_1))) fun letter_1 hletter_1 => ?_
  refine b_let ev_var fun power_1 hpower_1 => ?_
  refine b_for _ (fun (s_1 : (List Int)) => ([] : Own)) (fun (s_1 : (List Int)) => (⟨[.val yI a.1, .val (yT yI) a.2, .val yI degree_1, .val (yL yI) letter_1, .val (yL yI) s_1, .any, .any, .any, .any], []⟩ : Lc)) (fun _ s => TmP a.1 a.2 s s) power_1 (iv_rng1 (ev_div ev_var ev_int (by exact sz_divW (show Sz 2 (2 : Int) from sz_lit (by decide +kernel)) (by omega))) (by exact (ii_rng hpre hdegree_1).1) (by exact (ii_rng hpre hdegree_1).2)) (tg_name 5) rfl ⟨(.cons (.inl rfl) (.cons (.inl rfl) (.cons (.inl rfl) (.cons (.inl rfl) (.cons (.inl rfl) (.cons (.inr rfl) (.cons (.inr rfl) (.cons (.inr rfl) (.cons (.inr rfl) .nil))))))))), rfl⟩ (ii_0 hpre hdegree_1 hletter_1 hpower_1) (fun pre x post s s' e hj h => ii_step hj h) (fun gs_1 pre x_1 post s_1 he_1 hj_1 N B P' hgo_1 hret_1 => ?_) (fun s_1 hj_2 => ?_)
  · have hmx_1 : x_1 ∈ (rng 0 (Int.toNat (degree_1 / (2 : Int)))) := by rw [he_1]; exact List.mem_append_right _ List.mem_cons_self
    refine b_let (ev_call (a.1, a.2, s_1, a.1) (ea_cons ev_var (ea_cons ev_var (ea_cons ev_var (ea_cons ev_var ea_nil)))) rfl (by exact ⟨hj_1, by have := hpre.2.1; omega⟩)) fun power_2 hpower_2 => ?_
    refine b_let (ev_l (lc_map (fun (x_2 : (Int × Int)) => ((x_2.1 - x_2.2) % a.1)) (iv_zip2 (t := yI) (u := yI) true true ev_var ev_var) (tg_pair (tg_name 7) (tg_name 8)) (by decide) (by exact ii_len hj_1 hpower_2) (fun D gs x_2 hm_1 => (ev_mod (ev_sub ev_var ev_var) ev_var (by have := hpre.1; omega))))) fun change_1 hchange_1 => ?_
    refine b_seq (b_if (tt_not (tt_b (ev_call (a.1, a.2, (m_trimmed change_1)) (ea_cons ev_var (ea_cons (ev_ltT ev_var) (ea_cons (ev_l (ev_callL change_1 (ea_cons ev_var ea_nil) rfl trivial)) ea_nil))) rfl (by exact ii_ac hpre hj_1 hpower_2 hchange_1)))) (fun h_1 => ?_) (fun h_1 => ?_))
    · exact b_seq (b_ret ev_bl (fun h => (hret_1 _ h) _))
    · refine b_fall ?_
      exact b_next fun h => nx_wk (hgo_1 _ h) ⟨(.cons (.inl rfl) (.cons (.inl rfl) (.cons (.inl rfl) (.cons (.inl rfl) (.cons (.inl rfl) (.cons (.inr rfl) (.cons (.inr rfl) (.cons (.inr rfl) (.cons (.inr rfl) .nil))))))))), rfl⟩
  · exact b_seq (b_ret ev_bl (fun h => h _))

/-- a field's modulus -/
def MdOk (p : Int) (m : List Int) : Prop := MdP p m ∧ m_is_irreducible p m = true ∧ m_power_of p ((m.length : Int) - 1) ≤ 1024

theorem sc_checked_size : FnScope ["prime", "modulus", "digit", "size"] ["prime", "modulus"] (defScope s_checked_size) := ⟨rfl, rfl, rfl, by decide +kernel, rfl, by decide +kernel, by decide +kernel⟩
def m_checked_size (a_prime : Int) (a_modulus : (List Int)) : Int :=
  (if (¬ ((2 : Int) ≤ (a_modulus.length : Int) ∧ (a_modulus.length : Int) ≤ (11 : Int))) then
  default
  else
  ((forL (fun (s_1 : Unit) digit_1 =>
  (if (¬ ((0 : Int) ≤ digit_1 ∧ digit_1 < a_prime)) then
  .ret (default)
  else
  .go ())) a_modulus ()).out fun s_1 =>
  (if (¬ (ix a_modulus (-(1 : Int))) = (1 : Int)) then
  default
  else
  bnd (m_power_of a_prime ((a_modulus.length : Int) - (1 : Int))) fun size_1 =>
  (if ((1024 : Int) < size_1) then
  default
  else
  (if (¬ ((m_is_irreducible a_prime a_modulus) = true)) then
  default
  else
  size_1)))))

theorem ok_checked_size (T : Tx P K mg) : Cl P w K mg base 5 "_checked_size" (spF (fun a : Int × (List Int) => [.val yI a.1, .val (yT yI) a.2]) (fun a : Int × (List Int) => MdOk a.1 a.2) yI (fun a => m_checked_size a.1 a.2)) := by
  obtain ⟨f, fd, hg, FD⟩ := T.g_checked_size
  refine ⟨f, fd, ["prime", "modulus"], ?_, hg, FD.kp, FD.bindsN fun _ _ _ _ _ _ us hl => match us, hl with | [_, _], _ => rfl⟩
  refine TL.FunD.okC (N := ["prime", "modulus", "digit", "size"]) FD sc_checked_size (lenF fun _ => rfl) fun cdv A outer s H E hr => ?_
  refine ⟨_, (pss_cons (ps_expr (pe_cl (ok_check_prime T) hr (by decide) (by rfl) passL (pa_cons (pv 0) pa_nil))) (pss_cons (ps_if (pt_not (pt_chain op_le op_le pe_int (pe_callB call_len_seq (by rfl) T.b_len (by decide +kernel) (pa_cons (pv 1) pa_nil)) pe_int)) pss_dead pss_nil) (pss_cons (ps_for (passes_of rfl) rfl (pi_tupK (K := K) rfl (pv 1)) (pg_name (i := 2) sc_checked_size.nd (by rfl) (by first | exact .inl rfl | exact .inr rfl)) (pss_cons (ps_if (pt_not (pt_chain op_le op_lt pe_int (pv 2) (pv 0))) pss_dead pss_nil) pss_nil)) (pss_cons (ps_if (pt_cmpR op_ne (pe_ix (ixT_K (K := K) rfl) (pv 1) (pe_un un_neg pe_int) (fun _ _ => rfl)) pe_int (nomark _)) pss_dead pss_nil) (pss_cons (ps_set (i := 3) sc_checked_size.nd rfl (by first | exact .inl rfl | exact .inr rfl) (pe_cl (ok_power_of T) hr (by decide) (by rfl) passL (pa_cons (pv 0) (pa_cons (pe_op op_sub (pe_callB call_len_seq (by rfl) T.b_len (by decide +kernel) (pa_cons (pv 1) pa_nil)) pe_int) pa_nil)))) (pss_cons (ps_if (pt_cmpR op_gt (pv 3) (pe_gint (by rfl) T.gi_MOST_SIZE) (nomark _)) pss_dead pss_nil) (pss_cons (ps_if (pt_not (pt_val (pe_cl (ok_is_irreducible T) hr (by decide) (by rfl) passL (pa_cons (pv 0) (pa_cons (pv 1) pa_nil))))) pss_dead pss_nil) (pss_cons (ps_ret (pv 3)) pss_nil)))))))), fun vs Q h => run_F (fun F a rt hpre => ?_) vs H Q E h⟩
  show Bd _ _ _ _ _ _ (m_checked_size a.1 a.2)
  unfold m_checked_size
  refine b_drop (ev_call a.1 (ea_cons ev_var ea_nil) rfl (by exact ⟨hpre.1.1, hpre.1.2.1, hpre.1.2.2.1⟩)) ?_
  refine b_seq (b_if (tt_not (tt_chain (fun i j : Int => i ≤ j) (fun i j : Int => i ≤ j) ev_int (ev_lenT ev_var) ev_int)) (fun h_1 => ?_) (fun h_1 => ?_))
  · exact b_dead (by have h1 := hpre.1.2.2.2.1; have h2 := hpre.1.2.2.2.2.1; omega)
  · refine b_fall ?_
    refine b_for _ (fun (s_1 : Unit) => ([] : Own)) (fun (s_1 : Unit) => (⟨[.val yI a.1, .val (yT yI) a.2, .any, .any], []⟩ : Lc)) (fun _ _ => True) () (iv_tup ev_var) (tg_name 2) rfl ⟨(.cons (.inl rfl) (.cons (.inl rfl) (.cons (.inr rfl) (.cons (.inr rfl) .nil)))), rfl⟩ trivial (fun _ _ _ _ _ _ _ _ => trivial) (fun gs_1 pre digit_1 post s_1 he_1 hj_1 N B P' hgo_1 hret_1 => ?_) (fun s_1 hj_2 => ?_)
    · have hmdigit_1 : digit_1 ∈ a.2 := by rw [he_1]; exact List.mem_append_right _ List.mem_cons_self
      refine b_seq (b_if (tt_not (tt_chain (fun i j : Int => i ≤ j) (fun i j : Int => i < j) ev_int ev_var ev_var)) (fun h_2 => ?_) (fun h_2 => ?_))
      · exact b_dead (by have h1 := hpre.1.2.2.2.2.2.1 _ hmdigit_1; omega)
      · refine b_fall ?_
        exact b_next fun h => nx_wk (hgo_1 _ h) ⟨(.cons (.inl rfl) (.cons (.inl rfl) (.cons (.inr rfl) (.cons (.inr rfl) .nil)))), rfl⟩
    · refine b_seq (b_if (tt_n (ev_ne (ev_ixT ev_var (ev_neg ev_int) (by exact inbl (md_ne hpre.1))) ev_int)) (fun h_3 => ?_) (fun h_3 => ?_))
      · exact b_dead (by first | exact h_3 hpre.1.2.2.2.2.2.2 | exact h_5 hpre.2.1)
      · refine b_fall ?_
        refine b_let (ev_call (a.1, ((a.2.length : Int) - (1 : Int))) (ea_cons ev_var (ea_cons (ev_sub (ev_lenT ev_var) ev_int) ea_nil)) rfl (by exact ⟨md_sz hpre.1, by have := hpre.1.2.2.2.1; omega, by have := hpre.1.2.2.2.2.1; omega⟩)) fun size_1 hsize_1 => ?_
        refine b_seq (b_if (tt_d (ev_gt ev_var ev_int)) (fun h_4 => ?_) (fun h_4 => ?_))
        · exact b_dead (by have h1 := hpre.2.2; omega)
        · refine b_fall ?_
          refine b_seq (b_if (tt_not (tt_b (ev_call (a.1, a.2) (ea_cons ev_var (ea_cons ev_var ea_nil)) rfl (by exact hpre.1)))) (fun h_5 => ?_) (fun h_5 => ?_))
          · exact b_dead (by first | exact h_3 hpre.1.2.2.2.2.2.2 | exact h_5 hpre.2.1)
          · refine b_fall ?_
            exact b_seq (b_ret ev_var (fun h => h _))

theorem sc_cycle : FnScope ["prime", "modulus", "base", "one", "factor", "found", "power"] ["prime", "modulus", "base"] (defScope s_cycle) := ⟨rfl, rfl, rfl, by decide +kernel, rfl, by decide +kernel, by decide +kernel⟩
def m_cycle (a_prime : Int) (a_modulus : (List Int)) (a_base : Int) : (List Int) :=
  bnd (m_base_digits a_prime ((a_modulus.length : Int) - (1 : Int)) (1 : Int)) fun one_1 =>
  bnd (m_trimmed (m_base_digits a_prime ((a_modulus.length : Int) - (1 : Int)) a_base)) fun factor_1 =>
  bnd [(1 : Int)] fun found_1 =>
  bnd (m_times_modulo a_prime a_modulus one_1 factor_1) fun power_1 =>
  ((whileL (fun s_1 : (List Int) × List Int => (¬ s_1.1 = one_1)) (fun s_1 =>
  bnd (m_times_modulo a_prime a_modulus s_1.1 factor_1) fun power_2 =>
  .go (power_2, (s_1.2 ++ [(m_base_number a_prime s_1.1)]))) ((fun s => 1200 - s.2.length) (power_1, found_1) + 1) (power_1, found_1)).out fun s_1 =>
  s_1.2)
/-- the powers come back to one -/
def cyc (p : Int) (m one fac : List Int) : Nat → List Int → Bool
  | 0, pow => pow == one
  | n + 1, pow => pow == one || cyc p m one fac n (m_times_modulo p m pow fac)
def cycOk (p : Int) (m : List Int) (b : Int) : Bool := cyc p m (m_base_digits p ((m.length : Int) - 1) 1) (m_trimmed (m_base_digits p ((m.length : Int) - 1) b)) 1100 (m_times_modulo p m (m_base_digits p ((m.length : Int) - 1) 1) (m_trimmed (m_base_digits p ((m.length : Int) - 1) b)))
theorem cy_tm {p x y : Int} {m o f : List Int} (hp : MdP p m) (h1 : o = m_base_digits p ((m.length : Int) - 1) x) (h2 : f = m_trimmed (m_base_digits p ((m.length : Int) - 1) y)) : TmP p m o f := by
  have q1 := hp.1
  have q2 := hp.2.2.2.1
  have q3 := hp.2.2.2.2.1
  have e3 : (m.length : Int) - 1 = ((m.length - 1 : Nat) : Int) := by omega
  rw [e3] at h1 h2
  obtain ⟨k1, k2⟩ := bd_post (n := x) (m := m.length - 1) (show 0 < p by omega) (md_sz hp)
  obtain ⟨k3, k4⟩ := bd_post (n := y) (m := m.length - 1) (show 0 < p by omega) (md_sz hp)
  rw [← h1] at k1 k2
  have k5 := tr_dg k3
  rw [← h2] at k5
  exact ⟨by omega, md_sz hp, by omega, md_dg hp, k1, k5, by omega, q2⟩
theorem cy_tm2 {p : Int} {m o f : List Int} (h : TmP p m o f) : TmP p m o f := h
theorem cy_tm3 {p : Int} {m o f : List Int} (h : TmP p m o f) : TmP p m (m_times_modulo p m o f) f := by
  obtain ⟨k1, k2⟩ := tm_post h
  obtain ⟨h1, h2, h3, h4, h5, h6, h7, h8⟩ := h
  exact ⟨h1, h2, h3, h4, k1, h6, k2, h8⟩
theorem cy_bn {p : Int} {m o f : List Int} (h : TmP p m o f) : Sz 10 p ∧ o.length ≤ 20 ∧ Dg o := ⟨h.2.1, by have h1 := h.2.2.1; have h2 := h.2.2.2.2.2.2.1; omega, h.2.2.2.2.1⟩
theorem cy_len {p : Int} {m one fac pow found : List Int} (h : ∃ n, n + found.length ≤ 1101 ∧ cyc p m one fac n pow = true) : found.length < sizeLine := by
  obtain ⟨n, h, _⟩ := h
  exact Nat.lt_of_lt_of_le (m := 1102) (by omega) (by decide)
theorem cy_0 {p b : Int} {m o f w l : List Int} (hp : MdP p m ∧ cycOk p m b = true) (h1 : o = m_base_digits p ((m.length : Int) - 1) 1) (h2 : f = m_trimmed (m_base_digits p ((m.length : Int) - 1) b)) (h3 : l = [1]) (h4 : w = m_times_modulo p m o f) : TmP p m w f ∧ ∃ n, n + l.length ≤ 1101 ∧ cyc p m o f n w = true := by
  refine ⟨?_, 1100, by rw [h3]; exact Nat.le_refl _, ?_⟩
  · rw [h4]
    exact cy_tm3 (cy_tm hp.1 h1 h2)
  · have := hp.2
    unfold cycOk at this
    rw [← h1, ← h2, ← h4] at this
    exact this
theorem cy_step {p : Int} {m o f : List Int} {s s' : List Int × List Int} (hj : TmP p m s.1 f ∧ ∃ n, n + s.2.length ≤ 1101 ∧ cyc p m o f n s.1 = true) (hc : s.1 ≠ o) (e : (bnd (m_times_modulo p m s.1 f) fun power_2 => Stp.go (ρ := List Int) (power_2, s.2 ++ [m_base_number p s.1])) = .go s') : (TmP p m s'.1 f ∧ ∃ n, n + s'.2.length ≤ 1101 ∧ cyc p m o f n s'.1 = true) ∧ 1200 - s'.2.length < 1200 - s.2.length := by
  rw [← Stp.go.inj e]
  obtain ⟨h1, n, h2, h3⟩ := hj
  cases n with
  | zero =>
    unfold cyc at h3
    exact absurd (eq_of_beq h3) hc
  | succ n =>
    unfold cyc at h3
    rw [Bool.or_eq_true] at h3
    have e2 : (s.2 ++ [m_base_number p s.1]).length = s.2.length + 1 := by rw [List.length_append, List.length_singleton]
    refine ⟨⟨cy_tm3 h1, n, ?_, ?_⟩, ?_⟩
    · show n + (s.2 ++ [m_base_number p s.1]).length ≤ 1101
      omega
    · rcases h3 with h | h
      · exact absurd (eq_of_beq h) hc
      · exact h
    · show 1200 - (s.2 ++ [m_base_number p s.1]).length < _
      omega


theorem ok_cycle (T : Tx P K mg) : Cl P w K mg base 2 "_cycle" (spL (fun a : Int × (List Int) × Int => [.val yI a.1, .val (yT yI) a.2.1, .val yI a.2.2]) (fun a : Int × (List Int) × Int => MdP a.1 a.2.1 ∧ cycOk a.1 a.2.1 a.2.2 = true) yI (fun a => m_cycle a.1 a.2.1 a.2.2)) := by
  obtain ⟨f, fd, hg, FD⟩ := T.g_cycle
  refine ⟨f, fd, ["prime", "modulus", "base"], ?_, hg, FD.kp, FD.bindsN fun _ _ _ _ _ _ us hl => match us, hl with | [_, _, _], _ => rfl⟩
  refine TL.FunD.okC (N := ["prime", "modulus", "base", "one", "factor", "found", "power"]) FD sc_cycle (lenL fun _ => rfl) fun cdv A outer s H E hr => ?_
  refine ⟨_, (pss_cons (ps_set (i := 3) sc_cycle.nd rfl (by first | exact .inl rfl | exact .inr rfl) (pe_cl (ok_base_digits T) hr (by decide) (by rfl) passL (pa_cons (pv 0) (pa_cons (pe_op op_sub (pe_callB call_len_seq (by rfl) T.b_len (by decide +kernel) (pa_cons (pv 1) pa_nil)) pe_int) (pa_cons pe_int pa_nil))))) (pss_cons (ps_set (i := 4) sc_cycle.nd rfl (by first | exact .inl rfl | exact .inr rfl) (pe_cl (ok_trimmed T) hr (by decide) (by rfl) passL (pa_cons (pe_cl (ok_base_digits T) hr (by decide) (by rfl) passL (pa_cons (pv 0) (pa_cons (pe_op op_sub (pe_callB call_len_seq (by rfl) T.b_len (by decide +kernel) (pa_cons (pv 1) pa_nil)) pe_int) (pa_cons (pv 2) pa_nil)))) pa_nil))) (pss_cons (ps_set (i := 5) sc_cycle.nd rfl (by first | exact .inl rfl | exact .inr rfl) (pe_lst (pa_cons pe_int pa_nil))) (pss_cons (ps_set (i := 6) sc_cycle.nd rfl (by first | exact .inl rfl | exact .inr rfl) (pe_cl (ok_times_modulo T) hr (by decide) (by rfl) passL (pa_cons (pv 0) (pa_cons (pv 1) (pa_cons (pv 3) (pa_cons (pv 4) pa_nil)))))) (pss_cons (ps_while (passes_of rfl) (pt_cmpR (op_neK (K := K) rfl hr.units) (pv 6) (pv 3) (nomark _)) (pss_cons (ps_expr (pe_bm PySem.F.plainAttrs_list PySem.F.slot_list_append PySem.F.type_list_append mt_append (pv 5) (pa_cons (pe_cl (ok_base_number T) hr (by decide) (by rfl) passL (pa_cons (pv 0) (pa_cons (pv 6) pa_nil))) pa_nil))) (pss_cons (ps_set (i := 6) sc_cycle.nd rfl (by first | exact .inl rfl | exact .inr rfl) (pe_cl (ok_times_modulo T) hr (by decide) (by rfl) passL (pa_cons (pv 0) (pa_cons (pv 1) (pa_cons (pv 6) (pa_cons (pv 4) pa_nil)))))) pss_nil))) (pss_cons (ps_ret (pv 5)) pss_nil)))))), fun vs Q h => run_L (fun F a rt hpre => ?_) vs H Q E h⟩
  show Bd _ _ _ _ _ _ (m_cycle a.1 a.2.1 a.2.2)
  unfold m_cycle
  refine b_let (ev_l (ev_callL (a.1, ((a.2.1.length : Int) - (1 : Int)), (1 : Int)) (ea_cons ev_var (ea_cons (ev_sub (ev_lenT ev_var) ev_int) (ea_cons ev_int ea_nil))) rfl (by exact ii_bd hpre.1 rfl))) fun one_1 hone_1 => ?_
  refine b_let (ev_l (ev_callL (m_base_digits a.1 ((a.2.1.length : Int) - (1 : Int)) a.2.2) (ea_cons (ev_l (ev_callL (a.1, ((a.2.1.length : Int) - (1 : Int)), a.2.2) (ea_cons ev_var (ea_cons (ev_sub (ev_lenT ev_var) ev_int) (ea_cons ev_var ea_nil))) rfl (by exact ii_bd hpre.1 rfl))) ea_nil) rfl trivial)) fun factor_1 hfactor_1 => ?_
  refine b_letO (evl_lst (t := yI) (xs := [(1 : Int)]) (ea_cons ev_int ea_nil) rfl (lit_len 1 rfl (by decide))) fun p_1 found_1 hfound_1 => ?_
  refine b_let (ev_call (a.1, a.2.1, one_1, factor_1) (ea_cons ev_var (ea_cons ev_var (ea_cons ev_var (ea_cons ev_var ea_nil)))) rfl (by first | exact cy_tm hpre.1 hone_1 hfactor_1 | exact cy_tm2 hj_1.1)) fun power_1 hpower_1 => ?_
  refine b_while _ _ (fun (s_1 : (List Int) × List Int) => ([(p_1, cL yI s_1.2)] : Own)) (fun (s_1 : (List Int) × List Int) => (⟨[.val yI a.1, .val (yT yI) a.2.1, .val yI a.2.2, .val (yL yI) one_1, .val (yL yI) factor_1, .val (yV (.ref p_1)) (), .val (yL yI) s_1.1], []⟩ : Lc)) (fun s => TmP a.1 a.2.1 s.1 factor_1 ∧ ∃ n, n + s.2.length ≤ 1101 ∧ cyc a.1 a.2.1 one_1 factor_1 n s.1 = true) (fun s => 1200 - s.2.length) (power_1, found_1) rfl ⟨(.cons (.inl rfl) (.cons (.inl rfl) (.cons (.inl rfl) (.cons (.inl rfl) (.cons (.inl rfl) (.cons (.inl rfl) (.cons (.inl rfl) .nil))))))), rfl⟩ (cy_0 hpre hone_1 hfactor_1 hfound_1 hpower_1) (fun s_1 hj_1 => (tt_n (ev_neD ev_var ev_var))) (fun s s' hj hc e => cy_step hj hc e) (fun s_1 hj_1 hc_1 N B P' hgo_1 hret_1 => ?_) (fun s_1 hj_1 hc_2 => ?_)
  · refine b_drop (ev_append (t := yI) (xs := s_1.2) 0 ev_var (ev_call (a.1, s_1.1) (ea_cons ev_var (ea_cons ev_var ea_nil)) rfl (by exact cy_bn hj_1.1)) (by exact cy_len hj_1.2)) ?_
    refine b_let (ev_call (a.1, a.2.1, s_1.1, factor_1) (ea_cons ev_var (ea_cons ev_var (ea_cons ev_var (ea_cons ev_var ea_nil)))) rfl (by first | exact cy_tm hpre.1 hone_1 hfactor_1 | exact cy_tm2 hj_1.1)) fun power_2 hpower_2 => ?_
    exact b_next fun h => nx_wk (hgo_1 _ h) ⟨(.cons (.inl rfl) (.cons (.inl rfl) (.cons (.inl rfl) (.cons (.inl rfl) (.cons (.inl rfl) (.cons (.inl rfl) (.cons (.inl rfl) .nil))))))), rfl⟩
  · exact b_seq (b_retOwn (t := yI) (xs := s_1.2) 0 ev_var rfl (fun h => h))

theorem sc_all_powers : FnScope ["prime", "modulus", "size", "base", "powers"] ["prime", "modulus", "size"] (defScope s_all_powers) := ⟨rfl, rfl, rfl, by decide +kernel, rfl, by decide +kernel, by decide +kernel⟩
def m_all_powers (a_prime : Int) (a_modulus : (List Int)) (a_size : Int) : (List Int) :=
  bnd a_prime fun base_1 =>
  bnd (m_cycle a_prime a_modulus base_1) fun powers_1 =>
  ((whileL (fun s_1 : Int × (List Int) => ((s_1.2.length : Int) < (a_size - (1 : Int)))) (fun s_1 =>
  bnd (s_1.1 + (1 : Int)) fun base_2 =>
  bnd (m_cycle a_prime a_modulus base_2) fun powers_2 =>
  .go (base_2, powers_2)) ((fun s => (20 - s.1).toNat) (base_1, powers_1) + 1) (base_1, powers_1)).out fun s_1 =>
  s_1.2)
def mdSix : List (Int × List Int × Int) := [(2, [1, 1, 1], 4), (2, [1, 1, 0, 1], 8), (2, [1, 0, 1, 1], 8), (3, [1, 0, 1], 9), (3, [2, 1, 1], 9), (3, [2, 2, 1], 9)]
def apc (p : Int) (m : List Int) (q : Int) : Nat → Int → Bool
  | 0, b => decide (q - 1 ≤ ((m_cycle p m b).length : Int))
  | n + 1, b => decide (q - 1 ≤ ((m_cycle p m b).length : Int)) || (cycOk p m (b + 1) && apc p m q n (b + 1))
theorem six_ok : ∀ x ∈ mdSix, cycOk x.1 x.2.1 x.1 = true ∧ apc x.1 x.2.1 x.2.2 9 x.1 = true ∧ x.1 ≤ 3 := by decide +kernel
def ap_ok (p : Int) (m : List Int) (q b : Int) (w : List Int) : Prop := w = m_cycle p m b ∧ ∃ n : Nat, n + b ≤ 12 ∧ apc p m q n b = true
theorem ap_pre {p q b : Int} {m : List Int} (hp : MdP p m ∧ (p, m, q) ∈ mdSix) (h : b = p) : MdP p m ∧ cycOk p m b = true := ⟨hp.1, by rw [h]; exact (six_ok _ hp.2).1⟩
theorem ap_0 {p q b : Int} {m w : List Int} (hp : MdP p m ∧ (p, m, q) ∈ mdSix) (h : b = p) (e : w = m_cycle p m b) : ap_ok p m q b w := by
  have h2 := six_ok _ hp.2
  subst h
  exact ⟨e, 9, by have := h2.2.2; omega, h2.2.1⟩
theorem ap_next {p q b : Int} {m w : List Int} (hj : ap_ok p m q b w) (hc : (w.length : Int) < q - 1) : ∃ n : Nat, n + 1 + b ≤ 12 ∧ cycOk p m (b + 1) = true ∧ apc p m q n (b + 1) = true := by
  obtain ⟨h1, n, h2, h3⟩ := hj
  rw [h1] at hc
  cases n with
  | zero =>
    unfold apc at h3
    have := of_decide_eq_true h3
    omega
  | succ n =>
    unfold apc at h3
    rw [Bool.or_eq_true, Bool.and_eq_true] at h3
    rcases h3 with h | h
    · have := of_decide_eq_true h
      omega
    · exact ⟨n, by omega, h⟩
theorem ap_pre2 {p q b b2 : Int} {m w : List Int} (hp : MdP p m ∧ (p, m, q) ∈ mdSix) (hj : ap_ok p m q b w) (hc : (w.length : Int) < q - 1) (h : b2 = b + 1) : MdP p m ∧ cycOk p m b2 = true := by
  obtain ⟨n, h1, h2, h3⟩ := ap_next hj hc
  rw [h]
  exact ⟨hp.1, h2⟩
theorem ap_step {p q : Int} {m : List Int} {s s' : Int × List Int} (hj : ap_ok p m q s.1 s.2) (hc : (s.2.length : Int) < q - 1) (e : (bnd (s.1 + (1 : Int)) fun base_2 => bnd (m_cycle p m base_2) fun powers_2 => Stp.go (ρ := List Int) (base_2, powers_2)) = .go s') : ap_ok p m q s'.1 s'.2 ∧ (20 - s'.1).toNat < (20 - s.1).toNat := by
  rw [← Stp.go.inj e]
  obtain ⟨n, h1, h2, h3⟩ := ap_next hj hc
  refine ⟨⟨rfl, n, by show (n : Int) + (s.1 + 1) ≤ 12; omega, h3⟩, ?_⟩
  show (20 - (s.1 + 1)).toNat < _
  omega


theorem ok_all_powers (T : Tx P K mg) : Cl P w K mg base 3 "_all_powers" (spF (fun a : Int × (List Int) × Int => [.val yI a.1, .val (yT yI) a.2.1, .val yI a.2.2]) (fun a : Int × (List Int) × Int => MdP a.1 a.2.1 ∧ (a.1, a.2.1, a.2.2) ∈ mdSix) (yL yI) (fun a => m_all_powers a.1 a.2.1 a.2.2)) := by
  obtain ⟨f, fd, hg, FD⟩ := T.g_all_powers
  refine ⟨f, fd, ["prime", "modulus", "size"], ?_, hg, FD.kp, FD.bindsN fun _ _ _ _ _ _ us hl => match us, hl with | [_, _, _], _ => rfl⟩
  refine TL.FunD.okC (N := ["prime", "modulus", "size", "base", "powers"]) FD sc_all_powers (lenF fun _ => rfl) fun cdv A outer s H E hr => ?_
  refine ⟨_, (pss_cons (ps_set (i := 3) sc_all_powers.nd rfl (by first | exact .inl rfl | exact .inr rfl) (pv 0)) (pss_cons (ps_set (i := 4) sc_all_powers.nd rfl (by first | exact .inl rfl | exact .inr rfl) (pe_cl (ok_cycle T) hr (by decide) (by rfl) passL (pa_cons (pv 0) (pa_cons (pv 1) (pa_cons (pv 3) pa_nil))))) (pss_cons (ps_while (passes_of rfl) (pt_cmpR op_lt (pe_callB call_len_seq (by rfl) T.b_len (by decide +kernel) (pa_cons (pv 4) pa_nil)) (pe_op op_sub (pv 2) pe_int) (nomark _)) (pss_cons (ps_aug (i := 3) sc_all_powers.nd rfl (by first | exact .inl rfl | exact .inr rfl) pe_int ip_add) (pss_cons (ps_set (i := 4) sc_all_powers.nd rfl (by first | exact .inl rfl | exact .inr rfl) (pe_cl (ok_cycle T) hr (by decide) (by rfl) passL (pa_cons (pv 0) (pa_cons (pv 1) (pa_cons (pv 3) pa_nil))))) pss_nil))) (pss_cons (ps_ret (pv 4)) pss_nil)))), fun vs Q h => run_F (fun F a rt hpre => ?_) vs H Q E h⟩
  show Bd _ _ _ _ _ _ (m_all_powers a.1 a.2.1 a.2.2)
  unfold m_all_powers
  refine b_let ev_var fun base_1 hbase_1 => ?_
  refine b_let (ev_l (ev_callL (a.1, a.2.1, base_1) (ea_cons ev_var (ea_cons ev_var (ea_cons ev_var ea_nil))) rfl (by first | exact ap_pre hpre hbase_1 | exact ap_pre2 hpre hj_1 hc_1 hbase_2))) fun powers_1 hpowers_1 => ?_
  refine b_while _ _ (fun (s_1 : Int × (List Int)) => ([] : Own)) (fun (s_1 : Int × (List Int)) => (⟨[.val yI a.1, .val (yT yI) a.2.1, .val yI a.2.2, .val yI s_1.1, .val (yL yI) s_1.2], []⟩ : Lc)) (fun s => ap_ok a.1 a.2.1 a.2.2 s.1 s.2) (fun s => (20 - s.1).toNat) (base_1, powers_1) rfl ⟨(.cons (.inl rfl) (.cons (.inl rfl) (.cons (.inl rfl) (.cons (.inl rfl) (.cons (.inl rfl) .nil))))), rfl⟩ (ap_0 hpre hbase_1 hpowers_1) (fun s_1 hj_1 => (tt_d (ev_lt (ev_lenL ev_var) (ev_sub ev_var ev_int)))) (fun s s' hj hc e => ap_step hj hc e) (fun s_1 hj_1 hc_1 N B P' hgo_1 hret_1 => ?_) (fun s_1 hj_1 hc_2 => ?_)
  · refine b_augA rfl ev_int fun base_2 hbase_2 => ?_
    refine b_let (ev_l (ev_callL (a.1, a.2.1, base_2) (ea_cons ev_var (ea_cons ev_var (ea_cons ev_var ea_nil))) rfl (by first | exact ap_pre hpre hbase_1 | exact ap_pre2 hpre hj_1 hc_1 hbase_2))) fun powers_2 hpowers_2 => ?_
    exact b_next fun h => nx_wk (hgo_1 _ h) ⟨(.cons (.inl rfl) (.cons (.inl rfl) (.cons (.inl rfl) (.cons (.inl rfl) (.cons (.inl rfl) .nil))))), rfl⟩
  · exact b_seq (b_ret ev_var (fun h => h _))

theorem sc_tables : FnScope ["prime", "modulus", "size", "powers", "logs", "at", "power", "lifts", "lifted"] ["prime", "modulus", "size"] (defScope s_tables) := ⟨rfl, rfl, rfl, by decide +kernel, rfl, by decide +kernel, by decide +kernel⟩
def m_tables (a_prime : Int) (a_modulus : (List Int)) (a_size : Int) : ((List Int) × (List Int) × (List Int)) :=
  bnd (m_all_powers a_prime a_modulus a_size) fun powers_1 =>
  bnd (List.replicate (Int.toNat a_size) (0 : Int)) fun logs_1 =>
  ((forL (fun (s_1 : List Int) x_1 =>
  .go (setI s_1 x_1.2 x_1.1)) (enumL powers_1) logs_1).out fun s_1 =>
  bnd ([] : List Int) fun lifts_1 =>
  ((forL (fun (s_2 : List Int) power_1 =>
  bnd (if ((power_1 % a_prime) < (a_prime - (1 : Int))) then (power_1 + (1 : Int)) else ((power_1 + (1 : Int)) - a_prime)) fun lifted_1 =>
  .go (s_2 ++ [(if ((0 : Int) < lifted_1) then (ix s_1 lifted_1) else (-(1 : Int)))])) powers_1 lifts_1).out fun s_2 =>
  ((powers_1 ++ powers_1), s_1, s_2)))
theorem six_tab : ∀ x ∈ mdSix, (∀ w ∈ m_all_powers x.1 x.2.1 x.2.2, 0 ≤ w ∧ w < x.2.2 ∧ (if w % x.1 < x.1 - 1 then w + 1 else w + 1 - x.1) < x.2.2) ∧ (m_all_powers x.1 x.2.1 x.2.2).length ≤ 8 ∧ 0 < x.1 ∧ 0 ≤ x.2.2 ∧ x.2.2 ≤ 9 := by decide +kernel
theorem enumL_mem {α : Type} {xs : List α} {x : Int × α} (h : x ∈ enumL xs) : x.2 ∈ xs := (List.of_mem_zip (show (x.1, x.2) ∈ _ from h)).2
theorem tb_set {p q : Int} {m w s : List Int} {x : Int × Int} (hp : MdP p m ∧ (p, m, q) ∈ mdSix) (h : w = m_all_powers p m q) (hj : s.length = q.toNat) (hx : x ∈ enumL w) : Inb s x.2 := by
  have h1 := enumL_mem hx
  rw [h] at h1
  have h2 := (six_tab _ hp.2).1 _ h1
  unfold Inb
  simp only at h2
  omega
theorem tb_ix {p q z y : Int} {m w s : List Int} (hp : MdP p m ∧ (p, m, q) ∈ mdSix) (h : w = m_all_powers p m q) (hj : s.length = q.toNat) (hx : z ∈ w) (hy : y = if z % p < p - 1 then z + 1 else z + 1 - p) (h0 : 0 < y) : Inb s y := by
  rw [h] at hx
  have h2 := (six_tab _ hp.2).1 _ hx
  simp only at h2
  rw [← hy] at h2
  unfold Inb
  omega
theorem tb_len {p q : Int} {m w pre post s : List Int} {x : Int} (hp : MdP p m ∧ (p, m, q) ∈ mdSix) (h : w = m_all_powers p m q) (e : w = pre ++ x :: post) (hj : s.length = pre.length) : s.length < sizeLine := by
  have h2 := (six_tab _ hp.2).2.1
  simp only at h2
  rw [← h, e, List.length_append, List.length_cons] at h2
  exact Nat.lt_of_lt_of_le (m := 10) (by omega) (by decide)
theorem tb_cat {p q : Int} {m w : List Int} (hp : MdP p m ∧ (p, m, q) ∈ mdSix) (h : w = m_all_powers p m q) : w.length + w.length ≤ sizeLine := by
  have h2 := (six_tab _ hp.2).2.1
  simp only at h2
  rw [← h] at h2
  exact Nat.le_trans (m := 16) (by omega) (by decide)
theorem tb_sz {p q : Int} {m : List Int} (hp : MdP p m ∧ (p, m, q) ∈ mdSix) : 0 < p ∧ 0 ≤ q ∧ q ≤ 9 := (six_tab _ hp.2).2.2


theorem ok_tables (T : Tx P K mg) : Cl P w K mg base 4 "_tables" (spF (fun a : Int × (List Int) × Int => [.val yI a.1, .val (yT yI) a.2.1, .val yI a.2.2]) (fun a : Int × (List Int) × Int => MdP a.1 a.2.1 ∧ (a.1, a.2.1, a.2.2) ∈ mdSix) (y3 (yL yI) (yL yI) (yL yI)) (fun a => m_tables a.1 a.2.1 a.2.2)) := by
  obtain ⟨f, fd, hg, FD⟩ := T.g_tables
  refine ⟨f, fd, ["prime", "modulus", "size"], ?_, hg, FD.kp, FD.bindsN fun _ _ _ _ _ _ us hl => match us, hl with | [_, _, _], _ => rfl⟩
  refine TL.FunD.okC (N := ["prime", "modulus", "size", "powers", "logs", "at", "power", "lifts", "lifted"]) FD sc_tables (lenF fun _ => rfl) fun cdv A outer s H E hr => ?_
  refine ⟨_, (pss_cons (ps_set (i := 3) sc_tables.nd rfl (by first | exact .inl rfl | exact .inr rfl) (pe_cl (ok_all_powers T) hr (by decide) (by rfl) passL (pa_cons (pv 0) (pa_cons (pv 1) (pa_cons (pv 2) pa_nil))))) (pss_cons (ps_set (i := 4) sc_tables.nd rfl (by first | exact .inl rfl | exact .inr rfl) (pe_op op_rep (pe_lst (pa_cons pe_int pa_nil)) (pv 2))) (pss_cons (ps_for (passes_of rfl) rfl (pi_enum (by rfl) T.b_enumerate (pa_cons (pv 3) pa_nil)) (pg_tupK (K := K) (n := 2) rfl (by rfl) (pgs_cons (pg_name (i := 5) sc_tables.nd (by rfl) (by first | exact .inl rfl | exact .inr rfl)) (pgs_cons (pg_name (i := 6) sc_tables.nd (by rfl) (by first | exact .inl rfl | exact .inr rfl)) pgs_nil))) (pss_cons (ps_asg (pv 5) (pg_sub (pv 4) (pv 6) set_list)) pss_nil)) (pss_cons (ps_set (i := 7) sc_tables.nd rfl (by first | exact .inl rfl | exact .inr rfl) (pe_lst pa_nil)) (pss_cons (ps_for (passes_of rfl) rfl (pi_listK (K := K) rfl (pv 3)) (pg_name (i := 6) sc_tables.nd (by rfl) (by first | exact .inl rfl | exact .inr rfl)) (pss_cons (ps_set (i := 8) sc_tables.nd rfl (by first | exact .inl rfl | exact .inr rfl) (pe_ifExp (pt_cmpR op_lt (pe_op op_mod (pv 6) (pv 0)) (pe_op op_sub (pv 0) pe_int) (nomark _)) (pe_op op_add (pv 6) pe_int) (pe_op op_sub (pe_op op_add (pv 6) pe_int) (pv 0)))) (pss_cons (ps_expr (pe_bm PySem.F.plainAttrs_list PySem.F.slot_list_append PySem.F.type_list_append mt_append (pv 7) (pa_cons (pe_ifExp (pt_cmpR op_gt (pv 8) pe_int (nomark _)) (pe_ix (ixL_K (K := K) rfl) (pv 4) (pv 8) (fun _ _ => rfl)) (pe_un un_neg pe_int)) pa_nil))) pss_nil))) (pss_cons (ps_ret (pe_tup (pa_cons (pe_op op_cat (pv 3) (pv 3)) (pa_cons (pv 4) (pa_cons (pv 7) pa_nil))))) pss_nil)))))), fun vs Q h => run_F (fun F a rt hpre => ?_) vs H Q E h⟩
  show Bd _ _ _ _ _ _ (m_tables a.1 a.2.1 a.2.2)
  unfold m_tables
  refine b_let (ev_call (a.1, a.2.1, a.2.2) (ea_cons ev_var (ea_cons ev_var (ea_cons ev_var ea_nil))) rfl (by first | omega | assumption | decide | exact ⟨by omega, by omega⟩)) fun powers_1 hpowers_1 => ?_
  refine b_letO (evl_rep1 (evl_lst (t := yI) (xs := [(0 : Int)]) (ea_cons ev_int ea_nil) rfl (lit_len 1 rfl (by decide))) ev_var (by have h := (tb_sz hpre).2.2; exact Int.le_trans h (by decide)) (by have h := (tb_sz hpre).2.1; omega)) fun p_1 logs_1 hlogs_1 => ?_
  refine b_for _ (fun (s_1 : List Int) => ([(p_1, cL yI s_1)] : Own)) (fun (s_1 : List Int) => (⟨[.val yI a.1, .val (yT yI) a.2.1, .val yI a.2.2, .val (yL yI) powers_1, .val (yV (.ref p_1)) (), .any, .any, .any, .any], []⟩ : Lc)) (fun _ s => s.length = a.2.2.toNat) logs_1 (iv_enum ev_var) (tg_pair (tg_name 5) (tg_name 6)) rfl ⟨(.cons (.inl rfl) (.cons (.inl rfl) (.cons (.inl rfl) (.cons (.inl rfl) (.cons (.inl rfl) (.cons (.inr rfl) (.cons (.inr rfl) (.cons (.inr rfl) (.cons (.inr rfl) .nil))))))))), rfl⟩ (by rw [hlogs_1, List.length_replicate]) (fun pre x post s s' e hj h => by rw [← Stp.go.inj h, setI_len]; exact hj) (fun gs_1 pre x_1 post s_1 he_1 hj_1 N B P' hgo_1 hret_1 => ?_) (fun s_1 hj_4 => ?_)
  · have hmx_1 : x_1 ∈ (enumL powers_1) := by rw [he_1]; exact List.mem_append_right _ List.mem_cons_self
    refine b_setI (t := yI) (xs := s_1) 0 ev_var ev_var ev_var (by exact tb_set hpre hpowers_1 hj_1 hmx_1) rfl ?_
    exact b_next fun h => nx_wk (hgo_1 _ h) ⟨(.cons (.inl rfl) (.cons (.inl rfl) (.cons (.inl rfl) (.cons (.inl rfl) (.cons (.inl rfl) (.cons (.inr rfl) (.cons (.inr rfl) (.cons (.inr rfl) (.cons (.inr rfl) .nil))))))))), rfl⟩
  · refine b_letO (evl_lst (t := yI) (xs := []) ea_nil rfl (Nat.zero_le _)) fun p_2 lifts_1 hlifts_1 => ?_
    refine b_for _ (fun (s_2 : List Int) => ([(p_1, cL yI s_1), (p_2, cL yI s_2)] : Own)) (fun (s_2 : List Int) => (⟨[.val yI a.1, .val (yT yI) a.2.1, .val yI a.2.2, .val (yL yI) powers_1, .val (yV (.ref p_1)) (), .any, .any, .val (yV (.ref p_2)) (), .any], []⟩ : Lc)) (fun pre s => s.length = pre.length) lifts_1 (iv_list ev_var) (tg_name 6) rfl ⟨(.cons (.inl rfl) (.cons (.inl rfl) (.cons (.inl rfl) (.cons (.inl rfl) (.cons (.inl rfl) (.cons (.inr rfl) (.cons (.inr rfl) (.cons (.inl rfl) (.cons (.inr rfl) .nil))))))))), rfl⟩ (by rw [hlifts_1]) (fun pre x post s s' e hj h => by rw [← Stp.go.inj h]; show (s ++ [_]).length = _; rw [List.length_append, List.length_append, hj]; rfl) (fun gs_2 pre power_1 post s_2 he_2 hj_2 N B P' hgo_2 hret_2 => ?_) (fun s_2 hj_3 => ?_)
    · have hmpower_1 : power_1 ∈ powers_1 := by rw [he_2]; exact List.mem_append_right _ List.mem_cons_self
      refine b_let (ev_ifE (tt_d (ev_lt (ev_mod ev_var ev_var (by exact (tb_sz hpre).1)) (ev_sub ev_var ev_int))) (fun h_1 => (ev_add ev_var ev_int)) (fun h_1 => (ev_sub (ev_add ev_var ev_int) ev_var))) fun lifted_1 hlifted_1 => ?_
      refine b_drop (ev_append (t := yI) (xs := s_2) 1 ev_var (ev_ifE (tt_d (ev_gt ev_var ev_int)) (fun h_2 => (ev_ixO (t := yI) (xs := s_1) 0 ev_var ev_var (by exact tb_ix hpre hpowers_1 hj_4 hmpower_1 hlifted_1 h_2))) (fun h_2 => (ev_neg ev_int))) (by exact tb_len hpre hpowers_1 he_2 hj_2)) ?_
      exact b_next fun h => nx_wk (hgo_2 _ h) ⟨(.cons (.inl rfl) (.cons (.inl rfl) (.cons (.inl rfl) (.cons (.inl rfl) (.cons (.inl rfl) (.cons (.inr rfl) (.cons (.inr rfl) (.cons (.inl rfl) (.cons (.inr rfl) .nil))))))))), rfl⟩
    · exact b_seq (b_ret (ev_triple (ea_cons (ev_l (evl_cat ev_var ev_var (by exact tb_cat hpre hpowers_1))) (ea_cons (ev_frz (t := yI) (xs := s_1) 0 ev_var) (ea_cons (ev_frz (t := yI) (xs := s_2) 0 ev_var) ea_nil)))) (fun h => h _))

def finOf (p : Int) (m : List Int) : FinS := if 1 < (m.length : Int) - 1 then ⟨p, (m.length : Int) - 1, m_checked_size p m, m, (m_tables p m (m_checked_size p m)).1, (m_tables p m (m_checked_size p m)).2.1, (m_tables p m (m_checked_size p m)).2.2⟩ else ⟨p, (m.length : Int) - 1, m_checked_size p m, m, [], [], []⟩
theorem six_fin : (mdSix.map fun x => finOf x.1 x.2.1) = sixF := by decide +kernel

theorem sc_Finite_of : FnScope ["self", "number"] ["self", "number"] (defScope s_Finite_of) := ⟨rfl, rfl, rfl, by decide +kernel, rfl, by decide +kernel, by decide +kernel⟩
def m_Finite_of (a_self : FinS) (a_number : Int) : Int :=
  (a_number % a_self.prime)

theorem ok_Finite_of (T : Tx P K mg) : Mt P w K mg base 1 (He.ga K "Finite") "of" (spF (fun a : FinS × Int => [.val (y_Finite K) a.1, .val yI a.2]) (fun a : FinS × Int => FinOk a.1) yI (fun a => m_Finite_of a.1 a.2)) := by
  obtain ⟨f, fd, hm, FD⟩ := T.me_Finite_of
  refine ⟨f, fd, ["self", "number"], T.cl_Finite, hm, ?_, FD.bindsN fun _ _ _ _ _ _ us hl => match us, hl with | [_, _], _ => rfl⟩
  refine TL.FunD.okC (N := ["self", "number"]) FD sc_Finite_of (lenF fun _ => rfl) fun cdv A outer s H E hr => ?_
  refine ⟨_, (pss_cons (ps_ret (pe_op op_mod (pv 1) (pe_fld (pv 0) rfl))) pss_nil), fun vs Q h => run_F (fun F a rt hpre => ?_) vs H Q E h⟩
  show Bd _ _ _ _ _ _ (m_Finite_of a.1 a.2)
  unfold m_Finite_of
  exact b_seq (b_ret (ev_mod ev_var (ev_fld 4 ev_var T.cl_Finite T.na_Finite_prime nd_Finite rfl rfl) (by exact fo_p hpre)) (fun h => h _))

theorem sc_Finite_plus : FnScope ["self", "a", "b", "at", "lift"] ["self", "a", "b"] (defScope s_Finite_plus) := ⟨rfl, rfl, rfl, by decide +kernel, rfl, by decide +kernel, by decide +kernel⟩
def m_Finite_plus (a_self : FinS) (a_a : Int) (a_b : Int) : Int :=
  (if (a_self.degree = (1 : Int)) then
  ((a_a + a_b) % a_self.prime)
  else
  (if (a_a = (0 : Int)) then
  a_b
  else
  (if (a_b = (0 : Int)) then
  a_a
  else
  bnd (ix a_self.logs a_a) fun at_1 =>
  bnd (ix a_self.lifts ((ix a_self.logs a_b) - at_1)) fun lift_1 =>
  (if (lift_1 < (0 : Int)) then
  (0 : Int)
  else
  (ix a_self.powers (at_1 + lift_1))))))

theorem ok_Finite_plus (T : Tx P K mg) : Mt P w K mg base 1 (He.ga K "Finite") "plus" (spF (fun a : FinS × Int × Int => [.val (y_Finite K) a.1, .val yI a.2.1, .val yI a.2.2]) (fun a : FinS × Int × Int => FinOk a.1 ∧ El a.1 a.2.1 ∧ El a.1 a.2.2) yI (fun a => m_Finite_plus a.1 a.2.1 a.2.2)) := by
  obtain ⟨f, fd, hm, FD⟩ := T.me_Finite_plus
  refine ⟨f, fd, ["self", "a", "b"], T.cl_Finite, hm, ?_, FD.bindsN fun _ _ _ _ _ _ us hl => match us, hl with | [_, _, _], _ => rfl⟩
  refine TL.FunD.okC (N := ["self", "a", "b", "at", "lift"]) FD sc_Finite_plus (lenF fun _ => rfl) fun cdv A outer s H E hr => ?_
  refine ⟨_, (pss_cons (ps_if (pt_cmpR op_eq (pe_fld (pv 0) rfl) pe_int (nomark _)) (pss_cons (ps_ret (pe_op op_mod (pe_op op_add (pv 1) (pv 2)) (pe_fld (pv 0) rfl))) pss_nil) pss_nil) (pss_cons (ps_if (pt_cmpR op_eq (pv 1) pe_int (nomark _)) (pss_cons (ps_ret (pv 2)) pss_nil) pss_nil) (pss_cons (ps_if (pt_cmpR op_eq (pv 2) pe_int (nomark _)) (pss_cons (ps_ret (pv 1)) pss_nil) pss_nil) (pss_cons (ps_set (i := 3) sc_Finite_plus.nd rfl (by first | exact .inl rfl | exact .inr rfl) (pe_ix (ixL_K (K := K) rfl) (pe_fld (pv 0) rfl) (pv 1) (fun _ _ => rfl))) (pss_cons (ps_set (i := 4) sc_Finite_plus.nd rfl (by first | exact .inl rfl | exact .inr rfl) (pe_ix (ixL_K (K := K) rfl) (pe_fld (pv 0) rfl) (pe_op op_sub (pe_ix (ixL_K (K := K) rfl) (pe_fld (pv 0) rfl) (pv 2) (fun _ _ => rfl)) (pv 3)) (fun _ _ => rfl))) (pss_cons (ps_if (pt_cmpR op_lt (pv 4) pe_int (nomark _)) (pss_cons (ps_ret pe_int) pss_nil) pss_nil) (pss_cons (ps_ret (pe_ix (ixL_K (K := K) rfl) (pe_fld (pv 0) rfl) (pe_op op_add (pv 3) (pv 4)) (fun _ _ => rfl))) pss_nil))))))), fun vs Q h => run_F (fun F a rt hpre => ?_) vs H Q E h⟩
  show Bd _ _ _ _ _ _ (m_Finite_plus a.1 a.2.1 a.2.2)
  unfold m_Finite_plus
  refine b_seq (b_if (tt_d (ev_eq (ev_fld 5 ev_var T.cl_Finite T.na_Finite_degree nd_Finite rfl rfl) ev_int)) (fun h_1 => ?_) (fun h_1 => ?_))
  · exact b_seq (b_ret (ev_mod (ev_add ev_var ev_var) (ev_fld 4 ev_var T.cl_Finite T.na_Finite_prime nd_Finite rfl rfl) (by exact fo_p hpre.1)) (fun h => h _))
  · refine b_fall ?_
    refine b_seq (b_if (tt_d (ev_eq ev_var ev_int)) (fun h_2 => ?_) (fun h_2 => ?_))
    · exact b_seq (b_ret ev_var (fun h => h _))
    · refine b_fall ?_
      refine b_seq (b_if (tt_d (ev_eq ev_var ev_int)) (fun h_3 => ?_) (fun h_3 => ?_))
      · exact b_seq (b_ret ev_var (fun h => h _))
      · refine b_fall ?_
        refine b_let (ev_ixL (ev_fld 8 ev_var T.cl_Finite T.na_Finite__logs nd_Finite rfl rfl) ev_var (by exact fw_log hpre.1 h_1 hpre.2.1)) fun at_1 hat_1 => ?_
        refine b_let (ev_ixL (ev_fld 9 ev_var T.cl_Finite T.na_Finite__lifts nd_Finite rfl rfl) (ev_sub (ev_ixL (ev_fld 8 ev_var T.cl_Finite T.na_Finite__logs nd_Finite rfl rfl) ev_var (by exact fw_log hpre.1 h_1 hpre.2.2)) ev_var) (by exact fw_lift hpre.1 h_1 hpre.2.1 hpre.2.2 h_2 h_3 hat_1)) fun lift_1 hlift_1 => ?_
        refine b_seq (b_if (tt_d (ev_lt ev_var ev_int)) (fun h_4 => ?_) (fun h_4 => ?_))
        · exact b_seq (b_ret ev_int (fun h => h _))
        · refine b_fall ?_
          exact b_seq (b_ret (ev_ixL (ev_fld 7 ev_var T.cl_Finite T.na_Finite__powers nd_Finite rfl rfl) (ev_add ev_var ev_var) (by exact fw_pow hpre.1 h_1 hpre.2.1 hpre.2.2 h_2 h_3 hat_1 hlift_1 h_4)) (fun h => h _))

theorem sc_Finite_negated : FnScope ["self", "a"] ["self", "a"] (defScope s_Finite_negated) := ⟨rfl, rfl, rfl, by decide +kernel, rfl, by decide +kernel, by decide +kernel⟩
def m_Finite_negated (a_self : FinS) (a_a : Int) : Int :=
  (if (a_self.degree = (1 : Int)) then
  ((-a_a) % a_self.prime)
  else
  (if (a_a = (0 : Int)) then
  (0 : Int)
  else
  (ix a_self.powers ((ix a_self.logs a_a) + (ix a_self.logs (a_self.prime - (1 : Int)))))))

theorem ok_Finite_negated (T : Tx P K mg) : Mt P w K mg base 1 (He.ga K "Finite") "negated" (spF (fun a : FinS × Int => [.val (y_Finite K) a.1, .val yI a.2]) (fun a : FinS × Int => FinOk a.1 ∧ El a.1 a.2) yI (fun a => m_Finite_negated a.1 a.2)) := by
  obtain ⟨f, fd, hm, FD⟩ := T.me_Finite_negated
  refine ⟨f, fd, ["self", "a"], T.cl_Finite, hm, ?_, FD.bindsN fun _ _ _ _ _ _ us hl => match us, hl with | [_, _], _ => rfl⟩
  refine TL.FunD.okC (N := ["self", "a"]) FD sc_Finite_negated (lenF fun _ => rfl) fun cdv A outer s H E hr => ?_
  refine ⟨_, (pss_cons (ps_if (pt_cmpR op_eq (pe_fld (pv 0) rfl) pe_int (nomark _)) (pss_cons (ps_ret (pe_op op_mod (pe_un un_neg (pv 1)) (pe_fld (pv 0) rfl))) pss_nil) pss_nil) (pss_cons (ps_if (pt_cmpR op_eq (pv 1) pe_int (nomark _)) (pss_cons (ps_ret pe_int) pss_nil) pss_nil) (pss_cons (ps_ret (pe_ix (ixL_K (K := K) rfl) (pe_fld (pv 0) rfl) (pe_op op_add (pe_ix (ixL_K (K := K) rfl) (pe_fld (pv 0) rfl) (pv 1) (fun _ _ => rfl)) (pe_ix (ixL_K (K := K) rfl) (pe_fld (pv 0) rfl) (pe_op op_sub (pe_fld (pv 0) rfl) pe_int) (fun _ _ => rfl))) (fun _ _ => rfl))) pss_nil))), fun vs Q h => run_F (fun F a rt hpre => ?_) vs H Q E h⟩
  show Bd _ _ _ _ _ _ (m_Finite_negated a.1 a.2)
  unfold m_Finite_negated
  refine b_seq (b_if (tt_d (ev_eq (ev_fld 5 ev_var T.cl_Finite T.na_Finite_degree nd_Finite rfl rfl) ev_int)) (fun h_1 => ?_) (fun h_1 => ?_))
  · exact b_seq (b_ret (ev_mod (ev_neg ev_var) (ev_fld 4 ev_var T.cl_Finite T.na_Finite_prime nd_Finite rfl rfl) (by exact fo_p hpre.1)) (fun h => h _))
  · refine b_fall ?_
    refine b_seq (b_if (tt_d (ev_eq ev_var ev_int)) (fun h_2 => ?_) (fun h_2 => ?_))
    · exact b_seq (b_ret ev_int (fun h => h _))
    · refine b_fall ?_
      exact b_seq (b_ret (ev_ixL (ev_fld 7 ev_var T.cl_Finite T.na_Finite__powers nd_Finite rfl rfl) (ev_add (ev_ixL (ev_fld 8 ev_var T.cl_Finite T.na_Finite__logs nd_Finite rfl rfl) ev_var (by exact fw_log hpre.1 h_1 hpre.2)) (ev_ixL (ev_fld 8 ev_var T.cl_Finite T.na_Finite__logs nd_Finite rfl rfl) (ev_sub (ev_fld 4 ev_var T.cl_Finite T.na_Finite_prime nd_Finite rfl rfl) ev_int) (by exact fw_logp hpre.1 h_1))) (by exact fw_neg hpre.1 h_1 hpre.2 h_2)) (fun h => h _))

theorem six_neg : ∀ F ∈ sixF, ∀ a ∈ rng 0 F.size.toNat, 0 ≤ m_Finite_negated F a ∧ m_Finite_negated F a < F.size := by decide +kernel
theorem el_mod {p x : Int} (h : 2 ≤ p) : 0 ≤ x % p ∧ x % p < p := ⟨Int.emod_nonneg _ (by omega), Int.emod_lt_of_pos _ (by omega)⟩
theorem el_neg {F : FinS} {x : Int} (h : FinOk F) (hx : El F x) : El F (m_Finite_negated F x) := by
  rcases h with h | ⟨p, c, h, rfl⟩
  · exact six_neg F h x (el_rng hx)
  · exact el_mod h.1

theorem sc_Finite_minus : FnScope ["self", "a", "b"] ["self", "a", "b"] (defScope s_Finite_minus) := ⟨rfl, rfl, rfl, by decide +kernel, rfl, by decide +kernel, by decide +kernel⟩
def m_Finite_minus (a_self : FinS) (a_a : Int) (a_b : Int) : Int :=
  (if (a_self.degree = (1 : Int)) then
  ((a_a - a_b) % a_self.prime)
  else
  (m_Finite_plus a_self a_a (m_Finite_negated a_self a_b)))

theorem ok_Finite_minus (T : Tx P K mg) : Mt P w K mg base 4 (He.ga K "Finite") "minus" (spF (fun a : FinS × Int × Int => [.val (y_Finite K) a.1, .val yI a.2.1, .val yI a.2.2]) (fun a : FinS × Int × Int => FinOk a.1 ∧ El a.1 a.2.1 ∧ El a.1 a.2.2) yI (fun a => m_Finite_minus a.1 a.2.1 a.2.2)) := by
  obtain ⟨f, fd, hm, FD⟩ := T.me_Finite_minus
  refine ⟨f, fd, ["self", "a", "b"], T.cl_Finite, hm, ?_, FD.bindsN fun _ _ _ _ _ _ us hl => match us, hl with | [_, _, _], _ => rfl⟩
  refine TL.FunD.okC (N := ["self", "a", "b"]) FD sc_Finite_minus (lenF fun _ => rfl) fun cdv A outer s H E hr => ?_
  refine ⟨_, (pss_cons (ps_if (pt_cmpR op_eq (pe_fld (pv 0) rfl) pe_int (nomark _)) (pss_cons (ps_ret (pe_op op_mod (pe_op op_sub (pv 1) (pv 2)) (pe_fld (pv 0) rfl))) pss_nil) pss_nil) (pss_cons (ps_ret (pe_mth (ok_Finite_plus T) hr (by decide) passL (pv 0) (pa_cons (pv 1) (pa_cons (pe_mth (ok_Finite_negated T) hr (by decide) passL (pv 0) (pa_cons (pv 2) pa_nil)) pa_nil)))) pss_nil)), fun vs Q h => run_F (fun F a rt hpre => ?_) vs H Q E h⟩
  show Bd _ _ _ _ _ _ (m_Finite_minus a.1 a.2.1 a.2.2)
  unfold m_Finite_minus
  refine b_seq (b_if (tt_d (ev_eq (ev_fld 5 ev_var T.cl_Finite T.na_Finite_degree nd_Finite rfl rfl) ev_int)) (fun h_1 => ?_) (fun h_1 => ?_))
  · exact b_seq (b_ret (ev_mod (ev_sub ev_var ev_var) (ev_fld 4 ev_var T.cl_Finite T.na_Finite_prime nd_Finite rfl rfl) (by exact fo_p hpre.1)) (fun h => h _))
  · refine b_fall ?_
    exact b_seq (b_ret (ev_meth (m := "plus") (a.1, a.2.1, (m_Finite_negated a.1 a.2.2)) ev_var nm_Finite_plus (ea_cons ev_var (ea_cons (ev_meth (m := "negated") (a.1, a.2.2) ev_var nm_Finite_negated (ea_cons ev_var ea_nil) rfl (by exact ⟨hpre.1, hpre.2.2⟩)) ea_nil)) rfl (by exact ⟨hpre.1, hpre.2.1, el_neg hpre.1 hpre.2.2⟩)) (fun h => h _))

theorem sc_Finite_times : FnScope ["self", "a", "b"] ["self", "a", "b"] (defScope s_Finite_times) := ⟨rfl, rfl, rfl, by decide +kernel, rfl, by decide +kernel, by decide +kernel⟩
def m_Finite_times (a_self : FinS) (a_a : Int) (a_b : Int) : Int :=
  (if (a_self.degree = (1 : Int)) then
  ((a_a * a_b) % a_self.prime)
  else
  (if ((a_a = (0 : Int)) ∨ (a_b = (0 : Int))) then
  (0 : Int)
  else
  (ix a_self.powers ((ix a_self.logs a_a) + (ix a_self.logs a_b)))))

theorem ok_Finite_times (T : Tx P K mg) : Mt P w K mg base 1 (He.ga K "Finite") "times" (spF (fun a : FinS × Int × Int => [.val (y_Finite K) a.1, .val yI a.2.1, .val yI a.2.2]) (fun a : FinS × Int × Int => FinOk a.1 ∧ El a.1 a.2.1 ∧ El a.1 a.2.2) yI (fun a => m_Finite_times a.1 a.2.1 a.2.2)) := by
  obtain ⟨f, fd, hm, FD⟩ := T.me_Finite_times
  refine ⟨f, fd, ["self", "a", "b"], T.cl_Finite, hm, ?_, FD.bindsN fun _ _ _ _ _ _ us hl => match us, hl with | [_, _, _], _ => rfl⟩
  refine TL.FunD.okC (N := ["self", "a", "b"]) FD sc_Finite_times (lenF fun _ => rfl) fun cdv A outer s H E hr => ?_
  refine ⟨_, (pss_cons (ps_if (pt_cmpR op_eq (pe_fld (pv 0) rfl) pe_int (nomark _)) (pss_cons (ps_ret (pe_op op_mod (pe_op op_mulW (pv 1) (pv 2)) (pe_fld (pv 0) rfl))) pss_nil) pss_nil) (pss_cons (ps_if (PW.pt (pw_or (pt_cmpR op_eq (pv 1) pe_int (nomark _)) (pw_or1 (pt_cmpR op_eq (pv 2) pe_int (nomark _))))) (pss_cons (ps_ret pe_int) pss_nil) pss_nil) (pss_cons (ps_ret (pe_ix (ixL_K (K := K) rfl) (pe_fld (pv 0) rfl) (pe_op op_add (pe_ix (ixL_K (K := K) rfl) (pe_fld (pv 0) rfl) (pv 1) (fun _ _ => rfl)) (pe_ix (ixL_K (K := K) rfl) (pe_fld (pv 0) rfl) (pv 2) (fun _ _ => rfl))) (fun _ _ => rfl))) pss_nil))), fun vs Q h => run_F (fun F a rt hpre => ?_) vs H Q E h⟩
  show Bd _ _ _ _ _ _ (m_Finite_times a.1 a.2.1 a.2.2)
  unfold m_Finite_times
  refine b_seq (b_if (tt_d (ev_eq (ev_fld 5 ev_var T.cl_Finite T.na_Finite_degree nd_Finite rfl rfl) ev_int)) (fun h_1 => ?_) (fun h_1 => ?_))
  · exact b_seq (b_ret (ev_mod (ev_mul ev_var ev_var (by exact fo_mulW hpre.1 h_1 hpre.2.1 hpre.2.2)) (ev_fld 4 ev_var T.cl_Finite T.na_Finite_prime nd_Finite rfl rfl) (by exact fo_p hpre.1)) (fun h => h _))
  · refine b_fall ?_
    refine b_seq (b_if (tt_or (tt_d (ev_eq ev_var ev_int)) fun hb_1 => (tt_d (ev_eq ev_var ev_int))) (fun h_2 => ?_) (fun h_2 => ?_))
    · exact b_seq (b_ret ev_int (fun h => h _))
    · refine b_fall ?_
      exact b_seq (b_ret (ev_ixL (ev_fld 7 ev_var T.cl_Finite T.na_Finite__powers nd_Finite rfl rfl) (ev_add (ev_ixL (ev_fld 8 ev_var T.cl_Finite T.na_Finite__logs nd_Finite rfl rfl) ev_var (by exact fw_log hpre.1 h_1 hpre.2.1)) (ev_ixL (ev_fld 8 ev_var T.cl_Finite T.na_Finite__logs nd_Finite rfl rfl) ev_var (by exact fw_log hpre.1 h_1 hpre.2.2))) (by exact fw_mul hpre.1 h_1 hpre.2.1 hpre.2.2 (fun z => h_2 (.inl z)) (fun z => h_2 (.inr z)))) (fun h => h _))

theorem sc_Finite_is_zero : FnScope ["self", "a"] ["self", "a"] (defScope s_Finite_is_zero) := ⟨rfl, rfl, rfl, by decide +kernel, rfl, by decide +kernel, by decide +kernel⟩
def m_Finite_is_zero (a_self : FinS) (a_a : Int) : Bool :=
  (decide (a_a = (0 : Int)))

theorem ok_Finite_is_zero (T : Tx P K mg) : Mt P w K mg base 1 (He.ga K "Finite") "is_zero" (spF (fun a : FinS × Int => [.val (y_Finite K) a.1, .val yI a.2]) (fun _ : FinS × Int => True) yB (fun a => m_Finite_is_zero a.1 a.2)) := by
  obtain ⟨f, fd, hm, FD⟩ := T.me_Finite_is_zero
  refine ⟨f, fd, ["self", "a"], T.cl_Finite, hm, ?_, FD.bindsN fun _ _ _ _ _ _ us hl => match us, hl with | [_, _], _ => rfl⟩
  refine TL.FunD.okC (N := ["self", "a"]) FD sc_Finite_is_zero (lenF fun _ => rfl) fun cdv A outer s H E hr => ?_
  refine ⟨_, (pss_cons (ps_ret (pe_cmpR op_eq (pv 1) pe_int (nomark _))) pss_nil), fun vs Q h => run_F (fun F a rt hpre => ?_) vs H Q E h⟩
  show Bd _ _ _ _ _ _ (m_Finite_is_zero a.1 a.2)
  unfold m_Finite_is_zero
  exact b_seq (b_ret (ev_eq ev_var ev_int) (fun h => h _))

theorem sc_Finite_inv : FnScope ["self", "a"] ["self", "a"] (defScope s_Finite_inv) := ⟨rfl, rfl, rfl, by decide +kernel, rfl, by decide +kernel, by decide +kernel⟩
def m_Finite_inv (a_self : FinS) (a_a : Int) : Option Int :=
  (if (a_a = (0 : Int)) then
  none
  else
  (if (a_self.degree = (1 : Int)) then
  some (m_power_modulo a_a (a_self.prime - (2 : Int)) a_self.prime)
  else
  some (ix a_self.powers ((a_self.size - (1 : Int)) - (ix a_self.logs a_a)))))

theorem ok_Finite_inv (T : Tx P K mg) : Mt P w K mg base 2 (He.ga K "Finite") "inv" (spO (fun a : FinS × Int => [.val (y_Finite K) a.1, .val yI a.2]) (fun a : FinS × Int => FinOk a.1 ∧ El a.1 a.2) yI (.ref (He.ga K "ZeroError")) (fun a => m_Finite_inv a.1 a.2)) := by
  obtain ⟨f, fd, hm, FD⟩ := T.me_Finite_inv
  refine ⟨f, fd, ["self", "a"], T.cl_Finite, hm, ?_, FD.bindsN fun _ _ _ _ _ _ us hl => match us, hl with | [_, _], _ => rfl⟩
  refine TL.FunD.okC (N := ["self", "a"]) FD sc_Finite_inv (lenO fun _ => rfl) fun cdv A outer s H E hr => ?_
  refine ⟨_, (pss_cons (ps_if (pt_cmpR op_eq (pv 1) pe_int (nomark _)) (pss_cons (ps_raise rfl (takes_of rfl rfl rfl rfl) (pmk_own0 PySem.F.excBase_ValueError T.x_ZeroError T.gc_ZeroError T.k_ZeroError (raises_own T.xb_ZeroError T.xt_ZeroError) (by rfl))) pss_nil) pss_nil) (pss_cons (ps_if (pt_cmpR op_eq (pe_fld (pv 0) rfl) pe_int (nomark _)) (pss_cons (ps_ret (pe_cl (ok_power_modulo T) hr (by decide) (by rfl) passL (pa_cons (pv 1) (pa_cons (pe_op op_sub (pe_fld (pv 0) rfl) pe_int) (pa_cons (pe_fld (pv 0) rfl) pa_nil))))) pss_nil) pss_nil) (pss_cons (ps_ret (pe_ix (ixL_K (K := K) rfl) (pe_fld (pv 0) rfl) (pe_op op_sub (pe_op op_sub (pe_fld (pv 0) rfl) pe_int) (pe_ix (ixL_K (K := K) rfl) (pe_fld (pv 0) rfl) (pv 1) (fun _ _ => rfl))) (fun _ _ => rfl))) pss_nil))), fun vs Q h => run_O (fun F a rt hpre => ?_) vs H Q h⟩
  show Bd _ _ _ _ _ _ (m_Finite_inv a.1 a.2)
  unfold m_Finite_inv
  refine b_seq (b_if (tt_d (ev_eq ev_var ev_int)) (fun h_1 => ?_) (fun h_1 => ?_))
  · exact b_seq (b_raise (fun h => (h).2 rfl))
  · refine b_fall ?_
    refine b_seq (b_if (tt_d (ev_eq (ev_fld 5 ev_var T.cl_Finite T.na_Finite_degree nd_Finite rfl rfl) ev_int)) (fun h_2 => ?_) (fun h_2 => ?_))
    · exact b_seq (b_ret (ev_call (a.2, (a.1.prime - (2 : Int)), a.1.prime) (ea_cons ev_var (ea_cons (ev_sub (ev_fld 4 ev_var T.cl_Finite T.na_Finite_prime nd_Finite rfl rfl) ev_int) (ea_cons (ev_fld 4 ev_var T.cl_Finite T.na_Finite_prime nd_Finite rfl rfl) ea_nil))) rfl (by exact fo_pm hpre.1 ‹_›)) (fun h => h.1 _ rfl _))
    · refine b_fall ?_
      exact b_seq (b_ret (ev_ixL (ev_fld 7 ev_var T.cl_Finite T.na_Finite__powers nd_Finite rfl rfl) (ev_sub (ev_sub (ev_fld 3 ev_var T.cl_Finite T.na_Finite_size nd_Finite rfl rfl) ev_int) (ev_ixL (ev_fld 8 ev_var T.cl_Finite T.na_Finite__logs nd_Finite rfl rfl) ev_var (by exact fw_log hpre.1 ‹_› hpre.2))) (by exact fw_inv hpre.1 ‹¬ _ = (1 : Int)› hpre.2 ‹¬ _ = (0 : Int)›)) (fun h => h.1 _ rfl _))

def fInv (F : FinS) (a : Int) : Int := (m_Finite_inv F a).getD 0
theorem six_fld : ∀ F ∈ sixF, ∀ a ∈ rng 0 F.size.toNat, (m_Finite_plus F a 0 = a ∧ m_Finite_plus F (m_Finite_negated F a) a = 0 ∧ m_Finite_times F a 1 = a ∧ (0 ≤ fInv F a ∧ fInv F a < F.size) ∧ (a ≠ 0 → m_Finite_times F a (fInv F a) = 1 ∧ m_Finite_inv F a = some (fInv F a))) ∧
    ∀ b ∈ rng 0 F.size.toNat, ((0 ≤ m_Finite_plus F a b ∧ m_Finite_plus F a b < F.size) ∧ (0 ≤ m_Finite_times F a b ∧ m_Finite_times F a b < F.size) ∧ m_Finite_plus F a b = m_Finite_plus F b a ∧ m_Finite_times F a b = m_Finite_times F b a ∧ m_Finite_minus F a b = m_Finite_plus F a (m_Finite_negated F b)) ∧
    ∀ c ∈ rng 0 F.size.toNat, m_Finite_plus F (m_Finite_plus F a b) c = m_Finite_plus F a (m_Finite_plus F b c) ∧ m_Finite_times F (m_Finite_times F a b) c = m_Finite_times F a (m_Finite_times F b c) ∧ m_Finite_times F a (m_Finite_plus F b c) = m_Finite_plus F (m_Finite_times F a b) (m_Finite_times F a c) := by decide +kernel
theorem mod_add {a b c d m : Int} (h : a % m = b % m) (k : c % m = d % m) : (a + c) % m = (b + d) % m := by
  rw [Int.add_emod, h, k, ← Int.add_emod]
theorem mod_self (x m : Int) : x % m % m = x % m := Int.emod_emod_of_dvd _ (Int.dvd_refl m)
theorem fin_laws {F : FinS} (h : FinOk F) {a b c : Int} (ha : El F a) (hb : El F b) (hc : El F c) : (m_Finite_plus F a 0 = a ∧ m_Finite_plus F (m_Finite_negated F a) a = 0 ∧ m_Finite_times F a 1 = a ∧ (0 ≤ fInv F a ∧ fInv F a < F.size) ∧ (a ≠ 0 → m_Finite_times F a (fInv F a) = 1 ∧ m_Finite_inv F a = some (fInv F a))) ∧
    ((0 ≤ m_Finite_plus F a b ∧ m_Finite_plus F a b < F.size) ∧ (0 ≤ m_Finite_times F a b ∧ m_Finite_times F a b < F.size) ∧ m_Finite_plus F a b = m_Finite_plus F b a ∧ m_Finite_times F a b = m_Finite_times F b a ∧ m_Finite_minus F a b = m_Finite_plus F a (m_Finite_negated F b)) ∧
    m_Finite_plus F (m_Finite_plus F a b) c = m_Finite_plus F a (m_Finite_plus F b c) ∧ m_Finite_times F (m_Finite_times F a b) c = m_Finite_times F a (m_Finite_times F b c) ∧ m_Finite_times F a (m_Finite_plus F b c) = m_Finite_plus F (m_Finite_times F a b) (m_Finite_times F a c) := by
  rcases h with h | ⟨p, k, h, rfl⟩
  · have h1 := six_fld F h a (el_rng ha)
    exact ⟨h1.1, (h1.2 b (el_rng hb)).1, (h1.2 b (el_rng hb)).2 c (el_rng hc)⟩
  · have ep : ∀ x y : Int, m_Finite_plus ⟨p, 1, p, [k, 1], [], [], []⟩ x y = (x + y) % p := fun _ _ => rfl
    have et : ∀ x y : Int, m_Finite_times ⟨p, 1, p, [k, 1], [], [], []⟩ x y = (x * y) % p := fun _ _ => rfl
    have en : ∀ x : Int, m_Finite_negated ⟨p, 1, p, [k, 1], [], [], []⟩ x = (-x) % p := fun _ => rfl
    have em : ∀ x y : Int, m_Finite_minus ⟨p, 1, p, [k, 1], [], [], []⟩ x y = (x - y) % p := fun _ _ => rfl
    have ei0 : fInv ⟨p, 1, p, [k, 1], [], [], []⟩ 0 = 0 := rfl
    have ei : ∀ x : Int, x ≠ 0 → m_Finite_inv ⟨p, 1, p, [k, 1], [], [], []⟩ x = some (m_power_modulo x (p - 2) p) := fun x hx => by
      unfold m_Finite_inv
      rw [if_neg hx]
      rfl
    have hp := h.1
    have h0 : 0 ≤ a ∧ a < p := ha
    refine ⟨⟨?_, ?_, ?_, ?_, ?_⟩, ⟨?_, ?_, ?_, ?_, ?_⟩, ?_, ?_, ?_⟩
    · rw [ep, Int.add_zero, Int.emod_eq_of_lt h0.1 h0.2]
    · rw [ep, en, mod_add (mod_self (-a) p) rfl, Int.add_left_neg]
      rfl
    · rw [et, Int.mul_one, Int.emod_eq_of_lt h0.1 h0.2]
    · by_cases z : a = 0
      · rw [z, ei0]
        exact ⟨Int.le_refl 0, by show 0 < p; omega⟩
      · unfold fInv
        rw [ei a z]
        exact pm_post (by omega)
    · intro z
      have e1 : fInv ⟨p, 1, p, [k, 1], [], [], []⟩ a = m_power_modulo a (p - 2) p := by
        unfold fInv
        rw [ei a z]
        rfl
      rw [e1, et]
      exact ⟨pm_inv h.2.1 h.2.2.2.2 (by omega) h0.2, ei a z⟩
    · exact el_mod hp
    · exact el_mod hp
    · rw [ep, ep, Int.add_comm]
    · rw [et, et, Int.mul_comm]
    · rw [em, ep, en, mod_add rfl (mod_self (-b) p), Int.sub_eq_add_neg]
    · rw [ep, ep, ep, ep, mod_add (mod_self (a + b) p) rfl, mod_add rfl (mod_self (b + c) p), Int.add_assoc]
    · rw [et, et, et, et, mod_mul (mod_self (a * b) p) rfl, mod_mul rfl (mod_self (b * c) p), Int.mul_assoc]
    · rw [ep, et, et, et, ep, mod_mul rfl (mod_self (b + c) p), mod_add (mod_self (a * b) p) (mod_self (a * c) p), Int.mul_add]
theorem el_0 {F : FinS} (h : FinOk F) : El F 0 := by
  rcases h with h | ⟨p, c, h, rfl⟩
  · have := six_b F h
    exact ⟨Int.le_refl 0, by omega⟩
  · exact ⟨Int.le_refl 0, by show 0 < p; omega⟩
theorem el_1 {F : FinS} (h : FinOk F) : El F 1 := by
  rcases h with h | ⟨p, c, h, rfl⟩
  · have := six_b F h
    exact ⟨by omega, by omega⟩
  · exact ⟨by omega, by show 1 < p; omega⟩
/-- the elements -/
abbrev Ec (F : FinS) := {x : Int // El F x}
def fld (F : FinS) (h : FinOk F) : FieldD (Ec F) where
  zero := ⟨0, el_0 h⟩
  one := ⟨1, el_1 h⟩
  add a b := ⟨m_Finite_plus F a.1 b.1, (fin_laws h a.2 b.2 b.2).2.1.1⟩
  mul a b := ⟨m_Finite_times F a.1 b.1, (fin_laws h a.2 b.2 b.2).2.1.2.1⟩
  neg a := ⟨m_Finite_negated F a.1, el_neg h a.2⟩
  inv a := ⟨if a.1 = 0 then 0 else fInv F a.1, by split; exact el_0 h; exact (fin_laws h a.2 a.2 a.2).1.2.2.2.1⟩
  add_zero a := Subtype.ext (fin_laws h a.2 a.2 a.2).1.1
  add_comm a b := Subtype.ext (fin_laws h a.2 b.2 b.2).2.1.2.2.1
  add_assoc a b c := Subtype.ext (fin_laws h a.2 b.2 c.2).2.2.1
  neg_add a := Subtype.ext (fin_laws h a.2 a.2 a.2).1.2.1
  mul_comm a b := Subtype.ext (fin_laws h a.2 b.2 b.2).2.1.2.2.2.1
  mul_assoc a b c := Subtype.ext (fin_laws h a.2 b.2 c.2).2.2.2.1
  mul_one a := Subtype.ext (fin_laws h a.2 a.2 a.2).1.2.2.1
  distrib a b c := Subtype.ext (fin_laws h a.2 b.2 c.2).2.2.2.2
  zero_one z := by
    have e : (0 : Int) = 1 := congrArg Subtype.val z
    exact absurd e (by decide)
  inv_zero := Subtype.ext (show (if (0 : Int) = 0 then (0 : Int) else fInv F 0) = 0 from if_pos rfl)
  mul_inv a ha := by
    have hz : a.1 ≠ 0 := fun z => ha (Subtype.ext z)
    refine Subtype.ext ?_
    show m_Finite_times F a.1 (if a.1 = 0 then 0 else fInv F a.1) = 1
    rw [if_neg hz]
    exact ((fin_laws h a.2 a.2 a.2).1.2.2.2.2 hz).1
theorem el_plus {F : FinS} {a b : Int} (h : FinOk F) (ha : Eo F.size a) (hb : Eo F.size b) : Eo F.size (m_Finite_plus F a b) := (fin_laws h ha hb hb).2.1.1
theorem el_times {F : FinS} {a b : Int} (h : FinOk F) (ha : Eo F.size a) (hb : Eo F.size b) : Eo F.size (m_Finite_times F a b) := (fin_laws h ha hb hb).2.1.2.1
theorem el_neg' {F : FinS} {a : Int} (h : FinOk F) (ha : Eo F.size a) : Eo F.size (m_Finite_negated F a) := el_neg h ha
theorem el_minus {F : FinS} {a b : Int} (h : FinOk F) (ha : Eo F.size a) (hb : Eo F.size b) : Eo F.size (m_Finite_minus F a b) := by
  rw [(fin_laws h ha hb hb).2.1.2.2.2.2]
  exact el_plus h ha (el_neg' h hb)
theorem inv_some {F : FinS} {a : Int} (h : a ≠ 0) : ∃ b, m_Finite_inv F a = some b := by
  unfold m_Finite_inv
  rw [if_neg h]
  split <;> exact ⟨_, rfl⟩
theorem nm_inv {F : FinS} {a : Int} (h : ¬ m_Finite_is_zero F a = true) : (m_Finite_inv F a).isSome = true := by
  have : a ≠ 0 := fun z => h (by unfold m_Finite_is_zero; exact decide_eq_true z)
  obtain ⟨b, e⟩ := inv_some (F := F) this
  rw [e]
  rfl
theorem el_inv {F : FinS} {a : Int} (h : FinOk F) (ha : Eo F.size a) (h0 : ¬ m_Finite_is_zero F a = true) : Eo F.size (oget (m_Finite_inv F a)) := by
  have z : a ≠ 0 := fun z => h0 (by unfold m_Finite_is_zero; exact decide_eq_true z)
  rw [((fin_laws h ha ha ha).1.2.2.2.2 z).2]
  exact (fin_laws h ha ha ha).1.2.2.2.1
theorem el_0' {F : FinS} (h : FinOk F) : Eo F.size 0 := el_0 h
theorem el_1' {F : FinS} (h : FinOk F) : Eo F.size 1 := el_1 h
local macro_rules | `(tactic| array_get_dec) => `(tactic| first | ((with_reducible apply el_plus <;> array_get_dec)) | fail)
local macro_rules | `(tactic| array_get_dec) => `(tactic| first | ((with_reducible apply el_times <;> array_get_dec)) | fail)
local macro_rules | `(tactic| array_get_dec) => `(tactic| first | ((with_reducible apply el_neg' <;> array_get_dec)) | fail)
local macro_rules | `(tactic| array_get_dec) => `(tactic| first | ((with_reducible apply el_minus <;> array_get_dec)) | fail)
local macro_rules | `(tactic| array_get_dec) => `(tactic| first | ((with_reducible apply el_inv <;> array_get_dec)) | fail)
local macro_rules | `(tactic| array_get_dec) => `(tactic| first | ((with_reducible apply el_0' ; array_get_dec)) | fail)
local macro_rules | `(tactic| array_get_dec) => `(tactic| first | ((with_reducible apply el_1' ; array_get_dec)) | fail)
class FinK (F : FinS) : Prop where
  ok : FinOk F
@[reducible] instance fieldF (F : FinS) [FinK F] : Lean.Grind.Field (Ec F) := (fld F FinK.ok).field

theorem sc_Finite_over : FnScope ["self", "a", "b"] ["self", "a", "b"] (defScope s_Finite_over) := ⟨rfl, rfl, rfl, by decide +kernel, rfl, by decide +kernel, by decide +kernel⟩
def m_Finite_over (a_self : FinS) (a_a : Int) (a_b : Int) : Int :=
  (m_Finite_times a_self a_a (oget (m_Finite_inv a_self a_b)))
theorem ov_inv {F : FinS} {a : Int} (h : a ≠ 0) : (m_Finite_inv F a).isSome = true := by
  unfold m_Finite_inv
  rw [if_neg h]
  split <;> rfl
theorem ov_el {F : FinS} {a : Int} (h : FinOk F) (ha : El F a) (h0 : a ≠ 0) : El F (oget (m_Finite_inv F a)) := el_inv h ha fun z => h0 (by unfold m_Finite_is_zero at z; exact of_decide_eq_true z)


theorem ok_Finite_over (T : Tx P K mg) : Mt P w K mg base 4 (He.ga K "Finite") "over" (spF (fun a : FinS × Int × Int => [.val (y_Finite K) a.1, .val yI a.2.1, .val yI a.2.2]) (fun a : FinS × Int × Int => FinOk a.1 ∧ El a.1 a.2.1 ∧ El a.1 a.2.2 ∧ a.2.2 ≠ 0) yI (fun a => m_Finite_over a.1 a.2.1 a.2.2)) := by
  obtain ⟨f, fd, hm, FD⟩ := T.me_Finite_over
  refine ⟨f, fd, ["self", "a", "b"], T.cl_Finite, hm, ?_, FD.bindsN fun _ _ _ _ _ _ us hl => match us, hl with | [_, _, _], _ => rfl⟩
  refine TL.FunD.okC (N := ["self", "a", "b"]) FD sc_Finite_over (lenF fun _ => rfl) fun cdv A outer s H E hr => ?_
  refine ⟨_, (pss_cons (ps_ret (pe_mth (ok_Finite_times T) hr (by decide) passL (pv 0) (pa_cons (pv 1) (pa_cons (pe_mth (ok_Finite_inv T) hr (by decide) passL (pv 0) (pa_cons (pv 2) pa_nil)) pa_nil)))) pss_nil), fun vs Q h => run_F (fun F a rt hpre => ?_) vs H Q E h⟩
  show Bd _ _ _ _ _ _ (m_Finite_over a.1 a.2.1 a.2.2)
  unfold m_Finite_over
  exact b_seq (b_ret (ev_meth (m := "times") (a.1, a.2.1, (oget (m_Finite_inv a.1 a.2.2))) ev_var nm_Finite_times (ea_cons ev_var (ea_cons (ev_methO (m := "inv") (a.1, a.2.2) ev_var nm_Finite_inv (ea_cons ev_var ea_nil) rfl (by exact ⟨hpre.1, hpre.2.2.1⟩) (oget_of (by exact ov_inv hpre.2.2.2))) ea_nil)) rfl (by exact ⟨hpre.1, hpre.2.1, ov_el hpre.1 hpre.2.2.1 hpre.2.2.2⟩)) (fun h => h _))

theorem el_over {F : FinS} {a b : Int} (h : FinOk F) (ha : Eo F.size a) (hb : Eo F.size b) (h0 : b ≠ 0) : Eo F.size (m_Finite_over F a b) := by
  unfold m_Finite_over
  exact el_times h ha (ov_el h hb h0)

theorem sc_law_cells : FnScope ["script", "cell"] ["script"] (defScope s_law_cells) := ⟨rfl, rfl, rfl, by decide +kernel, rfl, by decide +kernel, by decide +kernel⟩
def m_law_cells (a_script : (List Int)) : (List Int) :=
  ([(0 : Int), (0 : Int), (2 : Int)] ++ (List.map (fun (cell_1 : Int) => ((Int.natAbs cell_1 : Nat) : Int)) a_script))

theorem ok_law_cells (T : Tx P K mg) : Cl P w K mg base 1 "_law_cells" (spL (fun a : (List Int) => [.val (yL yI) a]) (fun a : (List Int) => a.length ≤ 63) yI (fun a => m_law_cells a)) := by
  obtain ⟨f, fd, hg, FD⟩ := T.g_law_cells
  refine ⟨f, fd, ["script"], ?_, hg, FD.kp, FD.bindsN fun _ _ _ _ _ _ us hl => match us, hl with | [_], _ => rfl⟩
  refine TL.FunD.okC (N := ["script", "cell"]) FD sc_law_cells (lenL fun _ => rfl) fun cdv A outer s H E hr => ?_
  refine ⟨_, (pss_cons (ps_ret (pe_op op_cat (pe_lst (pa_cons pe_int (pa_cons pe_int (pa_cons pe_int pa_nil)))) (pe_lc (own := [("cell", 1)]) (tt := tYes) rfl sc_law_cells.nd (pi_listK (K := K) rfl (pv 0)) (by first | exact blkOk_by (N := ["script", "cell"]) (sc := defScope s_law_cells) (by decide +kernel) | exact blkOk_by rfl) (fun _ _ _ _ _ => (pg_name (i := 1) sc_law_cells.nd (by rfl) (by first | exact .inl rfl | exact .inr rfl))) (fun _ _ _ _ _ => pts_nil) (fun _ _ _ _ _ => (pe_callB call_abs (by rfl) T.b_abs (by decide +kernel) (pa_cons (pv 1) pa_nil)))))) pss_nil), fun vs Q h => run_L (fun F a rt hpre => ?_) vs H Q E h⟩
  show Bd _ _ _ _ _ _ (m_law_cells a)
  unfold m_law_cells
  exact b_seq (b_retL (evl_cat (ev_l (evl_lst (t := yI) (xs := [(0 : Int), (0 : Int), (2 : Int)]) (ea_cons ev_int (ea_cons ev_int (ea_cons ev_int ea_nil))) rfl (lit_len 3 rfl (by decide)))) (ev_l (lc_map (fun (cell_1 : Int) => ((Int.natAbs cell_1 : Nat) : Int)) (iv_list ev_var) (tg_name 1) (by decide) (by exact Nat.le_trans hpre (by decide)) (fun D gs cell_1 hm_1 => (ev_abs ev_var)))) (by rw [List.length_map]; exact Nat.le_trans (m := 3 + 63) (Nat.add_le_add_left hpre 3) (by decide))) (fun h => h))

theorem sc_law_draw : FnScope ["pool", "most", "cell"] ["pool", "most"] (defScope s_law_draw) := ⟨rfl, rfl, rfl, by decide +kernel, rfl, by decide +kernel, by decide +kernel⟩
def m_law_draw (a_pool : List Int) (a_most : Int) : Int × List Int :=
  bnd (setI a_pool (0 : Int) ((ix a_pool (0 : Int)) + (1 : Int))) fun pool_1 =>
  (if ((ix pool_1 (1 : Int)) = (0 : Int)) then
  bnd (setI pool_1 (2 : Int) ((ix pool_1 (2 : Int)) + (1 : Int))) fun pool_2 =>
  bnd (setI pool_2 (1 : Int) ((278 : Int) + ((101 : Int) * (ix pool_2 (0 : Int))))) fun pool_3 =>
  (if ((ix pool_3 (2 : Int)) < (pool_3.length : Int)) then
  bnd (setI pool_3 (1 : Int) (ix pool_3 (ix pool_3 (2 : Int)))) fun pool_4 =>
  bnd (ix pool_4 (1 : Int)) fun cell_1 =>
  bnd (setI pool_4 (1 : Int) (cell_1 / a_most)) fun pool_5 =>
  ((cell_1 % a_most), pool_5)
  else
  bnd (ix pool_3 (1 : Int)) fun cell_2 =>
  bnd (setI pool_3 (1 : Int) (cell_2 / a_most)) fun pool_6 =>
  ((cell_2 % a_most), pool_6))
  else
  bnd (ix pool_1 (1 : Int)) fun cell_3 =>
  bnd (setI pool_1 (1 : Int) (cell_3 / a_most)) fun pool_7 =>
  ((cell_3 % a_most), pool_7))

theorem ok_law_draw (T : Tx P K mg) : Cl P w K mg base 1 "_law_draw" (spP (fun (p : Addr) (a : List Int × Int) => [.val (yV (.ref p)) (), .val yI a.2]) (fun a => cL yI a.1) (fun s => cL yI s) (fun a : List Int × Int => PlOk a.1 ∧ 0 < a.2 ∧ Sz 200 a.2) yI (fun a => m_law_draw a.1 a.2)) := by
  obtain ⟨f, fd, hg, FD⟩ := T.g_law_draw
  refine ⟨f, fd, ["pool", "most"], ?_, hg, FD.kp, FD.bindsN fun _ _ _ _ _ _ us hl => match us, hl with | [_, _], _ => rfl⟩
  refine TL.FunD.okC (N := ["pool", "most", "cell"]) FD sc_law_draw (lenP fun _ _ => rfl) fun cdv A outer s H E hr => ?_
  refine ⟨_, (pss_cons (ps_asg (pe_op op_add (pe_ix (ixL_K (K := K) rfl) (pv 0) pe_int (fun _ _ => rfl)) pe_int) (pg_sub (pv 0) pe_int set_list)) (pss_cons (ps_if (pt_cmpR op_eq (pe_ix (ixL_K (K := K) rfl) (pv 0) pe_int (fun _ _ => rfl)) pe_int (nomark _)) (pss_cons (ps_asg (pe_op op_add (pe_ix (ixL_K (K := K) rfl) (pv 0) pe_int (fun _ _ => rfl)) pe_int) (pg_sub (pv 0) pe_int set_list)) (pss_cons (ps_asg (pe_op op_add pe_int (pe_op op_mulW pe_int (pe_ix (ixL_K (K := K) rfl) (pv 0) pe_int (fun _ _ => rfl)))) (pg_sub (pv 0) pe_int set_list)) (pss_cons (ps_if (pt_cmpR op_lt (pe_ix (ixL_K (K := K) rfl) (pv 0) pe_int (fun _ _ => rfl)) (pe_callB call_len_seq (by rfl) T.b_len (by decide +kernel) (pa_cons (pv 0) pa_nil)) (nomark _)) (pss_cons (ps_asg (pe_ix (ixL_K (K := K) rfl) (pv 0) (pe_ix (ixL_K (K := K) rfl) (pv 0) pe_int (fun _ _ => rfl)) (fun _ _ => rfl)) (pg_sub (pv 0) pe_int set_list)) pss_nil) pss_nil) pss_nil))) pss_nil) (pss_cons (ps_set (i := 2) sc_law_draw.nd rfl (by first | exact .inl rfl | exact .inr rfl) (pe_ix (ixL_K (K := K) rfl) (pv 0) pe_int (fun _ _ => rfl))) (pss_cons (ps_asg (pe_op op_fdivW (pv 2) (pv 1)) (pg_sub (pv 0) pe_int set_list)) (pss_cons (ps_ret (pe_op op_mod (pe_callTy call_int1 (by rfl) T.b_int (by decide +kernel) (pa_cons (pv 2) pa_nil)) (pv 1))) pss_nil))))), fun vs Q h => run_P (fun F p a rt hpre => ?_) vs H Q E h⟩
  show Bd _ _ _ _ _ _ (m_law_draw a.1 a.2)
  unfold m_law_draw
  refine b_setIL (t := yI) (xs := a.1) 0 (ev_add (ev_ixO (t := yI) (xs := a.1) 0 ev_var ev_int (by have h3 := hpre.1.1; subst_vars; simp only [Inb, setI_len]; omega)) ev_int) ev_var ev_int (by have h3 := hpre.1.1; subst_vars; simp only [Inb, setI_len]; omega) rfl fun pool_1 hpool_1 => ?_
  refine b_seq (b_if (tt_d (ev_eq (ev_ixO (t := yI) (xs := pool_1) 0 ev_var ev_int (by have h3 := hpre.1.1; subst_vars; simp only [Inb, setI_len]; omega)) ev_int)) (fun h_1 => ?_) (fun h_1 => ?_))
  · refine b_setIL (t := yI) (xs := pool_1) 0 (ev_add (ev_ixO (t := yI) (xs := pool_1) 0 ev_var ev_int (by have h3 := hpre.1.1; subst_vars; simp only [Inb, setI_len]; omega)) ev_int) ev_var ev_int (by have h3 := hpre.1.1; subst_vars; simp only [Inb, setI_len]; omega) rfl fun pool_2 hpool_2 => ?_
    refine b_setIL (t := yI) (xs := pool_2) 0 (ev_add ev_int (ev_mul ev_int (ev_ixO (t := yI) (xs := pool_2) 0 ev_var ev_int (by have h3 := hpre.1.1; subst_vars; simp only [Inb, setI_len]; omega)) (by exact dr_mul hpre.1 hpool_1 hpool_2))) ev_var ev_int (by have h3 := hpre.1.1; subst_vars; simp only [Inb, setI_len]; omega) rfl fun pool_3 hpool_3 => ?_
    refine b_seq (b_if (tt_d (ev_lt (ev_ixO (t := yI) (xs := pool_3) 0 ev_var ev_int (by have h3 := hpre.1.1; subst_vars; simp only [Inb, setI_len]; omega)) (ev_lenO (t := yI) (xs := pool_3) 0 ev_var))) (fun h_2 => ?_) (fun h_2 => ?_))
    · refine b_setIL (t := yI) (xs := pool_3) 0 (ev_ixO (t := yI) (xs := pool_3) 0 ev_var (ev_ixO (t := yI) (xs := pool_3) 0 ev_var ev_int (by have h3 := hpre.1.1; subst_vars; simp only [Inb, setI_len]; omega)) (by exact dr_at hpre.1 hpool_1 hpool_2 hpool_3 ‹_›)) ev_var ev_int (by have h3 := hpre.1.1; subst_vars; simp only [Inb, setI_len]; omega) rfl fun pool_4 hpool_4 => ?_
      refine b_fall ?_
      refine b_fall ?_
      refine b_let (ev_ixO (t := yI) (xs := pool_4) 0 ev_var ev_int (by have h3 := hpre.1.1; subst_vars; simp only [Inb, setI_len]; omega)) fun cell_1 hcell_1 => ?_
      refine b_setIL (t := yI) (xs := pool_4) 0 (ev_div ev_var ev_var (by exact sz_divW hpre.2.2 hpre.2.1)) ev_var ev_int (by have h3 := hpre.1.1; subst_vars; simp only [Inb, setI_len]; omega) rfl fun pool_5 hpool_5 => ?_
      exact b_seq (b_ret (ev_mod (ev_intI ev_var) ev_var (by exact hpre.2.1)) (fun h => h _))
    · refine b_fall ?_
      refine b_fall ?_
      refine b_let (ev_ixO (t := yI) (xs := pool_3) 0 ev_var ev_int (by have h3 := hpre.1.1; subst_vars; simp only [Inb, setI_len]; omega)) fun cell_2 hcell_2 => ?_
      refine b_setIL (t := yI) (xs := pool_3) 0 (ev_div ev_var ev_var (by exact sz_divW hpre.2.2 hpre.2.1)) ev_var ev_int (by have h3 := hpre.1.1; subst_vars; simp only [Inb, setI_len]; omega) rfl fun pool_6 hpool_6 => ?_
      exact b_seq (b_ret (ev_mod (ev_intI ev_var) ev_var (by exact hpre.2.1)) (fun h => h _))
  · refine b_fall ?_
    refine b_let (ev_ixO (t := yI) (xs := pool_1) 0 ev_var ev_int (by have h3 := hpre.1.1; subst_vars; simp only [Inb, setI_len]; omega)) fun cell_3 hcell_3 => ?_
    refine b_setIL (t := yI) (xs := pool_1) 0 (ev_div ev_var ev_var (by exact sz_divW hpre.2.2 hpre.2.1)) ev_var ev_int (by have h3 := hpre.1.1; subst_vars; simp only [Inb, setI_len]; omega) rfl fun pool_7 hpool_7 => ?_
    exact b_seq (b_ret (ev_mod (ev_intI ev_var) ev_var (by exact hpre.2.1)) (fun h => h _))

theorem p_draw {pool : List Int} {most : Int} (hp : PlOk pool ∧ 0 < most ∧ Sz 200 most) {y : Int × List Int} (hy : y = m_law_draw pool most) : 0 ≤ y.1 ∧ y.1 < most ∧ Pl2 pool y.2 1 := by
  subst hy
  obtain ⟨⟨h1, h2, h3, h4⟩, h5, _⟩ := hp
  unfold m_law_draw
  simp only [bnd]
  have md : ∀ x : Int, 0 ≤ x % most ∧ x % most < most := fun x => ⟨Int.emod_nonneg _ (by omega), Int.emod_lt_of_pos _ h5⟩
  have s0 : ∀ {s : List Int} {i : Nat} {x : Int} {m : Nat}, i < s.length → m < s.length → m ≠ i → ix (setI s (i : Int) x) (m : Int) = ix s (m : Int) := fun {s i x m} hi hm hne => by rw [ix_setN hi hm, if_neg hne]
  have s1 : ∀ {s : List Int} {i : Nat} {x : Int}, i < s.length → ix (setI s (i : Int) x) (i : Int) = x := fun {s i x} hi => by rw [ix_setN hi hi, if_pos rfl]
  have a0 : ix (setI pool 0 (ix pool 0 + 1)) 0 = ix pool 0 + 1 := s1 (i := 0) (by omega)
  have a2 : ix (setI pool 0 (ix pool 0 + 1)) 2 = ix pool 2 := s0 (i := 0) (m := 2) (by omega) (by omega) (by decide)
  have al : (setI pool 0 (ix pool 0 + 1)).length = pool.length := setI_len' _ _ _
  generalize setI pool 0 (ix pool 0 + 1) = A at a0 a2 al ⊢
  have key : ∀ (S : List Int) (x : Int), S.length = pool.length → 2 ≤ ix S 2 → ix S 0 = ix pool 0 + 1 → Pl2 pool (setI S 1 x) 1 := fun S x e1 e2 e3 => by
    have b0 : ix (setI S 1 x) 0 = ix S 0 := s0 (i := 1) (m := 0) (by omega) (by omega) (by decide)
    have b2 : ix (setI S 1 x) 2 = ix S 2 := s0 (i := 1) (m := 2) (by omega) (by omega) (by decide)
    have bl := setI_len' S 1 x
    exact ⟨by omega, by omega, by omega, by omega⟩
  have key2 : ∀ (S : List Int) (x : Int), S.length = pool.length → 2 ≤ ix S 2 → ix S 0 = ix pool 0 + 1 → (setI S 1 x).length = pool.length ∧ 2 ≤ ix (setI S 1 x) 2 ∧ ix (setI S 1 x) 0 = ix pool 0 + 1 := fun S x e1 e2 e3 => by
    have b0 : ix (setI S 1 x) 0 = ix S 0 := s0 (i := 1) (m := 0) (by omega) (by omega) (by decide)
    have b2 : ix (setI S 1 x) 2 = ix S 2 := s0 (i := 1) (m := 2) (by omega) (by omega) (by decide)
    have bl := setI_len' S 1 x
    exact ⟨by omega, by omega, by omega⟩
  split
  · have c0 : ix (setI A 2 (ix A 2 + 1)) 0 = ix A 0 := s0 (i := 2) (m := 0) (by omega) (by omega) (by decide)
    have c2 : ix (setI A 2 (ix A 2 + 1)) 2 = ix A 2 + 1 := s1 (i := 2) (by omega)
    have cl := setI_len' A 2 (ix A 2 + 1)
    generalize setI A 2 (ix A 2 + 1) = B at c0 c2 cl ⊢
    obtain ⟨d1, d2, d3⟩ := key2 B (278 + 101 * ix B 0) (by omega) (by omega) (by omega)
    generalize setI B 1 (278 + 101 * ix B 0) = C at d1 d2 d3 ⊢
    split
    · obtain ⟨f1, f2, f3⟩ := key2 C (ix C (ix C 2)) d1 d2 d3
      exact ⟨(md _).1, (md _).2, key _ _ f1 f2 f3⟩
    · exact ⟨(md _).1, (md _).2, key _ _ d1 d2 d3⟩
  · exact ⟨(md _).1, (md _).2, key _ _ al (by omega) a0⟩

theorem sc_law_prime : FnScope ["n", "k", "met", "d"] ["n"] (defScope s_law_prime) := ⟨rfl, rfl, rfl, by decide +kernel, rfl, by decide +kernel, by decide +kernel⟩
def m_law_prime (a_n : Int) : Int :=
  ((forL (fun (s_1 : Int) k_1 =>
  bnd (List.map (fun (d_1 : Int) => d_1) (List.filter (fun (d_1 : Int) => decide ((d_1 < s_1) ∧ ((s_1 % d_1) = (0 : Int)))) (rng (2 : Int) (Int.toNat ((32 : Int) - (2 : Int)))))) fun met_1 =>
  (if (met_1 = ([] : List Int)) then
  .ret (s_1)
  else
  bnd (s_1 - (1 : Int)) fun n_1 =>
  .go n_1)) (rng 0 (Int.toNat a_n)) a_n).out fun s_1 =>
  (2 : Int))

theorem ok_law_prime (T : Tx P K mg) : Cl P w K mg base 1 "_law_prime" (spF (fun a : Int => [.val yI a]) (fun a : Int => 0 ≤ a ∧ a ≤ 1000) yI (fun a => m_law_prime a)) := by
  obtain ⟨f, fd, hg, FD⟩ := T.g_law_prime
  refine ⟨f, fd, ["n"], ?_, hg, FD.kp, FD.bindsN fun _ _ _ _ _ _ us hl => match us, hl with | [_], _ => rfl⟩
  refine TL.FunD.okC (N := ["n", "k", "met", "d"]) FD sc_law_prime (lenF fun _ => rfl) fun cdv A outer s H E hr => ?_
  refine ⟨_, (pss_cons (ps_for (passes_of rfl) rfl (pi_range1 (by rfl) T.b_range (pa_cons (pv 0) pa_nil)) (pg_name (i := 1) sc_law_prime.nd (by rfl) (by first | exact .inl rfl | exact .inr rfl)) (pss_cons (ps_setLc (i := 2) (own := [("d", 3)]) rfl sc_law_prime.nd rfl rfl (sw_true rfl rfl rfl (by decide +kernel)) (pi_range2 (by rfl) T.b_range (pa_cons pe_int (pa_cons pe_int pa_nil))) (by first | exact blkOk_by (N := ["n", "k", "met", "d"]) (sc := defScope s_law_prime) (by decide +kernel) | exact blkOk_by rfl) (fun _ _ _ _ _ => (pg_name (i := 3) sc_law_prime.nd (by rfl) (by first | exact .inl rfl | exact .inr rfl))) (fun _ _ _ _ _ => (pts_one (PW.pt (pw_and (pt_cmpR op_lt (pv 3) (pv 0) (nomark _)) (pw_and1 (pt_cmpR op_eq (pe_op op_mod (pe_callTy call_int1 (by rfl) T.b_int (by decide +kernel) (pa_cons (pv 0) pa_nil)) (pv 3)) pe_int (nomark _))))))) (fun _ _ _ _ _ => (pv 3))) (pss_cons (ps_if (pt_cmpR (op_eqK (K := K) rfl hr.units) (pv 2) (pe_lst pa_nil) (nomark _)) (pss_cons (ps_ret (pv 0)) pss_nil) pss_nil) (pss_cons (ps_set (i := 0) sc_law_prime.nd rfl (by first | exact .inl rfl | exact .inr rfl) (pe_op op_sub (pv 0) pe_int)) pss_nil)))) (pss_cons (ps_ret pe_int) pss_nil)), fun vs Q h => run_F (fun F a rt hpre => ?_) vs H Q E h⟩
  show Bd _ _ _ _ _ _ (m_law_prime a)
  unfold m_law_prime
  refine b_for _ (fun (s_1 : Int) => ([] : Own)) (fun (s_1 : Int) => (⟨[.val yI s_1, .any, .any, .any], []⟩ : Lc)) (fun _ _ => True) a (iv_rng1 ev_var (by omega) (by omega)) (tg_name 1) rfl ⟨(.cons (.inl rfl) (.cons (.inr rfl) (.cons (.inr rfl) (.cons (.inr rfl) .nil)))), rfl⟩ trivial (fun _ _ _ _ _ _ _ _ => trivial) (fun gs_1 pre k_1 post s_1 he_1 hj_1 N B P' hgo_1 hret_1 => ?_) (fun s_1 hj_2 => ?_)
  · have hmk_1 : k_1 ∈ (rng 0 (Int.toNat a)) := by rw [he_1]; exact List.mem_append_right _ List.mem_cons_self
    refine b_let (ev_l (lc_filter (fun (d_1 : Int) => decide ((d_1 < s_1) ∧ ((s_1 % d_1) = (0 : Int)))) (fun (d_1 : Int) => d_1) (iv_rng2 ev_int ev_int (by omega) (by omega) (by omega) (by omega)) (tg_name 3) (by decide) (by rw [rng_length]; decide) (fun D gs d_1 hm_1 => tt_iff (tt_and (tt_d (ev_lt ev_var ev_var)) fun hb_1 => (tt_d (ev_eq (ev_mod (ev_intI ev_var) ev_var (by have hm := mem_rng ‹_ ∈ rng _ _›; omega)) ev_int))) (by simp)) (fun D gs d_1 hm_1 hp => ev_var))) fun met_1 hmet_1 => ?_
    refine b_seq (b_if (tt_d (ev_eqD ev_var (ev_l (evl_lst (t := yI) (xs := []) ea_nil rfl (Nat.zero_le _))))) (fun h_1 => ?_) (fun h_1 => ?_))
    · exact b_seq (b_ret ev_var (fun h => (hret_1 _ h) _))
    · refine b_fall ?_
      refine b_let (ev_sub ev_var ev_int) fun n_1 hn_1 => ?_
      exact b_next fun h => nx_wk (hgo_1 _ h) ⟨(.cons (.inl rfl) (.cons (.inr rfl) (.cons (.inr rfl) (.cons (.inr rfl) .nil)))), rfl⟩
  · exact b_seq (b_ret ev_int (fun h => h _))

theorem prime_of : ∀ n ∈ rng 2 996, primeB (m_law_prime n).toNat = true ∧ 2 ≤ m_law_prime n ∧ m_law_prime n ≤ 997 := by decide +kernel

theorem sc_law_choice : FnScope ["pool", "kind", "menu", "p"] ["pool"] (defScope s_law_choice) := ⟨rfl, rfl, rfl, by decide +kernel, rfl, by decide +kernel, by decide +kernel⟩
def m_law_choice (a_pool : List Int) : (Int × (List Int)) × List Int :=
  bnd (m_law_draw a_pool (16 : Int)) fun yy_1 =>
  bnd yy_1.1 fun kind_1 =>
  bnd [((2 : Int), [(1 : Int), (1 : Int), (1 : Int)]), ((2 : Int), [(1 : Int), (1 : Int), (0 : Int), (1 : Int)]), ((2 : Int), [(1 : Int), (0 : Int), (1 : Int), (1 : Int)])] fun menu_1 =>
  bnd (menu_1 ++ [((3 : Int), [(1 : Int), (0 : Int), (1 : Int)]), ((3 : Int), [(2 : Int), (1 : Int), (1 : Int)]), ((3 : Int), [(2 : Int), (2 : Int), (1 : Int)])]) fun menu_2 =>
  (if (kind_1 < (6 : Int)) then
  ((ix menu_2 kind_1), yy_1.2)
  else
  bnd (m_law_draw yy_1.2 (996 : Int)) fun yy_2 =>
  bnd (m_law_prime ((2 : Int) + yy_2.1)) fun p_1 =>
  bnd (if (kind_1 < (14 : Int)) then (ix [(2 : Int), (5 : Int), (7 : Int), (11 : Int), (13 : Int), (3 : Int), (3 : Int), (5 : Int)] (kind_1 - (6 : Int))) else p_1) fun p_2 =>
  bnd (m_law_draw yy_2.2 p_2) fun yy_3 =>
  ((p_2, [yy_3.1, (1 : Int)]), yy_3.2))
def menu6 : List (Int × List Int) := [(2, [1, 1, 1]), (2, [1, 1, 0, 1]), (2, [1, 0, 1, 1]), (3, [1, 0, 1]), (3, [2, 1, 1]), (3, [2, 2, 1])]
/-- a choice: one of the six, or a prime with t + c -/
def MdG (p : Int) (m : List Int) : Prop := (p, m) ∈ menu6 ∨ ((2 ≤ p ∧ p ≤ 997 ∧ primeB p.toNat = true) ∧ ∃ c, 0 ≤ c ∧ c < p ∧ m = [c, 1])
theorem pr8 : ∀ k ∈ rng 6 8, primeB (ix [(2 : Int), 5, 7, 11, 13, 3, 3, 5] (k - 6)).toNat = true ∧ 2 ≤ ix [(2 : Int), 5, 7, 11, 13, 3, 3, 5] (k - 6) ∧ ix [(2 : Int), 5, 7, 11, 13, 3, 3, 5] (k - 6) ≤ 997 := by decide +kernel
theorem rng_in {lo x : Int} {n : Nat} (h0 : lo ≤ x) (h1 : x < lo + n) : x ∈ rng lo n := by
  unfold rng
  rw [List.mem_map]
  exact ⟨(x - lo).toNat, by rw [List.mem_range]; omega, by omega⟩
theorem ch_p {k n p q : Int} (h : ¬ k < 6) (hk : k < 16) (hn : 0 ≤ n ∧ n < 996) (e1 : p = m_law_prime (2 + n)) (e2 : q = if k < 14 then ix [(2 : Int), 5, 7, 11, 13, 3, 3, 5] (k - 6) else p) : 2 ≤ q ∧ q ≤ 997 ∧ primeB q.toNat = true := by
  have h1 := prime_of (2 + n) (rng_in (by omega) (by omega))
  rw [e2]
  split
  · have h2 := pr8 k (rng_in (by omega) (by omega))
    exact ⟨h2.2.1, h2.2.2, h2.1⟩
  · rw [e1]
    exact ⟨h1.2.1, h1.2.2, h1.1⟩


theorem ok_law_choice (T : Tx P K mg) : Cl P w K mg base 2 "_law_choice" (spP (fun (p : Addr) (a : List Int) => [.val (yV (.ref p)) ()]) (fun a => cL yI a) (fun s => cL yI s) (fun a : List Int => PlB 10000 a) (yP yI (yT yI)) (fun a => m_law_choice a)) := by
  obtain ⟨f, fd, hg, FD⟩ := T.g_law_choice
  refine ⟨f, fd, ["pool"], ?_, hg, FD.kp, FD.bindsN fun _ _ _ _ _ _ us hl => match us, hl with | [_], _ => rfl⟩
  refine TL.FunD.okC (N := ["pool", "kind", "menu", "p"]) FD sc_law_choice (lenP fun _ _ => rfl) fun cdv A outer s H E hr => ?_
  refine ⟨_, (pss_cons (ps_set (i := 1) sc_law_choice.nd rfl (by first | exact .inl rfl | exact .inr rfl) (pe_cl (ok_law_draw T) hr (by decide) (by rfl) passL (pa_cons (pv 0) (pa_cons pe_int pa_nil)))) (pss_cons (ps_set (i := 2) sc_law_choice.nd rfl (by first | exact .inl rfl | exact .inr rfl) (pe_lst (pa_cons (pe_tup (pa_cons pe_int (pa_cons (pe_tup (pa_cons pe_int (pa_cons pe_int (pa_cons pe_int pa_nil)))) pa_nil))) (pa_cons (pe_tup (pa_cons pe_int (pa_cons (pe_tup (pa_cons pe_int (pa_cons pe_int (pa_cons pe_int (pa_cons pe_int pa_nil))))) pa_nil))) (pa_cons (pe_tup (pa_cons pe_int (pa_cons (pe_tup (pa_cons pe_int (pa_cons pe_int (pa_cons pe_int (pa_cons pe_int pa_nil))))) pa_nil))) pa_nil))))) (pss_cons (ps_set (i := 2) sc_law_choice.nd rfl (by first | exact .inl rfl | exact .inr rfl) (pe_op op_cat (pv 2) (pe_lst (pa_cons (pe_tup (pa_cons pe_int (pa_cons (pe_tup (pa_cons pe_int (pa_cons pe_int (pa_cons pe_int pa_nil)))) pa_nil))) (pa_cons (pe_tup (pa_cons pe_int (pa_cons (pe_tup (pa_cons pe_int (pa_cons pe_int (pa_cons pe_int pa_nil)))) pa_nil))) (pa_cons (pe_tup (pa_cons pe_int (pa_cons (pe_tup (pa_cons pe_int (pa_cons pe_int (pa_cons pe_int pa_nil)))) pa_nil))) pa_nil)))))) (pss_cons (ps_if (pt_cmpR op_lt (pv 1) pe_int (nomark _)) (pss_cons (ps_ret (pe_ix (ixL_K (K := K) rfl) (pv 2) (pv 1) (fun _ _ => rfl))) pss_nil) pss_nil) (pss_cons (ps_set (i := 3) sc_law_choice.nd rfl (by first | exact .inl rfl | exact .inr rfl) (pe_cl (ok_law_prime T) hr (by decide) (by rfl) passL (pa_cons (pe_op op_add pe_int (pe_cl (ok_law_draw T) hr (by decide) (by rfl) passL (pa_cons (pv 0) (pa_cons pe_int pa_nil)))) pa_nil))) (pss_cons (ps_if (pt_cmpR op_lt (pv 1) pe_int (nomark _)) (pss_cons (ps_set (i := 3) sc_law_choice.nd rfl (by first | exact .inl rfl | exact .inr rfl) (pe_ix (ixL_K (K := K) rfl) (pe_lst (pa_cons pe_int (pa_cons pe_int (pa_cons pe_int (pa_cons pe_int (pa_cons pe_int (pa_cons pe_int (pa_cons pe_int (pa_cons pe_int pa_nil))))))))) (pe_op op_sub (pv 1) pe_int) (fun _ _ => rfl))) pss_nil) pss_nil) (pss_cons (ps_ret (pe_tup (pa_cons (pv 3) (pa_cons (pe_tup (pa_cons (pe_cl (ok_law_draw T) hr (by decide) (by rfl) passL (pa_cons (pv 0) (pa_cons (pv 3) pa_nil))) (pa_cons pe_int pa_nil))) pa_nil)))) pss_nil))))))), fun vs Q h => run_P (fun F p a rt hpre => ?_) vs H Q E h⟩
  show Bd _ _ _ _ _ _ (m_law_choice a)
  unfold m_law_choice
  refine b_gen fun yy_1 hyy_1 => ?_
  have qyy_1 : PlOk a ∧ 0 < (16 : Int) ∧ Sz 200 (16 : Int) := (by first | exact ⟨plb_ok hpre, by omega, sz_lit (by decide +kernel)⟩ | (have q1 := pyy_1.2.2; exact ⟨by decreasing_trivial_pre_omega, by omega, sz_lit (by decide +kernel)⟩) | (have q1 := pyy_1.2.2; have q2 := pyy_2.2.2; have h4 := ch_p ‹¬ _ < (6 : Int)› (by have := pyy_1.2.1; omega) ⟨pyy_2.1, pyy_2.2.1⟩ hp_1 hp_2; exact ⟨by decreasing_trivial_pre_omega, by omega, by unfold Sz; omega⟩))
  have pyy_1 := p_draw qyy_1 hyy_1
  refine b_let (ev_callP 0 (a, (16 : Int)) hyy_1 (ea_cons ev_var (ea_cons ev_int ea_nil)) rfl rfl rfl qyy_1) fun kind_1 hkind_1 => ?_
  refine b_let (ev_l (evl_lst (t := (yP yI (yT yI))) (xs := [((2 : Int), [(1 : Int), (1 : Int), (1 : Int)]), ((2 : Int), [(1 : Int), (1 : Int), (0 : Int), (1 : Int)]), ((2 : Int), [(1 : Int), (0 : Int), (1 : Int), (1 : Int)])]) (ea_cons (ev_pair (ea_cons ev_int (ea_cons (ev_tup (ea_cons ev_int (ea_cons ev_int (ea_cons ev_int ea_nil))) rfl (lit_len 3 rfl (by decide))) ea_nil))) (ea_cons (ev_pair (ea_cons ev_int (ea_cons (ev_tup (ea_cons ev_int (ea_cons ev_int (ea_cons ev_int (ea_cons ev_int ea_nil)))) rfl (lit_len 4 rfl (by decide))) ea_nil))) (ea_cons (ev_pair (ea_cons ev_int (ea_cons (ev_tup (ea_cons ev_int (ea_cons ev_int (ea_cons ev_int (ea_cons ev_int ea_nil)))) rfl (lit_len 4 rfl (by decide))) ea_nil))) ea_nil))) rfl (lit_len 3 rfl (by decide)))) fun menu_1 hmenu_1 => ?_
  refine b_let (ev_l (evl_cat ev_var (ev_l (evl_lst (t := (yP yI (yT yI))) (xs := [((3 : Int), [(1 : Int), (0 : Int), (1 : Int)]), ((3 : Int), [(2 : Int), (1 : Int), (1 : Int)]), ((3 : Int), [(2 : Int), (2 : Int), (1 : Int)])]) (ea_cons (ev_pair (ea_cons ev_int (ea_cons (ev_tup (ea_cons ev_int (ea_cons ev_int (ea_cons ev_int ea_nil))) rfl (lit_len 3 rfl (by decide))) ea_nil))) (ea_cons (ev_pair (ea_cons ev_int (ea_cons (ev_tup (ea_cons ev_int (ea_cons ev_int (ea_cons ev_int ea_nil))) rfl (lit_len 3 rfl (by decide))) ea_nil))) (ea_cons (ev_pair (ea_cons ev_int (ea_cons (ev_tup (ea_cons ev_int (ea_cons ev_int (ea_cons ev_int ea_nil))) rfl (lit_len 3 rfl (by decide))) ea_nil))) ea_nil))) rfl (lit_len 3 rfl (by decide)))) (by rw [hmenu_1]; exact (by decide : 6 ≤ sizeLine)))) fun menu_2 hmenu_2 => ?_
  refine b_seq (b_if (tt_d (ev_lt ev_var ev_int)) (fun h_1 => ?_) (fun h_1 => ?_))
  · exact b_seq (b_ret (ev_ixL ev_var ev_var (by rw [hmenu_2, hmenu_1]; exact ⟨by have := pyy_1.1; omega, ‹_›⟩)) (fun h => h _))
  · refine b_fall ?_
    refine b_gen fun yy_2 hyy_2 => ?_
    have qyy_2 : PlOk yy_1.2 ∧ 0 < (996 : Int) ∧ Sz 200 (996 : Int) := (by first | exact ⟨plb_ok hpre, by omega, sz_lit (by decide +kernel)⟩ | (have q1 := pyy_1.2.2; exact ⟨by decreasing_trivial_pre_omega, by omega, sz_lit (by decide +kernel)⟩) | (have q1 := pyy_1.2.2; have q2 := pyy_2.2.2; have h4 := ch_p ‹¬ _ < (6 : Int)› (by have := pyy_1.2.1; omega) ⟨pyy_2.1, pyy_2.2.1⟩ hp_1 hp_2; exact ⟨by decreasing_trivial_pre_omega, by omega, by unfold Sz; omega⟩))
    have pyy_2 := p_draw qyy_2 hyy_2
    refine b_let (ev_call ((2 : Int) + yy_2.1) (ea_cons (ev_add ev_int (ev_callP 0 (yy_1.2, (996 : Int)) hyy_2 (ea_cons ev_var (ea_cons ev_int ea_nil)) rfl rfl rfl qyy_2)) ea_nil) rfl (by have q2 := pyy_2.1; have q3 := pyy_2.2.1; exact ⟨by omega, by omega⟩)) fun p_1 hp_1 => ?_
    refine b_join (fun (p_2 : Int) => (⟨[.val (yV (.ref p)) (), .val yI kind_1, .val (yL (yP yI (yT yI))) menu_2, .val yI p_2], []⟩ : Lc)) (fun (p_2 : Int) => ([(p, cL yI yy_2.2)] : Own)) (tt_d (ev_lt ev_var ev_int)) (x1 := (ix [(2 : Int), (5 : Int), (7 : Int), (11 : Int), (13 : Int), (3 : Int), (3 : Int), (5 : Int)] (kind_1 - (6 : Int)))) (x2 := p_1) (fun h_2 => (sx_set (ev_ixL (ev_l (evl_lst (t := yI) (xs := [(2 : Int), (5 : Int), (7 : Int), (11 : Int), (13 : Int), (3 : Int), (3 : Int), (5 : Int)]) (ea_cons ev_int (ea_cons ev_int (ea_cons ev_int (ea_cons ev_int (ea_cons ev_int (ea_cons ev_int (ea_cons ev_int (ea_cons ev_int ea_nil)))))))) rfl (lit_len 8 rfl (by decide)))) (ev_sub ev_var ev_int) (by exact ⟨by show -(8 : Int) ≤ _; omega, by show _ < (8 : Int); omega⟩)) (sx_wk sx_next ⟨(.cons (.inl rfl) (.cons (.inl rfl) (.cons (.inl rfl) (.cons (.inl rfl) .nil)))), rfl⟩))) (fun h_2 => (sx_wk sx_next ⟨(.cons (.inl rfl) (.cons (.inl rfl) (.cons (.inl rfl) (.cons (.inl rfl) .nil)))), rfl⟩)) fun p_2 hp_2 => ?_
    refine b_gen fun yy_3 hyy_3 => ?_
    have qyy_3 : PlOk yy_2.2 ∧ 0 < p_2 ∧ Sz 200 p_2 := (by first | exact ⟨plb_ok hpre, by omega, sz_lit (by decide +kernel)⟩ | (have q1 := pyy_1.2.2; exact ⟨by decreasing_trivial_pre_omega, by omega, sz_lit (by decide +kernel)⟩) | (have q1 := pyy_1.2.2; have q2 := pyy_2.2.2; have h4 := ch_p ‹¬ _ < (6 : Int)› (by have := pyy_1.2.1; omega) ⟨pyy_2.1, pyy_2.2.1⟩ hp_1 hp_2; exact ⟨by decreasing_trivial_pre_omega, by omega, by unfold Sz; omega⟩))
    have pyy_3 := p_draw qyy_3 hyy_3
    exact b_seq (b_ret (ev_pair (ea_cons ev_var (ea_cons (ev_tup (t := yI) (ea_cons (ev_callP 0 (yy_2.2, p_2) hyy_3 (ea_cons ev_var (ea_cons ev_var ea_nil)) rfl rfl rfl qyy_3) (ea_cons ev_int ea_nil)) rfl (lit_len 2 rfl (by decide))) ea_nil))) (fun h => h _))

theorem p_choice {pool : List Int} (hp : PlB 10000 pool) {y : (Int × List Int) × List Int} (hy : y = m_law_choice pool) : MdG y.1.1 y.1.2 ∧ Pl2 pool y.2 3 := by
  subst hy
  unfold m_law_choice
  simp only [bnd]
  have h1 := p_draw (pool := pool) (most := 16) ⟨plb_ok hp, by omega, sz_lit (by decide +kernel)⟩ rfl
  generalize m_law_draw pool 16 = d1 at *
  split
  · rename_i h2
    refine ⟨.inl ?_, by decreasing_trivial_pre_omega⟩
    have := ix_mem (xs := menu6) (i := d1.1) ⟨by have := h1.1; omega, h2⟩
    exact this
  · rename_i h2
    have h3 := p_draw (pool := d1.2) (most := 996) ⟨by decreasing_trivial_pre_omega, by omega, sz_lit (by decide +kernel)⟩ rfl
    generalize m_law_draw d1.2 996 = d2 at *
    have h4 := ch_p (q := if d1.1 < 14 then ix [(2 : Int), 5, 7, 11, 13, 3, 3, 5] (d1.1 - 6) else m_law_prime (2 + d2.1)) h2 h1.2.1 ⟨h3.1, h3.2.1⟩ rfl rfl
    generalize (if d1.1 < 14 then ix [(2 : Int), 5, 7, 11, 13, 3, 3, 5] (d1.1 - 6) else m_law_prime (2 + d2.1)) = q at *
    have h5 := p_draw (pool := d2.2) (most := q) ⟨by decreasing_trivial_pre_omega, by omega, by unfold Sz; omega⟩ rfl
    generalize m_law_draw d2.2 q = d3 at *
    exact ⟨.inr ⟨h4, d3.1, h5.1, h5.2.1, rfl⟩, by decreasing_trivial_pre_omega⟩

theorem sc_law_plus : FnScope ["p", "a", "b", "high"] ["p", "a", "b"] (defScope s_law_plus) := ⟨rfl, rfl, rfl, by decide +kernel, rfl, by decide +kernel, by decide +kernel⟩
def m_law_plus (a_p : Int) (a_a : Int) (a_b : Int) : Int :=
  (if (a_p = (0 : Int)) then
  (a_a + a_b)
  else
  (if (a_p = (2 : Int)) then
  (Builtin.bitXor a_a a_b)
  else
  bnd (((a_a / a_p) + (a_b / a_p)) % a_p) fun high_1 =>
  ((high_1 * a_p) + ((a_a + a_b) % a_p))))
theorem lp_div {p x : Int} (h : 2 ≤ p ∧ p ≤ 997) : CDivW x p := sz_divW (show Sz 10 p by unfold Sz; omega) (by omega)
theorem lp_mul {p x y : Int} (h : 2 ≤ p ∧ p ≤ 997) (e : x = y % p) : CMulW x p := by
  have h2 := Int.emod_nonneg y (show p ≠ 0 by omega)
  have h3 := Int.emod_lt_of_pos y (show 0 < p by omega)
  exact sz_mulW (m := 10) (n := 10) (by unfold Sz; omega) (by unfold Sz; omega)


theorem ok_law_plus (T : Tx P K mg) : Cl P w K mg base 1 "_law_plus" (spF (fun a : Int × Int × Int => [.val yI a.1, .val yI a.2.1, .val yI a.2.2]) (fun a : Int × Int × Int => a.1 = 0 ∨ ((2 ≤ a.1 ∧ a.1 ≤ 997) ∧ Eo 1000 a.2.1 ∧ Eo 1000 a.2.2)) yI (fun a => m_law_plus a.1 a.2.1 a.2.2)) := by
  obtain ⟨f, fd, hg, FD⟩ := T.g_law_plus
  refine ⟨f, fd, ["p", "a", "b"], ?_, hg, FD.kp, FD.bindsN fun _ _ _ _ _ _ us hl => match us, hl with | [_, _, _], _ => rfl⟩
  refine TL.FunD.okC (N := ["p", "a", "b", "high"]) FD sc_law_plus (lenF fun _ => rfl) fun cdv A outer s H E hr => ?_
  refine ⟨_, (pss_cons (ps_if (pt_cmpR op_eq (pv 0) pe_int (nomark _)) (pss_cons (ps_ret (pe_op op_add (pv 1) (pv 2))) pss_nil) pss_nil) (pss_cons (ps_if (pt_cmpR op_eq (pv 0) pe_int (nomark _)) (pss_cons (ps_ret (pe_op op_xor (pv 1) (pv 2))) pss_nil) pss_nil) (pss_cons (ps_set (i := 3) sc_law_plus.nd rfl (by first | exact .inl rfl | exact .inr rfl) (pe_op op_mod (pe_callTy call_int1 (by rfl) T.b_int (by decide +kernel) (pa_cons (pe_op op_add (pe_op op_fdivW (pv 1) (pv 0)) (pe_op op_fdivW (pv 2) (pv 0))) pa_nil)) (pv 0))) (pss_cons (ps_ret (pe_op op_add (pe_op op_mulW (pv 3) (pv 0)) (pe_op op_mod (pe_callTy call_int1 (by rfl) T.b_int (by decide +kernel) (pa_cons (pe_op op_add (pv 1) (pv 2)) pa_nil)) (pv 0)))) pss_nil)))), fun vs Q h => run_F (fun F a rt hpre => ?_) vs H Q E h⟩
  show Bd _ _ _ _ _ _ (m_law_plus a.1 a.2.1 a.2.2)
  unfold m_law_plus
  refine b_seq (b_if (tt_d (ev_eq ev_var ev_int)) (fun h_1 => ?_) (fun h_1 => ?_))
  · exact b_seq (b_ret (ev_add ev_var ev_var) (fun h => h _))
  · refine b_fall ?_
    refine b_seq (b_if (tt_d (ev_eq ev_var ev_int)) (fun h_2 => ?_) (fun h_2 => ?_))
    · exact b_seq (b_ret (ev_xor ev_var ev_var) (fun h => h _))
    · refine b_fall ?_
      refine b_let (ev_mod (ev_intI (ev_add (ev_div ev_var ev_var (by exact lp_div (hpre.resolve_left ‹_›).1)) (ev_div ev_var ev_var (by exact lp_div (hpre.resolve_left ‹_›).1)))) ev_var (by have h6 := (hpre.resolve_left ‹_›).1; omega)) fun high_1 hhigh_1 => ?_
      exact b_seq (b_ret (ev_add (ev_mul ev_var ev_var (by exact lp_mul (hpre.resolve_left ‹_›).1 hhigh_1)) (ev_mod (ev_intI (ev_add ev_var ev_var)) ev_var (by have h6 := (hpre.resolve_left ‹_›).1; omega))) (fun h => h _))

theorem sc_law_minus : FnScope ["p", "a"] ["p", "a"] (defScope s_law_minus) := ⟨rfl, rfl, rfl, by decide +kernel, rfl, by decide +kernel, by decide +kernel⟩
def m_law_minus (a_p : Int) (a_a : Int) : Int :=
  (if (a_p = (0 : Int)) then
  (-a_a)
  else
  (if (a_p = (2 : Int)) then
  a_a
  else
  ((((-(a_a / a_p)) % a_p) * a_p) + ((-a_a) % a_p))))

theorem ok_law_minus (T : Tx P K mg) : Cl P w K mg base 1 "_law_minus" (spF (fun a : Int × Int => [.val yI a.1, .val yI a.2]) (fun a : Int × Int => a.1 = 0 ∨ ((2 ≤ a.1 ∧ a.1 ≤ 997) ∧ Eo 1000 a.2)) yI (fun a => m_law_minus a.1 a.2)) := by
  obtain ⟨f, fd, hg, FD⟩ := T.g_law_minus
  refine ⟨f, fd, ["p", "a"], ?_, hg, FD.kp, FD.bindsN fun _ _ _ _ _ _ us hl => match us, hl with | [_, _], _ => rfl⟩
  refine TL.FunD.okC (N := ["p", "a"]) FD sc_law_minus (lenF fun _ => rfl) fun cdv A outer s H E hr => ?_
  refine ⟨_, (pss_cons (ps_if (pt_cmpR op_eq (pv 0) pe_int (nomark _)) (pss_cons (ps_ret (pe_un un_neg (pv 1))) pss_nil) pss_nil) (pss_cons (ps_if (pt_cmpR op_eq (pv 0) pe_int (nomark _)) (pss_cons (ps_ret (pv 1)) pss_nil) pss_nil) (pss_cons (ps_ret (pe_op op_add (pe_op op_mulW (pe_op op_mod (pe_callTy call_int1 (by rfl) T.b_int (by decide +kernel) (pa_cons (pe_un un_neg (pe_op op_fdivW (pv 1) (pv 0))) pa_nil)) (pv 0)) (pv 0)) (pe_op op_mod (pe_callTy call_int1 (by rfl) T.b_int (by decide +kernel) (pa_cons (pe_un un_neg (pv 1)) pa_nil)) (pv 0)))) pss_nil))), fun vs Q h => run_F (fun F a rt hpre => ?_) vs H Q E h⟩
  show Bd _ _ _ _ _ _ (m_law_minus a.1 a.2)
  unfold m_law_minus
  refine b_seq (b_if (tt_d (ev_eq ev_var ev_int)) (fun h_1 => ?_) (fun h_1 => ?_))
  · exact b_seq (b_ret (ev_neg ev_var) (fun h => h _))
  · refine b_fall ?_
    refine b_seq (b_if (tt_d (ev_eq ev_var ev_int)) (fun h_2 => ?_) (fun h_2 => ?_))
    · exact b_seq (b_ret ev_var (fun h => h _))
    · refine b_fall ?_
      exact b_seq (b_ret (ev_add (ev_mul (ev_mod (ev_intI (ev_neg (ev_div ev_var ev_var (by exact lp_div (hpre.resolve_left ‹_›).1)))) ev_var (by have h6 := (hpre.resolve_left ‹_›).1; omega)) ev_var (by exact lp_mul (hpre.resolve_left ‹_›).1 rfl)) (ev_mod (ev_intI (ev_neg ev_var)) ev_var (by have h6 := (hpre.resolve_left ‹_›).1; omega))) (fun h => h _))

theorem ow6_pm : ∀ o ∈ owns6, ∀ a ∈ rng 0 o.2.1.toNat, (0 ≤ m_law_minus o.1 a ∧ m_law_minus o.1 a < o.2.1) ∧ ∀ b ∈ rng 0 o.2.1.toNat, 0 ≤ m_law_plus o.1 a b ∧ m_law_plus o.1 a b < o.2.1 := by decide +kernel
theorem two_pm : ∀ a ∈ rng 0 2, m_law_minus 2 a = (-a) % 2 ∧ ∀ b ∈ rng 0 2, m_law_plus 2 a b = (a + b) % 2 := by decide +kernel
theorem pr_plus {p a b : Int} (hp : 2 ≤ p) (ha : Eo p a) (hb : Eo p b) : m_law_plus p a b = (a + b) % p := by
  by_cases h : p = 2
  · subst h
    exact (two_pm a (eo_rng (q := 2) ha.1 ha.2)).2 b (eo_rng (q := 2) hb.1 hb.2)
  · unfold m_law_plus
    try rw [if_neg (show ¬ p = 0 by omega)]
    rw [if_neg h, Int.ediv_eq_zero_of_lt ha.1 ha.2, Int.ediv_eq_zero_of_lt hb.1 hb.2]
    simp [bnd]
theorem pr_minus {p a : Int} (hp : 2 ≤ p) (ha : Eo p a) : m_law_minus p a = (-a) % p := by
  by_cases h : p = 2
  · subst h
    exact (two_pm a (eo_rng (q := 2) ha.1 ha.2)).1
  · unfold m_law_minus
    try rw [if_neg (show ¬ p = 0 by omega)]
    rw [if_neg h, Int.ediv_eq_zero_of_lt ha.1 ha.2]
    simp
theorem ow_plus {o : Int × Int × List (List Int)} {a b : Int} (h : OwK o) (ha : Eo o.2.1 a) (hb : Eo o.2.1 b) : Eo o.2.1 (m_law_plus o.1 a b) := by
  rcases h with h | ⟨p, h1, h2, h3, rfl⟩
  · exact (ow6_pm o h a (eo_rng ha.1 ha.2)).2 b (eo_rng hb.1 hb.2)
  · rw [pr_plus h1 ha hb]
    exact ⟨Int.emod_nonneg _ (by omega), Int.emod_lt_of_pos _ (by omega)⟩
theorem ow_minus {o : Int × Int × List (List Int)} {a : Int} (h : OwK o) (ha : Eo o.2.1 a) : Eo o.2.1 (m_law_minus o.1 a) := by
  rcases h with h | ⟨p, h1, h2, h3, rfl⟩
  · exact (ow6_pm o h a (eo_rng ha.1 ha.2)).1
  · rw [pr_minus h1 ha]
    exact ⟨Int.emod_nonneg _ (by omega), Int.emod_lt_of_pos _ (by omega)⟩
theorem pre_plus {o : Int × Int × List (List Int)} {a b : Int} (h : OwK o) (ha : Eo o.2.1 a) (hb : Eo o.2.1 b) : o.1 = 0 ∨ ((2 ≤ o.1 ∧ o.1 ≤ 997) ∧ Eo 1000 a ∧ Eo 1000 b) := .inr ⟨⟨(ow_p h).1, (ow_p h).2.1⟩, eoB h ha, eoB h hb⟩
theorem pre_minus {o : Int × Int × List (List Int)} {a : Int} (h : OwK o) (ha : Eo o.2.1 a) : o.1 = 0 ∨ ((2 ≤ o.1 ∧ o.1 ≤ 997) ∧ Eo 1000 a) := .inr ⟨⟨(ow_p h).1, (ow_p h).2.1⟩, eoB h ha⟩
local macro_rules | `(tactic| array_get_dec) => `(tactic| first | ((with_reducible apply ow_plus <;> array_get_dec)) | fail)
local macro_rules | `(tactic| array_get_dec) => `(tactic| first | ((with_reducible apply ow_minus <;> array_get_dec)) | fail)
local macro_rules | `(tactic| array_get_dec) => `(tactic| first | ((with_reducible apply pre_plus <;> array_get_dec)) | fail)
local macro_rules | `(tactic| array_get_dec) => `(tactic| first | ((with_reducible apply pre_minus <;> array_get_dec)) | fail)

theorem sc_law_product : FnScope ["p", "q", "less", "a", "b", "found", "k", "n", "top"] ["p", "q", "less", "a", "b"] (defScope s_law_product) := ⟨rfl, rfl, rfl, by decide +kernel, rfl, by decide +kernel, by decide +kernel⟩
def m_law_product (a_p : Int) (a_q : Int) (a_less : Int) (a_a : Int) (a_b : Int) : Int :=
  bnd (0 : Int) fun found_1 =>
  ((forL (fun (s_1 : Int × Int × Int) k_1 =>
  ((forL (fun (s_2 : Int) n_1 =>
  bnd (m_law_plus a_p s_2 s_1.2.2) fun found_2 =>
  .go found_2) (rng 0 (Int.toNat (s_1.2.1 % a_p))) s_1.1).out fun s_2 =>
  bnd (s_1.2.1 / a_p) fun b_1 =>
  bnd ((s_1.2.2 * a_p) / a_q) fun top_1 =>
  bnd ((s_1.2.2 * a_p) % a_q) fun a_1 =>
  ((forL (fun (s_3 : Int) n_2 =>
  bnd (m_law_plus a_p s_3 a_less) fun a_2 =>
  .go a_2) (rng 0 (Int.toNat top_1)) a_1).out fun s_3 =>
  .go (s_2, b_1, s_3)))) (rng 0 (Int.toNat (3 : Int))) (found_1, a_b, a_a)).out fun s_1 =>
  s_1.1)
/-- p, the size, less: of the small fields -/
def SmP (p q : Int) : Prop := (p = 2 ∧ (q = 4 ∨ q = 8)) ∨ (p = 3 ∧ q = 9)
theorem sm_pm : ∀ x ∈ [((2 : Int), (4 : Int)), (2, 8), (3, 9)], ∀ a ∈ rng 0 x.2.toNat, (0 ≤ m_law_minus x.1 a ∧ m_law_minus x.1 a < x.2) ∧ ∀ b ∈ rng 0 x.2.toNat, 0 ≤ m_law_plus x.1 a b ∧ m_law_plus x.1 a b < x.2 := by decide +kernel
theorem sm_mem {p q : Int} (h : SmP p q) : (p, q) ∈ [((2 : Int), (4 : Int)), (2, 8), (3, 9)] := by
  rcases h with ⟨rfl, rfl | rfl⟩ | ⟨rfl, rfl⟩ <;> simp
theorem sm_b {p q : Int} (h : SmP p q) : 2 ≤ p ∧ p ≤ 3 ∧ 4 ≤ q ∧ q ≤ 9 := by
  rcases h with ⟨rfl, rfl | rfl⟩ | ⟨rfl, rfl⟩ <;> decide
theorem sm_eo {p q a b : Int} (h : SmP p q) (ha : Eo q a) (hb : Eo q b) : Eo q (m_law_plus p a b) := (sm_pm _ (sm_mem h) a (eo_rng ha.1 ha.2)).2 b (eo_rng hb.1 hb.2)
theorem sm_mi {p q a : Int} (h : SmP p q) (ha : Eo q a) : Eo q (m_law_minus p a) := (sm_pm _ (sm_mem h) a (eo_rng ha.1 ha.2)).1
theorem sm_pre {p q a b : Int} (h : SmP p q) (ha : Eo q a) (hb : Eo q b) : p = 0 ∨ ((2 ≤ p ∧ p ≤ 997) ∧ Eo 1000 a ∧ Eo 1000 b) := by
  have := sm_b h
  exact .inr ⟨⟨by omega, by omega⟩, ⟨ha.1, by have := ha.2; omega⟩, ⟨hb.1, by have := hb.2; omega⟩⟩
theorem sm_in {ρ : Type} {p q s s' t : Int} (h : SmP p q) (hs : Eo q s) (ht : Eo q t) (e : (bnd (m_law_plus p s t) fun f => Stp.go (ρ := ρ) f) = .go s') : Eo q s' := by
  rw [← Stp.go.inj e]
  exact sm_eo h hs ht
theorem sm_a {p q x t : Int} (h : SmP p q) (e : x = (t * p) % q) : Eo q x := by
  have := sm_b h
  rw [e]
  exact ⟨Int.emod_nonneg _ (by omega), Int.emod_lt_of_pos _ (by omega)⟩
theorem sm_loop {ρ : Type} {p q t : Int} (h : SmP p q) (ht : Eo q t) (xs : List Int) : ∀ s, Eo q s → ∃ s', forL (ρ := ρ) (fun (s : Int) (_ : Int) => bnd (m_law_plus p s t) fun f => Stp.go f) xs s = .go s' ∧ Eo q s' := by
  induction xs with
  | nil => exact fun s hs => ⟨s, rfl, hs⟩
  | cons x xs ih => exact fun s hs => ih _ (sm_eo h hs ht)
theorem sm_step {p q less k : Int} {s s' : Int × Int × Int} (hm : SmP p q) (hl : Eo q less) (hj : Eo q s.1 ∧ Eo q s.2.1 ∧ Eo q s.2.2) (h : ((forL (fun (s_2 : Int) (n_1 : Int) =>
  bnd (m_law_plus p s_2 s.2.2) fun found_2 =>
  .go found_2) (rng 0 (Int.toNat (s.2.1 % p))) s.1).out fun s_2 =>
  bnd (s.2.1 / p) fun b_1 =>
  bnd ((s.2.2 * p) / q) fun top_1 =>
  bnd ((s.2.2 * p) % q) fun a_1 =>
  ((forL (fun (s_3 : Int) (n_2 : Int) =>
  bnd (m_law_plus p s_3 less) fun a_2 =>
  .go a_2) (rng 0 (Int.toNat top_1)) a_1).out fun s_3 =>
  Stp.go (ρ := Int) (s_2, b_1, s_3))) = .go s') : Eo q s'.1 ∧ Eo q s'.2.1 ∧ Eo q s'.2.2 := by
  obtain ⟨h1, h2, h3⟩ := hj
  have hb := sm_b hm
  obtain ⟨u, e1, u1⟩ := sm_loop (ρ := Stp (Int × Int × Int) Int) hm h3 (rng 0 (Int.toNat (s.2.1 % p))) s.1 h1
  rw [e1] at h
  obtain ⟨v, e2, v1⟩ := sm_loop (ρ := Stp (Int × Int × Int) Int) hm hl (rng 0 (Int.toNat ((s.2.2 * p) / q))) ((s.2.2 * p) % q) (sm_a hm rfl)
  simp only [Stp.out, bnd] at h e2
  rw [e2] at h
  rw [← Stp.go.inj h]
  refine ⟨u1, ⟨Int.ediv_nonneg h2.1 (by omega), ?_⟩, v1⟩
  exact Int.lt_of_le_of_lt (Int.ediv_le_self _ h2.1) h2.2
theorem sm_r1 {p q : Int} (h : SmP p q) (x : Int) : x % p < 2 ^ 62 := by
  have := sm_b h
  have := Int.emod_lt_of_pos x (show 0 < p by omega)
  omega
theorem sm_r2 {p q : Int} (h : SmP p q) (x : Int) : -(2 ^ 62) ≤ x % p := by
  have := sm_b h
  have := Int.emod_nonneg x (show p ≠ 0 by omega)
  omega
theorem sm_tp {p q t : Int} (h : SmP p q) (ht : Eo q t) : 0 ≤ t * p / q ∧ t * p / q ≤ 100 := by
  have hb := sm_b h
  obtain ⟨t0, t1⟩ := ht
  have h1 : 0 ≤ t * p := Int.mul_nonneg t0 (by omega)
  have h2 : t * p ≤ 9 * 3 := Int.mul_le_mul (by omega) (by omega) (by omega) (by omega)
  exact ⟨Int.ediv_nonneg h1 (by omega), Int.le_trans (Int.ediv_le_self _ h1) (by omega)⟩
theorem sm_t1 {p q t : Int} (h : SmP p q) (ht : Eo q t) : t * p / q < 2 ^ 62 := by have := sm_tp h ht; omega
theorem sm_t2 {p q t : Int} (h : SmP p q) (ht : Eo q t) : -(2 ^ 62) ≤ t * p / q := by have := sm_tp h ht; omega


theorem ok_law_product (T : Tx P K mg) : Cl P w K mg base 2 "_law_product" (spF (fun a : Int × Int × Int × Int × Int => [.val yI a.1, .val yI a.2.1, .val yI a.2.2.1, .val yI a.2.2.2.1, .val yI a.2.2.2.2]) (fun a : Int × Int × Int × Int × Int => SmP a.1 a.2.1 ∧ Eo a.2.1 a.2.2.1 ∧ Eo a.2.1 a.2.2.2.1 ∧ Eo a.2.1 a.2.2.2.2) yI (fun a => m_law_product a.1 a.2.1 a.2.2.1 a.2.2.2.1 a.2.2.2.2)) := by
  obtain ⟨f, fd, hg, FD⟩ := T.g_law_product
  refine ⟨f, fd, ["p", "q", "less", "a", "b"], ?_, hg, FD.kp, FD.bindsN fun _ _ _ _ _ _ us hl => match us, hl with | [_, _, _, _, _], _ => rfl⟩
  refine TL.FunD.okC (N := ["p", "q", "less", "a", "b", "found", "k", "n", "top"]) FD sc_law_product (lenF fun _ => rfl) fun cdv A outer s H E hr => ?_
  refine ⟨_, (pss_cons (ps_set (i := 5) sc_law_product.nd rfl (by first | exact .inl rfl | exact .inr rfl) pe_int) (pss_cons (ps_for (passes_of rfl) rfl (pi_range1 (by rfl) T.b_range (pa_cons pe_int pa_nil)) (pg_name (i := 6) sc_law_product.nd (by rfl) (by first | exact .inl rfl | exact .inr rfl)) (pss_cons (ps_for (passes_of rfl) rfl (pi_range1 (by rfl) T.b_range (pa_cons (pe_op op_mod (pe_callTy call_int1 (by rfl) T.b_int (by decide +kernel) (pa_cons (pv 4) pa_nil)) (pv 0)) pa_nil)) (pg_name (i := 7) sc_law_product.nd (by rfl) (by first | exact .inl rfl | exact .inr rfl)) (pss_cons (ps_set (i := 5) sc_law_product.nd rfl (by first | exact .inl rfl | exact .inr rfl) (pe_cl (ok_law_plus T) hr (by decide) (by rfl) passL (pa_cons (pv 0) (pa_cons (pv 5) (pa_cons (pv 3) pa_nil))))) pss_nil)) (pss_cons (ps_set (i := 4) sc_law_product.nd rfl (by first | exact .inl rfl | exact .inr rfl) (pe_op op_fdivW (pv 4) (pv 0))) (pss_cons (ps_set (i := 8) sc_law_product.nd rfl (by first | exact .inl rfl | exact .inr rfl) (pe_op op_fdivW (pe_op op_mulW (pv 3) (pv 0)) (pv 1))) (pss_cons (ps_set (i := 3) sc_law_product.nd rfl (by first | exact .inl rfl | exact .inr rfl) (pe_op op_mod (pe_callTy call_int1 (by rfl) T.b_int (by decide +kernel) (pa_cons (pe_op op_mulW (pv 3) (pv 0)) pa_nil)) (pv 1))) (pss_cons (ps_for (passes_of rfl) rfl (pi_range1 (by rfl) T.b_range (pa_cons (pv 8) pa_nil)) (pg_name (i := 7) sc_law_product.nd (by rfl) (by first | exact .inl rfl | exact .inr rfl)) (pss_cons (ps_set (i := 3) sc_law_product.nd rfl (by first | exact .inl rfl | exact .inr rfl) (pe_cl (ok_law_plus T) hr (by decide) (by rfl) passL (pa_cons (pv 0) (pa_cons (pv 3) (pa_cons (pv 2) pa_nil))))) pss_nil)) pss_nil)))))) (pss_cons (ps_ret (pv 5)) pss_nil))), fun vs Q h => run_F (fun F a rt hpre => ?_) vs H Q E h⟩
  obtain ⟨hp1, hp3, hp4, hp5⟩ := id hpre
  show Bd _ _ _ _ _ _ (m_law_product a.1 a.2.1 a.2.2.1 a.2.2.2.1 a.2.2.2.2)
  unfold m_law_product
  refine b_let ev_int fun found_1 hfound_1 => ?_
  refine b_for _ (fun (s_1 : Int × Int × Int) => ([] : Own)) (fun (s_1 : Int × Int × Int) => (⟨[.val yI a.1, .val yI a.2.1, .val yI a.2.2.1, .val yI s_1.2.2, .val yI s_1.2.1, .val yI s_1.1, .any, .any, .any], []⟩ : Lc)) (fun _ s => Eo a.2.1 s.1 ∧ Eo a.2.1 s.2.1 ∧ Eo a.2.1 s.2.2) (found_1, a.2.2.2.2, a.2.2.2.1) (iv_rng1 ev_int (by (have h6 := sm_b hp1; omega)) (by (have h6 := sm_b hp1; omega))) (tg_name 6) rfl ⟨(.cons (.inl rfl) (.cons (.inl rfl) (.cons (.inl rfl) (.cons (.inl rfl) (.cons (.inl rfl) (.cons (.inl rfl) (.cons (.inr rfl) (.cons (.inr rfl) (.cons (.inr rfl) .nil))))))))), rfl⟩ ⟨by rw [hfound_1]; have h6 := sm_b hp1; exact ⟨by omega, by omega⟩, hp5, hp4⟩ (fun pre x post s s' e hj h => sm_step (k := x) hp1 hp3 hj h) (fun gs_1 pre k_1 post s_1 he_1 hj_1 N B P' hgo_1 hret_1 => ?_) (fun s_1 hj_6 => ?_)
  · have hmk_1 : k_1 ∈ (rng 0 (Int.toNat (3 : Int))) := by rw [he_1]; exact List.mem_append_right _ List.mem_cons_self
    refine b_for _ (fun (s_2 : Int) => ([] : Own)) (fun (s_2 : Int) => (⟨[.val yI a.1, .val yI a.2.1, .val yI a.2.2.1, .val yI s_1.2.2, .val yI s_1.2.1, .val yI s_2, .val yI k_1, .any, .any], (gs_1 ++ [])⟩ : Lc)) (fun _ s => Eo a.2.1 s) s_1.1 (iv_rng1 (ev_mod (ev_intI ev_var) ev_var (by (have h6 := sm_b hp1; omega))) (by have h6 := sm_b hp1; exact sm_r2 hp1 _) (by have h6 := sm_b hp1; exact sm_r1 hp1 _)) (tg_name 7) rfl ⟨(.cons (.inl rfl) (.cons (.inl rfl) (.cons (.inl rfl) (.cons (.inl rfl) (.cons (.inl rfl) (.cons (.inl rfl) (.cons (.inl rfl) (.cons (.inr rfl) (.cons (.inr rfl) .nil))))))))), rfl⟩ hj_1.1 (fun pre x post s s' e hj h => sm_in hp1 hj hj_1.2.2 h) (fun gs_2 pre n_1 post s_2 he_2 hj_2 N B P' hgo_2 hret_2 => ?_) (fun s_2 hj_5 => ?_)
    · have hmn_1 : n_1 ∈ (rng 0 (Int.toNat (s_1.2.1 % a.1))) := by rw [he_2]; exact List.mem_append_right _ List.mem_cons_self
      refine b_let (ev_call (a.1, s_2, s_1.2.2) (ea_cons ev_var (ea_cons ev_var (ea_cons ev_var ea_nil))) rfl (by first | exact sm_pre hp1 hj_2 hj_1.2.2 | exact sm_pre hp1 hj_3 hp3)) fun found_2 hfound_2 => ?_
      exact b_next fun h => nx_wk (hgo_2 _ h) ⟨(.cons (.inl rfl) (.cons (.inl rfl) (.cons (.inl rfl) (.cons (.inl rfl) (.cons (.inl rfl) (.cons (.inl rfl) (.cons (.inl rfl) (.cons (.inr rfl) (.cons (.inr rfl) .nil))))))))), rfl⟩
    · refine b_let (ev_div ev_var ev_var (by have h6 := sm_b hp1; exact sz_divW (show Sz 3 a.1 by unfold Sz; omega) (by omega))) fun b_1 hb_1 => ?_
      refine b_let (ev_div (ev_mul ev_var ev_var (by have h6 := sm_b hp1; have h7 := hj_1.2.2; exact sz_mulW (m := 10) (n := 10) (by have h8 := h7.1; have h9 := h7.2; unfold Sz; omega) (by unfold Sz; omega))) ev_var (by have h6 := sm_b hp1; exact sz_divW (show Sz 5 a.2.1 by unfold Sz; omega) (by omega))) fun top_1 htop_1 => ?_
      refine b_let (ev_mod (ev_intI (ev_mul ev_var ev_var (by have h6 := sm_b hp1; have h7 := hj_1.2.2; exact sz_mulW (m := 10) (n := 10) (by have h8 := h7.1; have h9 := h7.2; unfold Sz; omega) (by unfold Sz; omega)))) ev_var (by (have h6 := sm_b hp1; omega))) fun a_1 ha_1 => ?_
      refine b_for _ (fun (s_3 : Int) => ([] : Own)) (fun (s_3 : Int) => (⟨[.val yI a.1, .val yI a.2.1, .val yI a.2.2.1, .val yI s_3, .val yI b_1, .val yI s_2, .val yI k_1, .any, .val yI top_1], (gs_1 ++ [])⟩ : Lc)) (fun _ s => Eo a.2.1 s) a_1 (iv_rng1 ev_var (by rw [htop_1]; exact sm_t2 hp1 hj_1.2.2) (by rw [htop_1]; exact sm_t1 hp1 hj_1.2.2)) (tg_name 7) rfl ⟨(.cons (.inl rfl) (.cons (.inl rfl) (.cons (.inl rfl) (.cons (.inl rfl) (.cons (.inl rfl) (.cons (.inl rfl) (.cons (.inl rfl) (.cons (.inr rfl) (.cons (.inl rfl) .nil))))))))), rfl⟩ (sm_a hp1 ha_1) (fun pre x post s s' e hj h => sm_in hp1 hj hp3 h) (fun gs_3 pre n_2 post s_3 he_3 hj_3 N B P' hgo_3 hret_3 => ?_) (fun s_3 hj_4 => ?_)
      · have hmn_2 : n_2 ∈ (rng 0 (Int.toNat top_1)) := by rw [he_3]; exact List.mem_append_right _ List.mem_cons_self
        refine b_let (ev_call (a.1, s_3, a.2.2.1) (ea_cons ev_var (ea_cons ev_var (ea_cons ev_var ea_nil))) rfl (by first | exact sm_pre hp1 hj_2 hj_1.2.2 | exact sm_pre hp1 hj_3 hp3)) fun a_2 ha_2 => ?_
        exact b_next fun h => nx_wk (hgo_3 _ h) ⟨(.cons (.inl rfl) (.cons (.inl rfl) (.cons (.inl rfl) (.cons (.inl rfl) (.cons (.inl rfl) (.cons (.inl rfl) (.cons (.inl rfl) (.cons (.inr rfl) (.cons (.inl rfl) .nil))))))))), rfl⟩
      · exact b_next fun h => nx_wk (hgo_1 _ h) ⟨(.cons (.inl rfl) (.cons (.inl rfl) (.cons (.inl rfl) (.cons (.inl rfl) (.cons (.inl rfl) (.cons (.inl rfl) (.cons (.inr rfl) (.cons (.inr rfl) (.cons (.inr rfl) .nil))))))))), rfl⟩
  · exact b_seq (b_ret ev_var (fun h => h _))

theorem sc_law_tables : FnScope ["p", "modulus", "low", "q", "digit", "rows", "less", "a", "row", "b"] ["p", "modulus"] (defScope s_law_tables) := ⟨rfl, rfl, rfl, by decide +kernel, rfl, by decide +kernel, by decide +kernel⟩
def m_law_tables (a_p : Int) (a_modulus : (List Int)) : (Int × Int × (List (List Int))) :=
  bnd (0 : Int) fun low_1 =>
  bnd (1 : Int) fun q_1 =>
  ((forL (fun (s_1 : Int × Int) digit_1 =>
  bnd (s_1.1 + (digit_1 * s_1.2)) fun low_2 =>
  bnd (s_1.2 * a_p) fun q_2 =>
  .go (low_2, q_2)) (List.dropLast a_modulus) (low_1, q_1)).out fun s_1 =>
  bnd ([] : List (List Int)) fun rows_1 =>
  (if (a_p < s_1.2) then
  bnd (m_law_minus a_p s_1.1) fun less_1 =>
  ((forL (fun (s_2 : List (List Int)) a_1 =>
  bnd (List.map (fun (b_1 : Int) => (m_law_product a_p s_1.2 less_1 a_1 b_1)) (rng 0 (Int.toNat s_1.2))) fun row_1 =>
  .go (s_2 ++ [row_1])) (rng 0 (Int.toNat s_1.2)) rows_1).out fun s_2 =>
  (a_p, s_1.2, s_2))
  else
  (a_p, s_1.2, rows_1)))
abbrev tbF (p : Int) (pre : List Int) : Int × Int := pre.foldl (fun s d => (s.1 + d * s.2, s.2 * p)) (0, 1)
theorem tb6 : ∀ x ∈ menu6, x.2 ≠ [] ∧ (∀ k ∈ rng 0 5, 0 ≤ (tbF x.1 (x.2.dropLast.take k.toNat)).2 ∧ (tbF x.1 (x.2.dropLast.take k.toNat)).2 ≤ 9) ∧ (∀ z ∈ x.2.dropLast, 0 ≤ z ∧ z ≤ 3) ∧ x.2.length ≤ 4 ∧ x.1 ≤ 3 ∧ 2 ≤ x.1 ∧ (x.1, (tbF x.1 x.2.dropLast).2) ∈ [((2 : Int), (4 : Int)), (2, 8), (3, 9)] ∧ 0 ≤ (tbF x.1 x.2.dropLast).1 ∧ (tbF x.1 x.2.dropLast).1 < (tbF x.1 x.2.dropLast).2 := by decide +kernel
theorem mdg_ne {p : Int} {m : List Int} (h : MdG p m) : m ≠ [] := by
  rcases h with h | ⟨_, c, _, _, rfl⟩
  · exact (tb6 _ h).1
  · simp
theorem tb_mul {p x : Int} {m pre post : List Int} {s : Int × Int} (h : MdG p m) (e : m.dropLast = pre ++ x :: post) (hs : s = tbF p pre) : CMulW x s.2 ∧ CMulW s.2 p := by
  have key : 0 ≤ x ∧ x ≤ 1000 ∧ 0 ≤ s.2 ∧ s.2 ≤ 9 ∧ 0 ≤ p ∧ p ≤ 1000 := by
    rcases h with h | ⟨⟨h1, h2, _⟩, c, h3, h4, rfl⟩
    · obtain ⟨_, a2, a3, a4, a5, a6, _⟩ := tb6 _ h
      have hx := a3 x (by rw [e]; simp)
      have e2 := congrArg List.length e
      rw [List.length_dropLast, List.length_append, List.length_cons] at e2
      have a4 : m.length ≤ 4 := a4
      have hk := a2 (pre.length : Int) (rng_in (by omega) (by omega))
      have et : m.dropLast.take ((pre.length : Int)).toNat = pre := by
        rw [e, Int.toNat_natCast, List.take_left']
        rfl
      simp only [et] at hk
      rw [← hs] at hk
      have a5 : p ≤ 3 := a5
      have a6 : 2 ≤ p := a6
      omega
    · have e : [c] = pre ++ x :: post := e
      match pre, e with
      | [], e =>
        have : c = x := (List.cons.inj e).1
        rw [hs]
        exact ⟨by omega, by omega, by show (0 : Int) ≤ 1; decide, by show (1 : Int) ≤ 9; decide, by omega, by omega⟩
      | _ :: pre, e =>
        have := congrArg List.length e
        simp at this
  obtain ⟨k1, k2, k3, k4, k5, k6⟩ := key
  exact ⟨sz_mulW (m := 10) (n := 10) (by unfold Sz; omega) (by unfold Sz; omega), sz_mulW (m := 10) (n := 10) (by unfold Sz; omega) (by unfold Sz; omega)⟩
theorem tb_step {ρ : Type} {p x : Int} {pre : List Int} {s s' : Int × Int} (hj : s = tbF p pre) (h : (bnd (s.1 + (x * s.2)) fun low_2 =>
  bnd (s.2 * p) fun q_2 =>
  Stp.go (ρ := ρ) (low_2, q_2)) = .go s') : s' = tbF p (pre ++ [x]) := by
  rw [← Stp.go.inj h, hj]
  simp [tbF, List.foldl_append]
theorem mem_sm {p q : Int} (h : (p, q) ∈ [((2 : Int), (4 : Int)), (2, 8), (3, 9)]) : SmP p q := by
  simp only [List.mem_cons, List.not_mem_nil, or_false, Prod.mk.injEq] at h
  rcases h with ⟨h1, h2⟩ | ⟨h1, h2⟩ | ⟨h1, h2⟩
  · exact .inl ⟨h1, .inl h2⟩
  · exact .inl ⟨h1, .inr h2⟩
  · exact .inr ⟨h1, h2⟩
theorem tb_end {p : Int} {m : List Int} {s : Int × Int} (h : MdG p m) (hs : s = tbF p m.dropLast) : (2 ≤ p ∧ p ≤ 997 ∧ 0 ≤ s.2 ∧ s.2 ≤ 997) ∧ (p < s.2 → SmP p s.2 ∧ Eo s.2 s.1) := by
  rcases h with h | ⟨⟨h1, h2, _⟩, c, h3, h4, rfl⟩
  · obtain ⟨_, _, _, _, a5, a6, a7, a8, a9⟩ := tb6 _ h
    subst hs
    have hs := mem_sm a7
    have hb := sm_b hs
    have hb : 2 ≤ p ∧ p ≤ 3 ∧ 4 ≤ (tbF p m.dropLast).2 ∧ (tbF p m.dropLast).2 ≤ 9 := hb
    exact ⟨⟨by omega, by omega, by omega, by omega⟩, fun _ => ⟨hs, a8, a9⟩⟩
  · have e : s.2 = 1 * p := by rw [hs]; rfl
    exact ⟨⟨h1, h2, by omega, by omega⟩, fun z => by omega⟩
theorem tb_prod {p less x y : Int} {s : Int × Int} (h : (2 ≤ p ∧ p ≤ 997 ∧ 0 ≤ s.2 ∧ s.2 ≤ 997) ∧ (p < s.2 → SmP p s.2 ∧ Eo s.2 s.1)) (h1 : p < s.2) (e : less = m_law_minus p s.1) (hx : x ∈ rng 0 (Int.toNat s.2)) (hy : y ∈ rng 0 (Int.toNat s.2)) : SmP p s.2 ∧ Eo s.2 less ∧ Eo s.2 x ∧ Eo s.2 y := by
  obtain ⟨h2, h3⟩ := h.2 h1
  have a1 := mem_rng hx
  have a2 := mem_rng hy
  refine ⟨h2, ?_, ⟨by omega, by omega⟩, ⟨by omega, by omega⟩⟩
  rw [e]
  exact sm_mi h2 h3
theorem tb_less {p : Int} {s : Int × Int} (h : (2 ≤ p ∧ p ≤ 997 ∧ 0 ≤ s.2 ∧ s.2 ≤ 997) ∧ (p < s.2 → SmP p s.2 ∧ Eo s.2 s.1)) (h1 : p < s.2) : p = 0 ∨ ((2 ≤ p ∧ p ≤ 997) ∧ Eo 1000 s.1) := by
  have h2 := (h.2 h1).2
  exact .inr ⟨⟨h.1.1, h.1.2.1⟩, h2.1, by have := h2.2; omega⟩


theorem ok_law_tables (T : Tx P K mg) : Cl P w K mg base 3 "_law_tables" (spF (fun a : Int × (List Int) => [.val yI a.1, .val (yT yI) a.2]) (fun a : Int × (List Int) => MdG a.1 a.2) (yH3 yI yI (yL (yL yI))) (fun a => m_law_tables a.1 a.2)) := by
  obtain ⟨f, fd, hg, FD⟩ := T.g_law_tables
  refine ⟨f, fd, ["p", "modulus"], ?_, hg, FD.kp, FD.bindsN fun _ _ _ _ _ _ us hl => match us, hl with | [_, _], _ => rfl⟩
  refine TL.FunD.okC (N := ["p", "modulus", "low", "q", "digit", "rows", "less", "a", "row", "b"]) FD sc_law_tables (lenF fun _ => rfl) fun cdv A outer s H E hr => ?_
  refine ⟨_, (pss_cons (ps_set (i := 2) sc_law_tables.nd rfl (by first | exact .inl rfl | exact .inr rfl) pe_int) (pss_cons (ps_set (i := 3) sc_law_tables.nd rfl (by first | exact .inl rfl | exact .inr rfl) pe_int) (pss_cons (ps_for (passes_of rfl) rfl (pi_tupK (K := K) rfl (pe_slice sl_tup (pv 1) po_none (po_some (pe_un un_neg pe_int)))) (pg_name (i := 4) sc_law_tables.nd (by rfl) (by first | exact .inl rfl | exact .inr rfl)) (pss_cons (ps_set (i := 2) sc_law_tables.nd rfl (by first | exact .inl rfl | exact .inr rfl) (pe_op op_add (pv 2) (pe_op op_mulW (pv 4) (pv 3)))) (pss_cons (ps_set (i := 3) sc_law_tables.nd rfl (by first | exact .inl rfl | exact .inr rfl) (pe_op op_mulW (pv 3) (pv 0))) pss_nil))) (pss_cons (ps_set (i := 5) sc_law_tables.nd rfl (by first | exact .inl rfl | exact .inr rfl) (pe_lst pa_nil)) (pss_cons (ps_if (pt_cmpR op_gt (pv 3) (pv 0) (nomark _)) (pss_cons (ps_set (i := 6) sc_law_tables.nd rfl (by first | exact .inl rfl | exact .inr rfl) (pe_cl (ok_law_minus T) hr (by decide) (by rfl) passL (pa_cons (pv 0) (pa_cons (pv 2) pa_nil)))) (pss_cons (ps_for (passes_of rfl) rfl (pi_range1 (by rfl) T.b_range (pa_cons (pv 3) pa_nil)) (pg_name (i := 7) sc_law_tables.nd (by rfl) (by first | exact .inl rfl | exact .inr rfl)) (pss_cons (ps_setLc (i := 8) (own := [("b", 9)]) (tt := tYes) rfl sc_law_tables.nd rfl rfl (sw_true rfl rfl rfl (by decide +kernel)) (pi_range1 (by rfl) T.b_range (pa_cons (pv 3) pa_nil)) (by first | exact blkOk_by (N := ["p", "modulus", "low", "q", "digit", "rows", "less", "a", "row", "b"]) (sc := defScope s_law_tables) (by decide +kernel) | exact blkOk_by rfl) (fun _ _ _ _ _ => (pg_name (i := 9) sc_law_tables.nd (by rfl) (by first | exact .inl rfl | exact .inr rfl))) (fun _ _ _ _ _ => pts_nil) (fun _ _ _ _ _ => (pe_cl (ok_law_product T) hr (by decide) (by rfl) passL (pa_cons (pv 0) (pa_cons (pv 3) (pa_cons (pv 6) (pa_cons (pv 7) (pa_cons (pv 9) pa_nil)))))))) (pss_cons (ps_expr (pe_bm PySem.F.plainAttrs_list PySem.F.slot_list_append PySem.F.type_list_append mt_append (pv 5) (pa_cons (pv 8) pa_nil))) pss_nil))) pss_nil)) pss_nil) (pss_cons (ps_ret (pe_lst (pa_cons (pv 0) (pa_cons (pv 3) (pa_cons (pv 5) pa_nil))))) pss_nil)))))), fun vs Q h => run_F (fun F a rt hpre => ?_) vs H Q E h⟩
  show Bd _ _ _ _ _ _ (m_law_tables a.1 a.2)
  unfold m_law_tables
  refine b_let ev_int fun low_1 hlow_1 => ?_
  refine b_let ev_int fun q_1 hq_1 => ?_
  refine b_for _ (fun (s_1 : Int × Int) => ([] : Own)) (fun (s_1 : Int × Int) => (⟨[.val yI a.1, .val (yT yI) a.2, .val yI s_1.1, .val yI s_1.2, .any, .any, .any, .any, .any, .any], []⟩ : Lc)) (fun pre s => s = tbF a.1 pre) (low_1, q_1) (iv_tup (ev_initT ev_var (ev_neg ev_int) (by exact mdg_ne hpre))) (tg_name 4) rfl ⟨(.cons (.inl rfl) (.cons (.inl rfl) (.cons (.inl rfl) (.cons (.inl rfl) (.cons (.inr rfl) (.cons (.inr rfl) (.cons (.inr rfl) (.cons (.inr rfl) (.cons (.inr rfl) (.cons (.inr rfl) .nil)))))))))), rfl⟩ (by rw [hlow_1, hq_1]; rfl) (fun pre x post s s' e hj h => tb_step hj h) (fun gs_1 pre digit_1 post s_1 he_1 hj_1 N B P' hgo_1 hret_1 => ?_) (fun s_1 hj_4 => ?_)
  · have hmdigit_1 : digit_1 ∈ (List.dropLast a.2) := by rw [he_1]; exact List.mem_append_right _ List.mem_cons_self
    refine b_let (ev_add ev_var (ev_mul ev_var ev_var (by exact (tb_mul hpre he_1 hj_1).1))) fun low_2 hlow_2 => ?_
    refine b_let (ev_mul ev_var ev_var (by exact (tb_mul hpre he_1 hj_1).2)) fun q_2 hq_2 => ?_
    exact b_next fun h => nx_wk (hgo_1 _ h) ⟨(.cons (.inl rfl) (.cons (.inl rfl) (.cons (.inl rfl) (.cons (.inl rfl) (.cons (.inr rfl) (.cons (.inr rfl) (.cons (.inr rfl) (.cons (.inr rfl) (.cons (.inr rfl) (.cons (.inr rfl) .nil)))))))))), rfl⟩
  · refine b_letO (evl_lst (t := (yL yI)) (xs := []) ea_nil rfl (Nat.zero_le _)) fun p_1 rows_1 hrows_1 => ?_
    refine b_seq (b_if (tt_d (ev_gt ev_var ev_var)) (fun h_1 => ?_) (fun h_1 => ?_))
    · refine b_let (ev_call (a.1, s_1.1) (ea_cons ev_var (ea_cons ev_var ea_nil)) rfl (by exact tb_less (tb_end hpre hj_4) h_1)) fun less_1 hless_1 => ?_
      refine b_for _ (fun (s_2 : List (List Int)) => ([(p_1, cL (yL yI) s_2)] : Own)) (fun (s_2 : List (List Int)) => (⟨[.val yI a.1, .val (yT yI) a.2, .val yI s_1.1, .val yI s_1.2, .any, .val (yV (.ref p_1)) (), .val yI less_1, .any, .any, .any], []⟩ : Lc)) (fun pre s => s.length ≤ pre.length) rows_1 (iv_rng1 ev_var (by have h6 := (tb_end hpre hj_4).1; omega) (by have h6 := (tb_end hpre hj_4).1; omega)) (tg_name 7) rfl ⟨(.cons (.inl rfl) (.cons (.inl rfl) (.cons (.inl rfl) (.cons (.inl rfl) (.cons (.inr rfl) (.cons (.inl rfl) (.cons (.inl rfl) (.cons (.inr rfl) (.cons (.inr rfl) (.cons (.inr rfl) .nil)))))))))), rfl⟩ (by rw [hrows_1]; exact Nat.le_refl _) (fun pre x post s s' e hj h => by ((try simp only [bnd] at h); rw [← Stp.go.inj h]; simp only [List.length_append, List.length_cons, List.length_nil]; omega)) (fun gs_2 pre a_1 post s_2 he_2 hj_2 N B P' hgo_2 hret_2 => ?_) (fun s_2 hj_3 => ?_)
      · have hma_1 : a_1 ∈ (rng 0 (Int.toNat s_1.2)) := by rw [he_2]; exact List.mem_append_right _ List.mem_cons_self
        refine b_let (ev_l (lc_map (fun (b_1 : Int) => (m_law_product a.1 s_1.2 less_1 a_1 b_1)) (iv_rng1 ev_var (by have h6 := (tb_end hpre hj_4).1; omega) (by have h6 := (tb_end hpre hj_4).1; omega)) (tg_name 9) (by decide) (by exact rng_line (by have h6 := (tb_end hpre hj_4).1; omega)) (fun D gs b_1 hm_1 => (ev_call (a.1, s_1.2, less_1, a_1, b_1) (ea_cons ev_var (ea_cons ev_var (ea_cons ev_var (ea_cons ev_var (ea_cons ev_var ea_nil))))) rfl (by exact tb_prod (tb_end hpre hj_4) h_1 hless_1 hma_1 ‹_›))))) fun row_1 hrow_1 => ?_
        refine b_drop (ev_append (t := (yL yI)) (xs := s_2) 0 ev_var ev_var (by exact ap_len he_2 hj_2 (by rw [rng_length]; have h6 := (tb_end hpre hj_4).1; omega))) ?_
        exact b_next fun h => nx_wk (hgo_2 _ h) ⟨(.cons (.inl rfl) (.cons (.inl rfl) (.cons (.inl rfl) (.cons (.inl rfl) (.cons (.inr rfl) (.cons (.inl rfl) (.cons (.inl rfl) (.cons (.inr rfl) (.cons (.inr rfl) (.cons (.inr rfl) .nil)))))))))), rfl⟩
      · refine b_fall ?_
        exact b_seq (b_ret (ev_h3 (ea_cons ev_var (ea_cons ev_var (ea_cons (ev_frz (t := (yL yI)) (xs := s_2) 0 ev_var) ea_nil)))) (fun h => h _))
    · refine b_fall ?_
      exact b_seq (b_ret (ev_h3 (ea_cons ev_var (ea_cons ev_var (ea_cons (ev_frz (t := (yL yI)) (xs := rows_1) 0 ev_var) ea_nil)))) (fun h => h _))

theorem sc_law_times : FnScope ["own", "a", "b"] ["own", "a", "b"] (defScope s_law_times) := ⟨rfl, rfl, rfl, by decide +kernel, rfl, by decide +kernel, by decide +kernel⟩
def m_law_times (a_own : (Int × Int × (List (List Int)))) (a_a : Int) (a_b : Int) : Int :=
  (if (a_own.1 = (0 : Int)) then
  (a_a * a_b)
  else
  (if (a_own.1 = a_own.2.1) then
  ((a_a * a_b) % a_own.1)
  else
  (ix (ix a_own.2.2 a_a) a_b)))
theorem ow_row {o : Int × Int × List (List Int)} {a b : Int} (h : OwK o) (hn : ¬ o.1 = o.2.1) (ha : Eo o.2.1 a) (hb : Eo o.2.1 b) : Inb o.2.2 a ∧ Inb (ix o.2.2 a) b ∧ Eo o.2.1 (ix (ix o.2.2 a) b) := by
  rcases h with h | ⟨p, h1, h2, h3, rfl⟩
  · obtain ⟨_, _, _, _, h2, h3⟩ := ow6_b o h
    have i1 : Inb o.2.2 a := ⟨by have := ha.1; omega, by rw [h2]; exact ha.2⟩
    have h4 := h3 _ (ix_mem i1)
    have i2 : Inb (ix o.2.2 a) b := ⟨by have := hb.1; omega, by rw [h4.1]; exact hb.2⟩
    exact ⟨i1, i2, h4.2 _ (ix_mem i2)⟩
  · exact absurd rfl hn
theorem ow_mul {o : Int × Int × List (List Int)} {a b : Int} (h : OwK o) (ha : Eo o.2.1 a) (hb : Eo o.2.1 b) : CMulW a b := by
  have h1 := eoB h ha
  have h2 := eoB h hb
  exact sz_mulW (m := 10) (n := 10) (by have := h1.1; have := h1.2; unfold Sz; omega) (by have := h2.1; have := h2.2; unfold Sz; omega)


theorem ok_law_times (T : Tx P K mg) : Cl P w K mg base 1 "_law_times" (spF (fun a : (Int × Int × (List (List Int))) × Int × Int => [.val (yH3 yI yI (yL (yL yI))) a.1, .val yI a.2.1, .val yI a.2.2]) (fun a : (Int × Int × (List (List Int))) × Int × Int => OwK a.1 ∧ Eo a.1.2.1 a.2.1 ∧ Eo a.1.2.1 a.2.2) yI (fun a => m_law_times a.1 a.2.1 a.2.2)) := by
  obtain ⟨f, fd, hg, FD⟩ := T.g_law_times
  refine ⟨f, fd, ["own", "a", "b"], ?_, hg, FD.kp, FD.bindsN fun _ _ _ _ _ _ us hl => match us, hl with | [_, _, _], _ => rfl⟩
  refine TL.FunD.okC (N := ["own", "a", "b"]) FD sc_law_times (lenF fun _ => rfl) fun cdv A outer s H E hr => ?_
  refine ⟨_, (pss_cons (ps_if (pt_cmpR op_eq (pe_ix (ixL_K (K := K) rfl) (pv 0) pe_int (fun _ _ => rfl)) pe_int (nomark _)) (pss_cons (ps_ret (pe_op op_mulW (pv 1) (pv 2))) pss_nil) pss_nil) (pss_cons (ps_if (pt_cmpR op_eq (pe_ix (ixL_K (K := K) rfl) (pv 0) pe_int (fun _ _ => rfl)) (pe_ix (ixL_K (K := K) rfl) (pv 0) pe_int (fun _ _ => rfl)) (nomark _)) (pss_cons (ps_ret (pe_op op_mod (pe_callTy call_int1 (by rfl) T.b_int (by decide +kernel) (pa_cons (pe_op op_mulW (pv 1) (pv 2)) pa_nil)) (pe_ix (ixL_K (K := K) rfl) (pv 0) pe_int (fun _ _ => rfl)))) pss_nil) pss_nil) (pss_cons (ps_ret (pe_ix (ixL_K (K := K) rfl) (pe_ix (ixL_K (K := K) rfl) (pe_ix (ixL_K (K := K) rfl) (pv 0) pe_int (fun _ _ => rfl)) (pv 1) (fun _ _ => rfl)) (pv 2) (fun _ _ => rfl))) pss_nil))), fun vs Q h => run_F (fun F a rt hpre => ?_) vs H Q E h⟩
  obtain ⟨hp1, hp2, hp3⟩ := id hpre
  show Bd _ _ _ _ _ _ (m_law_times a.1 a.2.1 a.2.2)
  unfold m_law_times
  refine b_seq (b_if (tt_d (ev_eq (ev_h3a (x := a.1) ev_var) ev_int)) (fun h_1 => ?_) (fun h_1 => ?_))
  · exact b_seq (b_ret (ev_mul ev_var ev_var (by exact ow_mul hp1 hp2 hp3)) (fun h => h _))
  · refine b_fall ?_
    refine b_seq (b_if (tt_d (ev_eq (ev_h3a (x := a.1) ev_var) (ev_h3b (x := a.1) ev_var))) (fun h_2 => ?_) (fun h_2 => ?_))
    · exact b_seq (b_ret (ev_mod (ev_intI (ev_mul ev_var ev_var (by exact ow_mul hp1 hp2 hp3))) (ev_h3a (x := a.1) ev_var) (by have h6 := ow_p hp1; omega)) (fun h => h _))
    · refine b_fall ?_
      exact b_seq (b_ret (ev_ixL (ev_ixL (ev_h3c (x := a.1) ev_var) ev_var (by exact (ow_row hp1 ‹_› hp2 hp3).1)) ev_var (by exact (ow_row hp1 ‹_› hp2 hp3).2.1)) (fun h => h _))

theorem ow_times {o : Int × Int × List (List Int)} {a b : Int} (h : OwK o) (ha : Eo o.2.1 a) (hb : Eo o.2.1 b) : Eo o.2.1 (m_law_times o a b) := by
  have hq := ow_p h
  unfold m_law_times
  try rw [if_neg (show ¬ o.1 = 0 by omega)]
  split
  · rename_i e
    rw [← e]
    exact ⟨Int.emod_nonneg _ (by omega), Int.emod_lt_of_pos _ (by omega)⟩
  · rename_i hn
    exact (ow_row h hn ha hb).2.2
local macro_rules | `(tactic| array_get_dec) => `(tactic| first | ((with_reducible apply ow_times <;> array_get_dec)) | fail)

theorem sc_law_inverse : FnScope ["own", "a", "found", "left", "k"] ["own", "a"] (defScope s_law_inverse) := ⟨rfl, rfl, rfl, by decide +kernel, rfl, by decide +kernel, by decide +kernel⟩
def m_law_inverse (a_own : (Int × Int × (List (List Int)))) (a_a : Int) : Int :=
  bnd (1 : Int) fun found_1 =>
  bnd (a_own.2.1 - (2 : Int)) fun left_1 =>
  ((forL (fun (s_1 : Int × Int × Int) k_1 =>
  bnd (if ((s_1.2.2 % (2 : Int)) = (1 : Int)) then (m_law_times a_own s_1.1 s_1.2.1) else s_1.1) fun found_2 =>
  bnd (m_law_times a_own s_1.2.1 s_1.2.1) fun a_1 =>
  bnd (s_1.2.2 / (2 : Int)) fun left_2 =>
  .go (found_2, a_1, left_2)) (rng 0 (Int.toNat (10 : Int))) (found_1, a_a, left_1)).out fun s_1 =>
  s_1.1)
theorem iv_step {ρ : Type} {o : Int × Int × List (List Int)} {s s' : Int × Int × Int} (h : OwK o) (hj : Eo o.2.1 s.1 ∧ Eo o.2.1 s.2.1) (e : (bnd (if ((s.2.2 % (2 : Int)) = (1 : Int)) then (m_law_times o s.1 s.2.1) else s.1) fun found_2 =>
  bnd (m_law_times o s.2.1 s.2.1) fun a_1 =>
  bnd (s.2.2 / (2 : Int)) fun left_2 =>
  Stp.go (ρ := ρ) (found_2, a_1, left_2)) = .go s') : Eo o.2.1 s'.1 ∧ Eo o.2.1 s'.2.1 := by
  rw [← Stp.go.inj e]
  refine ⟨?_, ow_times h hj.2 hj.2⟩
  show Eo _ (if _ then _ else _)
  split
  · exact ow_times h hj.1 hj.2
  · exact hj.1


theorem ok_law_inverse (T : Tx P K mg) : Cl P w K mg base 2 "_law_inverse" (spF (fun a : (Int × Int × (List (List Int))) × Int => [.val (yH3 yI yI (yL (yL yI))) a.1, .val yI a.2]) (fun a : (Int × Int × (List (List Int))) × Int => OwK a.1 ∧ Eo a.1.2.1 a.2) yI (fun a => m_law_inverse a.1 a.2)) := by
  obtain ⟨f, fd, hg, FD⟩ := T.g_law_inverse
  refine ⟨f, fd, ["own", "a"], ?_, hg, FD.kp, FD.bindsN fun _ _ _ _ _ _ us hl => match us, hl with | [_, _], _ => rfl⟩
  refine TL.FunD.okC (N := ["own", "a", "found", "left", "k"]) FD sc_law_inverse (lenF fun _ => rfl) fun cdv A outer s H E hr => ?_
  refine ⟨_, (pss_cons (ps_set (i := 2) sc_law_inverse.nd rfl (by first | exact .inl rfl | exact .inr rfl) pe_int) (pss_cons (ps_set (i := 3) sc_law_inverse.nd rfl (by first | exact .inl rfl | exact .inr rfl) (pe_op op_sub (pe_ix (ixL_K (K := K) rfl) (pv 0) pe_int (fun _ _ => rfl)) pe_int)) (pss_cons (ps_for (passes_of rfl) rfl (pi_range1 (by rfl) T.b_range (pa_cons pe_int pa_nil)) (pg_name (i := 4) sc_law_inverse.nd (by rfl) (by first | exact .inl rfl | exact .inr rfl)) (pss_cons (ps_if (pt_cmpR op_eq (pe_op op_mod (pe_callTy call_int1 (by rfl) T.b_int (by decide +kernel) (pa_cons (pv 3) pa_nil)) pe_int) pe_int (nomark _)) (pss_cons (ps_set (i := 2) sc_law_inverse.nd rfl (by first | exact .inl rfl | exact .inr rfl) (pe_cl (ok_law_times T) hr (by decide) (by rfl) passL (pa_cons (pv 0) (pa_cons (pv 2) (pa_cons (pv 1) pa_nil))))) pss_nil) pss_nil) (pss_cons (ps_set (i := 1) sc_law_inverse.nd rfl (by first | exact .inl rfl | exact .inr rfl) (pe_cl (ok_law_times T) hr (by decide) (by rfl) passL (pa_cons (pv 0) (pa_cons (pv 1) (pa_cons (pv 1) pa_nil))))) (pss_cons (ps_set (i := 3) sc_law_inverse.nd rfl (by first | exact .inl rfl | exact .inr rfl) (pe_op op_fdivW (pv 3) pe_int)) pss_nil)))) (pss_cons (ps_ret (pv 2)) pss_nil)))), fun vs Q h => run_F (fun F a rt hpre => ?_) vs H Q E h⟩
  obtain ⟨hp1, hp2⟩ := id hpre
  show Bd _ _ _ _ _ _ (m_law_inverse a.1 a.2)
  unfold m_law_inverse
  refine b_let ev_int fun found_1 hfound_1 => ?_
  refine b_let (ev_sub (ev_h3b (x := a.1) ev_var) ev_int) fun left_1 hleft_1 => ?_
  refine b_for _ (fun (s_1 : Int × Int × Int) => ([] : Own)) (fun (s_1 : Int × Int × Int) => (⟨[.val (yH3 yI yI (yL (yL yI))) a.1, .val yI s_1.2.1, .val yI s_1.1, .val yI s_1.2.2, .any], []⟩ : Lc)) (fun _ s => Eo a.1.2.1 s.1 ∧ Eo a.1.2.1 s.2.1) (found_1, a.2, left_1) (iv_rng1 ev_int (by first | omega | exact sz_divW (show Sz 2 (2 : Int) from sz_lit (by decide +kernel)) (by omega)) (by first | omega | exact sz_divW (show Sz 2 (2 : Int) from sz_lit (by decide +kernel)) (by omega))) (tg_name 4) rfl ⟨(.cons (.inl rfl) (.cons (.inl rfl) (.cons (.inl rfl) (.cons (.inl rfl) (.cons (.inr rfl) .nil))))), rfl⟩ ⟨by rw [hfound_1]; exact eo_1 hp1, hp2⟩ (fun pre x post s s' e hj h => iv_step hp1 hj h) (fun gs_1 pre k_1 post s_1 he_1 hj_1 N B P' hgo_1 hret_1 => ?_) (fun s_1 hj_2 => ?_)
  · have hmk_1 : k_1 ∈ (rng 0 (Int.toNat (10 : Int))) := by rw [he_1]; exact List.mem_append_right _ List.mem_cons_self
    refine b_join (fun (found_2 : Int) => (⟨[.val (yH3 yI yI (yL (yL yI))) a.1, .val yI s_1.2.1, .val yI found_2, .val yI s_1.2.2, .val yI k_1], (gs_1 ++ [])⟩ : Lc)) (fun (found_2 : Int) => ([] : Own)) (tt_d (ev_eq (ev_mod (ev_intI ev_var) ev_int (by first | omega | exact sz_divW (show Sz 2 (2 : Int) from sz_lit (by decide +kernel)) (by omega))) ev_int)) (x1 := (m_law_times a.1 s_1.1 s_1.2.1)) (x2 := s_1.1) (fun h_1 => (sx_set (ev_call (a.1, s_1.1, s_1.2.1) (ea_cons ev_var (ea_cons ev_var (ea_cons ev_var ea_nil))) rfl (by first | exact ⟨hp1, hj_1.1, hj_1.2⟩ | exact ⟨hp1, hj_1.2, hj_1.2⟩)) (sx_wk sx_next ⟨(.cons (.inl rfl) (.cons (.inl rfl) (.cons (.inl rfl) (.cons (.inl rfl) (.cons (.inl rfl) .nil))))), rfl⟩))) (fun h_1 => (sx_wk sx_next ⟨(.cons (.inl rfl) (.cons (.inl rfl) (.cons (.inl rfl) (.cons (.inl rfl) (.cons (.inl rfl) .nil))))), rfl⟩)) fun found_2 hfound_2 => ?_
    refine b_let (ev_call (a.1, s_1.2.1, s_1.2.1) (ea_cons ev_var (ea_cons ev_var (ea_cons ev_var ea_nil))) rfl (by first | exact ⟨hp1, hj_1.1, hj_1.2⟩ | exact ⟨hp1, hj_1.2, hj_1.2⟩)) fun a_1 ha_1 => ?_
    refine b_let (ev_div ev_var ev_int (by first | omega | exact sz_divW (show Sz 2 (2 : Int) from sz_lit (by decide +kernel)) (by omega))) fun left_2 hleft_2 => ?_
    exact b_next fun h => nx_wk (hgo_1 _ h) ⟨(.cons (.inl rfl) (.cons (.inl rfl) (.cons (.inl rfl) (.cons (.inl rfl) (.cons (.inr rfl) .nil))))), rfl⟩
  · exact b_seq (b_ret ev_var (fun h => h _))

theorem ow_inv {o : Int × Int × List (List Int)} {a : Int} (h : OwK o) (ha : Eo o.2.1 a) : Eo o.2.1 (m_law_inverse o a) := by
  unfold m_law_inverse
  simp only [bnd]
  generalize hW : @forL (Int × Int × Int) Int Int _ _ _ = W
  have : ∃ s', W = .go s' ∧ Eo o.2.1 s'.1 ∧ Eo o.2.1 s'.2.1 := by
    rw [← hW]
    exact forL_go0 (fun _ (s : Int × Int × Int) => Eo o.2.1 s.1 ∧ Eo o.2.1 s.2.1) ⟨eo_1 h, ha⟩ fun q x r s e hj => ⟨_, rfl, iv_step (ρ := Int) h hj rfl⟩
  obtain ⟨s, rfl, h1, h2⟩ := this
  exact h1
local macro_rules | `(tactic| array_get_dec) => `(tactic| first | ((with_reducible apply ow_inv <;> array_get_dec)) | fail)
theorem pr_times {p a b : Int} (hp : 2 ≤ p) : m_law_times (p, p, []) a b = (a * b) % p := by
  unfold m_law_times
  try rw [if_neg (show ¬ p = 0 by omega)]
  rw [if_pos rfl]
/-- the ten turns are enough: the inverse is the power p - 2 -/
theorem pr_inv {p a : Int} (hp : 2 ≤ p) (hq : p ≤ 997) : m_law_inverse (p, p, []) a = m_power_modulo a (p - 2) p := by
  rw [pm_val (by omega) (by omega) (by omega)]
  unfold m_law_inverse
  simp only [bnd, pr_times hp]
  generalize hW : @forL (Int × Int × Int) Int Int _ _ _ = W
  have : ∃ s', W = .go s' ∧ ((s'.1 * s'.2.1 ^ s'.2.2.toNat) % p = a ^ (p - 2).toNat % p ∧ (0 ≤ s'.1 ∧ s'.1 < p)) ∧ 0 ≤ s'.2.2 ∧ s'.2.2 * 2 ^ (rng 0 (Int.toNat 10)).length ≤ p - 2 := by
    rw [← hW]
    refine forL_go0 (fun pre (s : Int × Int × Int) => ((s.1 * s.2.1 ^ s.2.2.toNat) % p = a ^ (p - 2).toNat % p ∧ (0 ≤ s.1 ∧ s.1 < p)) ∧ 0 ≤ s.2.2 ∧ s.2.2 * 2 ^ pre.length ≤ p - 2) ⟨⟨by show (1 * a ^ (p - 2).toNat) % p = _; rw [Int.one_mul], by show (0 : Int) ≤ 1; omega, by show 1 < p; omega⟩, by show 0 ≤ p - 2; omega, by show (p - 2) * 2 ^ 0 ≤ p - 2; omega⟩ fun q x r s e hj => ⟨_, rfl, ⟨?_, ?_⟩, ?_, ?_⟩
    · obtain ⟨⟨h1, _⟩, h2, _⟩ := hj
      rw [← h1]
      by_cases h : 0 < s.2.2
      · exact pm_half h
      · have e0 : s.2.2 = 0 := by omega
        dsimp only
        rw [e0]
        simp
    · dsimp only
      split
      · exact ⟨Int.emod_nonneg _ (by omega), Int.emod_lt_of_pos _ (by omega)⟩
      · exact hj.1.2
    · have := hj.2.1
      show 0 ≤ s.2.2 / 2
      omega
    · obtain ⟨_, h2, h3⟩ := hj
      show s.2.2 / 2 * 2 ^ (q ++ [x]).length ≤ p - 2
      rw [List.length_append, List.length_singleton, Int.pow_succ]
      have h4 : s.2.2 / 2 * (2 ^ q.length * 2) = (s.2.2 / 2 * 2) * 2 ^ q.length := by grind
      rw [h4]
      exact Int.le_trans (Int.mul_le_mul_of_nonneg_right (by omega) (Int.pow_nonneg (by omega))) h3
  obtain ⟨s, rfl, ⟨h1, h2, h3⟩, h4, h5⟩ := this
  have e : (rng 0 (Int.toNat 10)).length = 10 := by rw [rng_length]; rfl
  rw [e] at h5
  have e0 : s.2.2 = 0 := by omega
  show s.1 = _
  rw [← h1, e0]
  simp
  exact (Int.emod_eq_of_lt h2 h3).symm
/-- the law's table and the package's field do the same -/
structure Lk (o : Int × Int × List (List Int)) (F : FinS) : Prop where
  k : OwK o
  fin : FinOk F
  p : o.1 = F.prime
  q : o.2.1 = F.size
  tm : ∀ a b, Eo F.size a → Eo F.size b → m_law_times o a b = m_Finite_times F a b
  pl : ∀ a b, Eo F.size a → Eo F.size b → m_law_plus o.1 a b = m_Finite_plus F a b
  mi : ∀ a, Eo F.size a → m_law_minus o.1 a = m_Finite_negated F a
  iv : ∀ a, Eo F.size a → a ≠ 0 → m_law_inverse o a = oget (m_Finite_inv F a)
def lkB (o : Int × Int × List (List Int)) (F : FinS) : Prop := o ∈ owns6 ∧ F ∈ sixF ∧ o.1 = F.prime ∧ o.2.1 = F.size ∧ ∀ a ∈ rng 0 F.size.toNat, m_law_minus o.1 a = m_Finite_negated F a ∧ (a ≠ 0 → m_law_inverse o a = oget (m_Finite_inv F a)) ∧ ∀ b ∈ rng 0 F.size.toNat, m_law_times o a b = m_Finite_times F a b ∧ m_law_plus o.1 a b = m_Finite_plus F a b
instance (o : Int × Int × List (List Int)) (F : FinS) : Decidable (lkB o F) := by unfold lkB; exact inferInstance
theorem lk_of {o : Int × Int × List (List Int)} {F : FinS} (h : lkB o F) : Lk o F := by
  obtain ⟨h1, h0, h2, h3, h5⟩ := h
  have r : ∀ a, Eo F.size a → a ∈ rng 0 F.size.toNat := fun a ha => eo_rng ha.1 ha.2
  exact ⟨.inl h1, .inl h0, h2, h3, fun a b ha hb => ((h5 a (r a ha)).2.2 b (r b hb)).1, fun a b ha hb => ((h5 a (r a ha)).2.2 b (r b hb)).2, fun a ha => (h5 a (r a ha)).1, fun a ha => (h5 a (r a ha)).2.1⟩
theorem lk_six : ∀ x ∈ List.zip owns6 sixF, lkB x.1 x.2 := by decide +kernel
theorem lk_prime {p c : Int} (h2 : 2 ≤ p) (h3 : p ≤ 997) (hb : primeB p.toNat = true) (h0 : 0 ≤ c) (h1 : c < p) : Lk (p, p, []) ⟨p, 1, p, [c, 1], [], [], []⟩ where
  k := .inr ⟨p, h2, h3, hb, rfl⟩
  fin := .inr ⟨p, c, ⟨h2, h3, h0, h1, hb⟩, rfl⟩
  p := rfl
  q := rfl
  tm a b _ _ := pr_times h2
  pl a b ha hb := pr_plus h2 ha hb
  mi a ha := pr_minus h2 ha
  iv a ha hz := by
    rw [pr_inv h2 h3]
    unfold m_Finite_inv
    rw [if_neg hz]
    rfl

theorem sc_law_vector : FnScope ["pool", "q", "v", "k"] ["pool", "q"] (defScope s_law_vector) := ⟨rfl, rfl, rfl, by decide +kernel, rfl, by decide +kernel, by decide +kernel⟩
def m_law_vector (a_pool : List Int) (a_q : Int) : (List Int) × List Int :=
  bnd (mapS (fun (s_1 : List Int) (x_1 : Int) => bnd (m_law_draw s_1 a_q) fun yy_2 => (yy_2.1, yy_2.2)) (rng 0 (Int.toNat (3 : Int))) a_pool) fun yy_3 =>
  bnd yy_3.1 fun v_1 =>
  (if (v_1 = [(0 : Int), (0 : Int), (0 : Int)]) then
  bnd (m_law_draw yy_3.2 (3 : Int)) fun yy_4 =>
  ((setI v_1 yy_4.1 (1 : Int)), yy_4.2)
  else
  (v_1, yy_3.2))
theorem pl2_refl {s : List Int} {k : Int} (h : PlOk s) (hk : 0 ≤ k) : Pl2 s s k := by decreasing_trivial_pre_omega
theorem vec_pre {pool pre post s : List Int} {q x : Int} (hp : PlB 10000 pool ∧ 2 ≤ q ∧ q ≤ 997) (e : rng 0 (Int.toNat 3) = pre ++ x :: post) (hj : Pl2 pool s pre.length) : PlOk s ∧ 0 < q ∧ Sz 200 q := by
  have h1 := len_pre e
  obtain ⟨h2, h3, h4⟩ := hp
  refine ⟨?_, by omega, by unfold Sz; omega⟩
  simp only [Pl2, PlB, PlOk] at *
  omega
theorem vec_step {pool pre post s : List Int} {q x : Int} (hp : PlB 10000 pool ∧ 2 ≤ q ∧ q ≤ 997) (e : rng 0 (Int.toNat 3) = pre ++ x :: post) (hj : Pl2 pool s pre.length) : Pl2 pool (m_law_draw s q).2 ((pre ++ [x]).length : Nat) := by
  have h1 := (p_draw (vec_pre hp e hj) rfl).2.2
  rw [List.length_append, List.length_singleton]
  simp only [Pl2] at *
  omega
theorem vec_post {pool : List Int} {q : Int} {y : List Int × List Int} (hp : PlB 10000 pool ∧ 2 ≤ q ∧ q ≤ 997) (hy : y = mapS (fun (s_1 : List Int) (x_1 : Int) => bnd (m_law_draw s_1 q) fun yy_2 => (yy_2.1, yy_2.2)) (rng 0 (Int.toNat (3 : Int))) pool) : V3q q y.1 ∧ Pl2 pool y.2 3 := by
  subst hy
  have e : rng 0 (Int.toNat (3 : Int)) = [0, 1, 2] := rfl
  rw [e]
  simp only [mapS, bnd]
  have h1 := p_draw (pool := pool) (most := q) ⟨plb_ok hp.1, by omega, by have := hp.2; unfold Sz; omega⟩ rfl
  generalize m_law_draw pool q = d1 at *
  have h2 := p_draw (pool := d1.2) (most := q) ⟨by decreasing_trivial_pre_omega, by omega, by have := hp.2; unfold Sz; omega⟩ rfl
  generalize m_law_draw d1.2 q = d2 at *
  have h3 := p_draw (pool := d2.2) (most := q) ⟨by decreasing_trivial_pre_omega, by omega, by have := hp.2; unfold Sz; omega⟩ rfl
  generalize m_law_draw d2.2 q = d3 at *
  exact ⟨v3_mk ⟨h1.1, h1.2.1⟩ ⟨h2.1, h2.2.1⟩ ⟨h3.1, h3.2.1⟩, by decreasing_trivial_pre_omega⟩


theorem ok_law_vector (T : Tx P K mg) : Cl P w K mg base 2 "_law_vector" (spP (fun (p : Addr) (a : List Int × Int) => [.val (yV (.ref p)) (), .val yI a.2]) (fun a => cL yI a.1) (fun s => cL yI s) (fun a : List Int × Int => PlB 10000 a.1 ∧ 2 ≤ a.2 ∧ a.2 ≤ 997) (yL yI) (fun a => m_law_vector a.1 a.2)) := by
  obtain ⟨f, fd, hg, FD⟩ := T.g_law_vector
  refine ⟨f, fd, ["pool", "q"], ?_, hg, FD.kp, FD.bindsN fun _ _ _ _ _ _ us hl => match us, hl with | [_, _], _ => rfl⟩
  refine TL.FunD.okC (N := ["pool", "q", "v", "k"]) FD sc_law_vector (lenP fun _ _ => rfl) fun cdv A outer s H E hr => ?_
  refine ⟨_, (pss_cons (ps_setLc (i := 2) (own := [("k", 3)]) (tt := tYes) rfl sc_law_vector.nd rfl rfl (sw_true rfl rfl rfl (by decide +kernel)) (pi_range1 (by rfl) T.b_range (pa_cons pe_int pa_nil)) (by first | exact blkOk_by (N := ["pool", "q", "v", "k"]) (sc := defScope s_law_vector) (by decide +kernel) | exact blkOk_by rfl) (fun _ _ _ _ _ => (pg_name (i := 3) sc_law_vector.nd (by rfl) (by first | exact .inl rfl | exact .inr rfl))) (fun _ _ _ _ _ => pts_nil) (fun _ _ _ _ _ => (pe_cl (ok_law_draw T) hr (by decide) (by rfl) passL (pa_cons (pv 0) (pa_cons (pv 1) pa_nil))))) (pss_cons (ps_if (pt_cmpR (op_eqK (K := K) rfl hr.units) (pv 2) (pe_lst (pa_cons pe_int (pa_cons pe_int (pa_cons pe_int pa_nil)))) (nomark _)) (pss_cons (ps_asg pe_int (pg_sub (pv 2) (pe_cl (ok_law_draw T) hr (by decide) (by rfl) passL (pa_cons (pv 0) (pa_cons pe_int pa_nil))) set_list)) pss_nil) pss_nil) (pss_cons (ps_ret (pv 2)) pss_nil))), fun vs Q h => run_P (fun F p a rt hpre => ?_) vs H Q E h⟩
  show Bd _ _ _ _ _ _ (m_law_vector a.1 a.2)
  unfold m_law_vector
  refine b_gen fun yy_3 hyy_3 => ?_
  have pyy_3 := vec_post hpre hyy_3
  refine b_letO (lc_stY (y := yy_3) hyy_3 (fun (s_1 : List Int) => [(p, cL yI s_1)]) (fun pre s => Pl2 a.1 s (pre.length : Nat)) (iv_rng1 ev_int (by omega) (by omega)) (tg_name 3) (by decide) rfl (by exact rng_line (by decide)) (pl2_refl (plb_ok hpre.1) (by decide)) (fun pre x post s e hj => vec_step hpre e hj) (fun D gs pre x_1 post s_1 he hj => (ev_callP (y := (m_law_draw s_1 a.2)) 0 (s_1, a.2) rfl (ea_cons ev_var (ea_cons ev_var ea_nil)) rfl rfl rfl (by first | exact vec_pre hpre he hj | (have h6 := pyy_3.2; have h7 := hpre.1; exact ⟨by decreasing_trivial_pre_omega, by omega, sz_lit (by decide +kernel)⟩))))) fun p_1 v_1 hv_1 => ?_
  refine b_seq (b_if (tt_d (ev_bor (bw_at (t := yI) (xs := v_1) 2 1 bw_all) (ev_eqD ev_var (ev_l (evl_lst (t := yI) (xs := [(0 : Int), (0 : Int), (0 : Int)]) (ea_cons ev_int (ea_cons ev_int (ea_cons ev_int ea_nil))) rfl (lit_len 3 rfl (by decide))))))) (fun h_1 => ?_) (fun h_1 => ?_))
  · refine b_gen fun yy_4 hyy_4 => ?_
    have qyy_4 : PlOk yy_3.2 ∧ 0 < (3 : Int) ∧ Sz 200 (3 : Int) := (by first | exact vec_pre hpre he hj | (have h6 := pyy_3.2; have h7 := hpre.1; exact ⟨by decreasing_trivial_pre_omega, by omega, sz_lit (by decide +kernel)⟩))
    have pyy_4 := p_draw qyy_4 hyy_4
    refine b_setI (t := yI) (xs := v_1) 1 ev_int ev_var (ev_callP 0 (yy_3.2, (3 : Int)) hyy_4 (ea_cons ev_var (ea_cons ev_int ea_nil)) rfl rfl rfl qyy_4) (by rw [hv_1]; exact inb_v3 pyy_3.1 pyy_4.1 pyy_4.2.1) rfl ?_
    refine b_fall ?_
    exact b_seq (b_ret (ev_frz (t := yI) (xs := (setI v_1 yy_4.1 (1 : Int))) 1 ev_var) (fun h => h _))
  · refine b_fall ?_
    exact b_seq (b_ret (ev_frz (t := yI) (xs := v_1) 1 ev_var) (fun h => h _))

theorem set3 {q i : Int} {v : List Int} (h : V3q q v) (hq : 2 ≤ q) (h0 : 0 ≤ i) (h1 : i < 3) : V3q q (setI v i 1) ∧ setI v i 1 ≠ [0, 0, 0] := by
  match v, h with
  | [a, b, c], h =>
    have ha := h.2 a (by simp)
    have hb := h.2 b (by simp)
    have hc := h.2 c (by simp)
    have h1' : Eo q 1 := ⟨by omega, by omega⟩
    have : i = 0 ∨ i = 1 ∨ i = 2 := by omega
    rcases this with z | z | z <;> subst z
    · exact ⟨(v3_mk h1' hb hc : V3q q [1, b, c]), (by simp : ([1, b, c] : List Int) ≠ [0, 0, 0])⟩
    · exact ⟨(v3_mk ha h1' hc : V3q q [a, 1, c]), (by simp : ([a, 1, c] : List Int) ≠ [0, 0, 0])⟩
    · exact ⟨(v3_mk ha hb h1' : V3q q [a, b, 1]), (by simp : ([a, b, 1] : List Int) ≠ [0, 0, 0])⟩
theorem p_vector {pool : List Int} {q : Int} {y : List Int × List Int} (hp : PlB 10000 pool ∧ 2 ≤ q ∧ q ≤ 997) (hy : y = m_law_vector pool q) : (V3q q y.1 ∧ y.1 ≠ [0, 0, 0]) ∧ Pl2 pool y.2 4 := by
  subst hy
  unfold m_law_vector
  have hv := fun y hy => vec_post (y := y) hp hy
  generalize mapS (fun (s_1 : List Int) (x_1 : Int) => bnd (m_law_draw s_1 q) fun yy_2 => (yy_2.1, yy_2.2)) (rng 0 (Int.toNat (3 : Int))) pool = y at hv ⊢
  obtain ⟨h1, h2⟩ := hv _ rfl
  simp only [bnd]
  split
  · have h3 := p_draw (pool := y.2) (most := 3) ⟨by decreasing_trivial_pre_omega, by omega, sz_lit (by decide +kernel)⟩ rfl
    generalize m_law_draw y.2 3 = d at *
    exact ⟨set3 h1 hp.2.1 h3.1 h3.2.1, by decreasing_trivial_pre_omega⟩
  · rename_i h3
    exact ⟨⟨h1, h3⟩, by decreasing_trivial_pre_omega⟩

theorem sc_gcd_pair : FnScope ["a", "b"] ["a", "b"] (defScope s_gcd_pair) := ⟨rfl, rfl, rfl, by decide +kernel, rfl, by decide +kernel, by decide +kernel⟩
def m_gcd_pair (a_a : Int) (a_b : Int) : Int :=
  ((whileL (fun s_1 : Int × Int => (¬ s_1.2 = (0 : Int))) (fun s_1 =>
  bnd (s_1.2, (Int.fmod s_1.1 s_1.2)) fun x_1 =>
  .go (x_1.1, x_1.2)) ((fun s => s.2.natAbs) (a_a, a_b) + 1) (a_a, a_b)).out fun s_1 =>
  ((Int.natAbs s_1.1 : Nat) : Int))
theorem gcd_pair_eq (a b : Int) : m_gcd_pair a b = (Int.gcd a b : Int) := by
  unfold m_gcd_pair
  obtain ⟨g, e, h, _⟩ := gcd_loop (ρ := Int) (f := fun s1 => bnd (s1.2, (Int.fmod s1.1 s1.2)) fun x6 => .go (x6.1, x6.2)) (fun s => rfl) a b (b.natAbs + 1) (Nat.lt_succ_self _)
  show (whileL _ _ (b.natAbs + 1) (a, b)).out _ = _
  rw [e]
  show ((Int.natAbs g : Nat) : Int) = _
  rw [h]


theorem ok_gcd_pair (T : Tx P K mg) : Cl P w K mg base 1 "gcd_pair" (spF (fun a : Int × Int => [.val yI a.1, .val yI a.2]) (fun _ : Int × Int => True) yI (fun a => m_gcd_pair a.1 a.2)) := by
  obtain ⟨f, fd, hg, FD⟩ := T.g_gcd_pair
  refine ⟨f, fd, ["a", "b"], ?_, hg, FD.kp, FD.bindsN fun _ _ _ _ _ _ us hl => match us, hl with | [_, _], _ => rfl⟩
  refine TL.FunD.okC (N := ["a", "b"]) FD sc_gcd_pair (lenF fun _ => rfl) fun cdv A outer s H E hr => ?_
  refine ⟨_, (pss_cons (ps_while (passes_of rfl) (pt_cmpR op_ne (pv 1) pe_int (nomark _)) (pss_cons (ps_par (i := 0) (j := 1) rfl sc_gcd_pair.nd rfl rfl (by decide) rfl rfl (pa_cons (pv 1) (pa_cons (pe_op op_modN (pv 0) (pv 1)) pa_nil)) (by rfl)) pss_nil)) (pss_cons (ps_ret (pe_callB call_abs (by rfl) T.b_abs (by decide +kernel) (pa_cons (pv 0) pa_nil))) pss_nil)), fun vs Q h => run_F (fun F a rt hpre => ?_) vs H Q E h⟩
  show Bd _ _ _ _ _ _ (m_gcd_pair a.1 a.2)
  unfold m_gcd_pair
  refine b_while _ _ (fun (s_1 : Int × Int) => ([] : Own)) (fun (s_1 : Int × Int) => (⟨[.val yI s_1.1, .val yI s_1.2], []⟩ : Lc)) (fun _ => True) (fun s => s.2.natAbs) (a.1, a.2) rfl ⟨(.cons (.inl rfl) (.cons (.inl rfl) .nil)), rfl⟩ trivial (fun s_1 hj_1 => (tt_n (ev_ne ev_var ev_int))) (fun s s' _ hc e => ⟨trivial, gcd_mu hc e⟩) (fun s_1 hj_1 hc_1 N B P' hgo_1 hret_1 => ?_) (fun s_1 hj_1 hc_2 => ?_)
  · refine b_letP (ea_cons ev_var (ea_cons (ev_modN ev_var ev_var (by first | omega | assumption | decide | exact ⟨by omega, by omega⟩)) ea_nil)) fun x_1 hx_1 => ?_
    exact b_next fun h => nx_wk (hgo_1 _ h) ⟨(.cons (.inl rfl) (.cons (.inl rfl) .nil)), rfl⟩
  · exact b_seq (b_ret (ev_abs ev_var) (fun h => h _))

theorem sc_Fractions_fraction : FnScope ["self", "num", "den", "shared"] ["self", "num", "den"] (defScope s_Fractions_fraction) := ⟨rfl, rfl, rfl, by decide +kernel, rfl, by decide +kernel, by decide +kernel⟩
def m_Fractions_fraction (a_self : Unit) (a_num : Int) (a_den : Int) : Option (Int × Int) :=
  (if (a_den = (0 : Int)) then
  none
  else
  bnd (m_gcd_pair a_num a_den) fun shared_1 =>
  bnd (if (a_den < (0 : Int)) then (-shared_1) else shared_1) fun shared_2 =>
  some ((Int.fdiv a_num shared_2), (Int.fdiv a_den shared_2)))
theorem fr_sh {n d s t : Int} (h1 : ¬ d = 0) (e1 : s = m_gcd_pair n d) (e2 : t = if d < 0 then -s else s) : t ≠ 0 ∧ t.natAbs = Int.gcd n d ∧ t.natAbs ≤ d.natAbs := by
  rw [gcd_pair_eq] at e1
  have hg : t.natAbs = Int.gcd n d := by
    rw [e2, e1]
    split <;> simp
  have h0 : Int.gcd n d ≠ 0 := fun z => h1 (Int.gcd_eq_zero_iff.mp z).2
  refine ⟨fun z => h0 (by rw [← hg, z]; rfl), hg, ?_⟩
  rw [hg]
  exact Nat.le_of_dvd (by omega) (by have := Int.gcd_dvd_right n d; exact Int.natAbs_dvd_natAbs.mpr this)
theorem fr_div {n d s t x : Int} (h1 : ¬ d = 0) (hp : Sz 9000 d) (e1 : s = m_gcd_pair n d) (e2 : t = if d < 0 then -s else s) : CDivZ x t := by
  obtain ⟨h2, _, h3⟩ := fr_sh h1 e1 e2
  exact sz_divZ (sz_le hp h3) h2


theorem ok_Fractions_fraction (T : Tx P K mg) : Mt P w K mg base 2 (He.ga K "Fractions") "fraction" (spO (fun a : Unit × Int × Int => [.val (y_Fractions K) a.1, .val yI a.2.1, .val yI a.2.2]) (fun a : Unit × Int × Int => Sz 9000 a.2.2) (yP yI yI) (.ref (He.ga K "ZeroError")) (fun a => m_Fractions_fraction a.1 a.2.1 a.2.2)) := by
  obtain ⟨f, fd, hm, FD⟩ := T.me_Fractions_fraction
  refine ⟨f, fd, ["self", "num", "den"], T.cl_Fractions, hm, ?_, FD.bindsN fun _ _ _ _ _ _ us hl => match us, hl with | [_, _, _], _ => rfl⟩
  refine TL.FunD.okC (N := ["self", "num", "den", "shared"]) FD sc_Fractions_fraction (lenO fun _ => rfl) fun cdv A outer s H E hr => ?_
  refine ⟨_, (pss_cons (ps_if (pt_cmpR op_eq (pv 2) pe_int (nomark _)) (pss_cons (ps_raise rfl (takes_of rfl rfl rfl rfl) (pmk_own0 PySem.F.excBase_ValueError T.x_ZeroError T.gc_ZeroError T.k_ZeroError (raises_own T.xb_ZeroError T.xt_ZeroError) (by rfl))) pss_nil) pss_nil) (pss_cons (ps_set (i := 3) sc_Fractions_fraction.nd rfl (by first | exact .inl rfl | exact .inr rfl) (pe_cl (ok_gcd_pair T) hr (by decide) (by rfl) passL (pa_cons (pv 1) (pa_cons (pv 2) pa_nil)))) (pss_cons (ps_if (pt_cmpR op_lt (pv 2) pe_int (nomark _)) (pss_cons (ps_set (i := 3) sc_Fractions_fraction.nd rfl (by first | exact .inl rfl | exact .inr rfl) (pe_un un_neg (pv 3))) pss_nil) pss_nil) (pss_cons (ps_ret (pe_tup (pa_cons (pe_op op_fdivZ (pv 1) (pv 3)) (pa_cons (pe_op op_fdivZ (pv 2) (pv 3)) pa_nil)))) pss_nil)))), fun vs Q h => run_O (fun F a rt hpre => ?_) vs H Q h⟩
  show Bd _ _ _ _ _ _ (m_Fractions_fraction a.1 a.2.1 a.2.2)
  unfold m_Fractions_fraction
  refine b_seq (b_if (tt_d (ev_eq ev_var ev_int)) (fun h_1 => ?_) (fun h_1 => ?_))
  · exact b_seq (b_raise (fun h => (h).2 rfl))
  · refine b_fall ?_
    refine b_let (ev_call (a.2.1, a.2.2) (ea_cons ev_var (ea_cons ev_var ea_nil)) rfl trivial) fun shared_1 hshared_1 => ?_
    refine b_join (fun (shared_2 : Int) => (⟨[.val (y_Fractions K) a.1, .val yI a.2.1, .val yI a.2.2, .val yI shared_2], []⟩ : Lc)) (fun (shared_2 : Int) => ([] : Own)) (tt_d (ev_lt ev_var ev_int)) (x1 := (-shared_1)) (x2 := shared_1) (fun h_2 => (sx_set (ev_neg ev_var) (sx_wk sx_next ⟨(.cons (.inl rfl) (.cons (.inl rfl) (.cons (.inl rfl) (.cons (.inl rfl) .nil)))), rfl⟩))) (fun h_2 => (sx_wk sx_next ⟨(.cons (.inl rfl) (.cons (.inl rfl) (.cons (.inl rfl) (.cons (.inl rfl) .nil)))), rfl⟩)) fun shared_2 hshared_2 => ?_
    exact b_seq (b_ret (ev_pair (ea_cons (ev_divN ev_var ev_var (by exact fr_div h_1 hpre hshared_1 hshared_2)) (ea_cons (ev_divN ev_var ev_var (by exact fr_div h_1 hpre hshared_1 hshared_2)) ea_nil))) (fun h => h.1 _ rfl _))

theorem fraction_val (r : Unit) (n d : Int) (h : d ≠ 0) : m_Fractions_fraction r n d = some (fr (Rat.divInt n d)) := by
  unfold m_Fractions_fraction
  rw [if_neg h]
  simp only [bnd, gcd_pair_eq]
  rw [← fr_frac n d h]

theorem sc_Fractions_plus : FnScope ["self", "a", "b"] ["self", "a", "b"] (defScope s_Fractions_plus) := ⟨rfl, rfl, rfl, by decide +kernel, rfl, by decide +kernel, by decide +kernel⟩
def m_Fractions_plus (a_self : Unit) (a_a : (Int × Int)) (a_b : (Int × Int)) : Option (Int × Int) :=
  (m_Fractions_fraction a_self ((a_a.1 * a_b.2) + (a_b.1 * a_a.2)) (a_a.2 * a_b.2))

theorem ok_Fractions_plus (T : Tx P K mg) : Mt P w K mg base 3 (He.ga K "Fractions") "plus" (spO (fun a : Unit × (Int × Int) × (Int × Int) => [.val (y_Fractions K) a.1, .val (yP yI yI) a.2.1, .val (yP yI yI) a.2.2]) (fun a : Unit × (Int × Int) × (Int × Int) => Sz 4000 a.2.1.1 ∧ Sz 4000 a.2.1.2 ∧ Sz 4000 a.2.2.1 ∧ Sz 4000 a.2.2.2) (yP yI yI) (.ref (He.ga K "ZeroError")) (fun a => m_Fractions_plus a.1 a.2.1 a.2.2)) := by
  obtain ⟨f, fd, hm, FD⟩ := T.me_Fractions_plus
  refine ⟨f, fd, ["self", "a", "b"], T.cl_Fractions, hm, ?_, FD.bindsN fun _ _ _ _ _ _ us hl => match us, hl with | [_, _, _], _ => rfl⟩
  refine TL.FunD.okC (N := ["self", "a", "b"]) FD sc_Fractions_plus (lenO fun _ => rfl) fun cdv A outer s H E hr => ?_
  refine ⟨_, (pss_cons (ps_ret (pe_mth (ok_Fractions_fraction T) hr (by decide) (passes_call (takes_of rfl rfl rfl rfl) (fun _ _ _ _ z => z)) (pv 0) (pa_cons (pe_op op_add (pe_op op_mulW (pe_ix (ixT_K (K := K) rfl) (pv 1) pe_int (fun _ _ => rfl)) (pe_ix (ixT_K (K := K) rfl) (pv 2) pe_int (fun _ _ => rfl))) (pe_op op_mulW (pe_ix (ixT_K (K := K) rfl) (pv 2) pe_int (fun _ _ => rfl)) (pe_ix (ixT_K (K := K) rfl) (pv 1) pe_int (fun _ _ => rfl)))) (pa_cons (pe_op op_mulW (pe_ix (ixT_K (K := K) rfl) (pv 1) pe_int (fun _ _ => rfl)) (pe_ix (ixT_K (K := K) rfl) (pv 2) pe_int (fun _ _ => rfl))) pa_nil)))) pss_nil), fun vs Q h => run_O (fun F a rt hpre => ?_) vs H Q h⟩
  obtain ⟨h1, h2, h3, h4⟩ := hpre
  show Bd _ _ _ _ _ _ (m_Fractions_plus a.1 a.2.1 a.2.2)
  unfold m_Fractions_plus
  exact b_seq (b_retMO (m := "fraction") (a.1, ((a.2.1.1 * a.2.2.2) + (a.2.2.1 * a.2.1.2)), (a.2.1.2 * a.2.2.2)) ev_var nm_Fractions_fraction (ea_cons (ev_add (ev_mul (ev_fst (x := a.2.1) ev_var) (ev_snd (x := a.2.2) ev_var) (by first | exact sz_mulW ‹_› ‹_› | exact sz_big ‹_› ‹_›)) (ev_mul (ev_fst (x := a.2.2) ev_var) (ev_snd (x := a.2.1) ev_var) (by first | exact sz_mulW ‹_› ‹_› | exact sz_big ‹_› ‹_›))) (ea_cons (ev_mul (ev_snd (x := a.2.1) ev_var) (ev_snd (x := a.2.2) ev_var) (by first | exact sz_mulW ‹_› ‹_› | exact sz_big ‹_› ‹_›)) ea_nil)) rfl (by first | exact sz_mulW ‹_› ‹_› | exact sz_big ‹_› ‹_›) (fun h b e => (h).1 b e _) (fun h e => (h).2 e))

theorem sc_Fractions_minus : FnScope ["self", "a", "b"] ["self", "a", "b"] (defScope s_Fractions_minus) := ⟨rfl, rfl, rfl, by decide +kernel, rfl, by decide +kernel, by decide +kernel⟩
def m_Fractions_minus (a_self : Unit) (a_a : (Int × Int)) (a_b : (Int × Int)) : Option (Int × Int) :=
  (m_Fractions_fraction a_self ((a_a.1 * a_b.2) - (a_b.1 * a_a.2)) (a_a.2 * a_b.2))

theorem ok_Fractions_minus (T : Tx P K mg) : Mt P w K mg base 3 (He.ga K "Fractions") "minus" (spO (fun a : Unit × (Int × Int) × (Int × Int) => [.val (y_Fractions K) a.1, .val (yP yI yI) a.2.1, .val (yP yI yI) a.2.2]) (fun a : Unit × (Int × Int) × (Int × Int) => Sz 4000 a.2.1.1 ∧ Sz 4000 a.2.1.2 ∧ Sz 4000 a.2.2.1 ∧ Sz 4000 a.2.2.2) (yP yI yI) (.ref (He.ga K "ZeroError")) (fun a => m_Fractions_minus a.1 a.2.1 a.2.2)) := by
  obtain ⟨f, fd, hm, FD⟩ := T.me_Fractions_minus
  refine ⟨f, fd, ["self", "a", "b"], T.cl_Fractions, hm, ?_, FD.bindsN fun _ _ _ _ _ _ us hl => match us, hl with | [_, _, _], _ => rfl⟩
  refine TL.FunD.okC (N := ["self", "a", "b"]) FD sc_Fractions_minus (lenO fun _ => rfl) fun cdv A outer s H E hr => ?_
  refine ⟨_, (pss_cons (ps_ret (pe_mth (ok_Fractions_fraction T) hr (by decide) (passes_call (takes_of rfl rfl rfl rfl) (fun _ _ _ _ z => z)) (pv 0) (pa_cons (pe_op op_sub (pe_op op_mulW (pe_ix (ixT_K (K := K) rfl) (pv 1) pe_int (fun _ _ => rfl)) (pe_ix (ixT_K (K := K) rfl) (pv 2) pe_int (fun _ _ => rfl))) (pe_op op_mulW (pe_ix (ixT_K (K := K) rfl) (pv 2) pe_int (fun _ _ => rfl)) (pe_ix (ixT_K (K := K) rfl) (pv 1) pe_int (fun _ _ => rfl)))) (pa_cons (pe_op op_mulW (pe_ix (ixT_K (K := K) rfl) (pv 1) pe_int (fun _ _ => rfl)) (pe_ix (ixT_K (K := K) rfl) (pv 2) pe_int (fun _ _ => rfl))) pa_nil)))) pss_nil), fun vs Q h => run_O (fun F a rt hpre => ?_) vs H Q h⟩
  obtain ⟨h1, h2, h3, h4⟩ := hpre
  show Bd _ _ _ _ _ _ (m_Fractions_minus a.1 a.2.1 a.2.2)
  unfold m_Fractions_minus
  exact b_seq (b_retMO (m := "fraction") (a.1, ((a.2.1.1 * a.2.2.2) - (a.2.2.1 * a.2.1.2)), (a.2.1.2 * a.2.2.2)) ev_var nm_Fractions_fraction (ea_cons (ev_sub (ev_mul (ev_fst (x := a.2.1) ev_var) (ev_snd (x := a.2.2) ev_var) (by first | exact sz_mulW ‹_› ‹_› | exact sz_big ‹_› ‹_›)) (ev_mul (ev_fst (x := a.2.2) ev_var) (ev_snd (x := a.2.1) ev_var) (by first | exact sz_mulW ‹_› ‹_› | exact sz_big ‹_› ‹_›))) (ea_cons (ev_mul (ev_snd (x := a.2.1) ev_var) (ev_snd (x := a.2.2) ev_var) (by first | exact sz_mulW ‹_› ‹_› | exact sz_big ‹_› ‹_›)) ea_nil)) rfl (by first | exact sz_mulW ‹_› ‹_› | exact sz_big ‹_› ‹_›) (fun h b e => (h).1 b e _) (fun h e => (h).2 e))

theorem sc_Fractions_times : FnScope ["self", "a", "b"] ["self", "a", "b"] (defScope s_Fractions_times) := ⟨rfl, rfl, rfl, by decide +kernel, rfl, by decide +kernel, by decide +kernel⟩
def m_Fractions_times (a_self : Unit) (a_a : (Int × Int)) (a_b : (Int × Int)) : Option (Int × Int) :=
  (m_Fractions_fraction a_self (a_a.1 * a_b.1) (a_a.2 * a_b.2))

theorem ok_Fractions_times (T : Tx P K mg) : Mt P w K mg base 3 (He.ga K "Fractions") "times" (spO (fun a : Unit × (Int × Int) × (Int × Int) => [.val (y_Fractions K) a.1, .val (yP yI yI) a.2.1, .val (yP yI yI) a.2.2]) (fun a : Unit × (Int × Int) × (Int × Int) => Sz 4000 a.2.1.1 ∧ Sz 4000 a.2.1.2 ∧ Sz 4000 a.2.2.1 ∧ Sz 4000 a.2.2.2) (yP yI yI) (.ref (He.ga K "ZeroError")) (fun a => m_Fractions_times a.1 a.2.1 a.2.2)) := by
  obtain ⟨f, fd, hm, FD⟩ := T.me_Fractions_times
  refine ⟨f, fd, ["self", "a", "b"], T.cl_Fractions, hm, ?_, FD.bindsN fun _ _ _ _ _ _ us hl => match us, hl with | [_, _, _], _ => rfl⟩
  refine TL.FunD.okC (N := ["self", "a", "b"]) FD sc_Fractions_times (lenO fun _ => rfl) fun cdv A outer s H E hr => ?_
  refine ⟨_, (pss_cons (ps_ret (pe_mth (ok_Fractions_fraction T) hr (by decide) (passes_call (takes_of rfl rfl rfl rfl) (fun _ _ _ _ z => z)) (pv 0) (pa_cons (pe_op op_mulW (pe_ix (ixT_K (K := K) rfl) (pv 1) pe_int (fun _ _ => rfl)) (pe_ix (ixT_K (K := K) rfl) (pv 2) pe_int (fun _ _ => rfl))) (pa_cons (pe_op op_mulW (pe_ix (ixT_K (K := K) rfl) (pv 1) pe_int (fun _ _ => rfl)) (pe_ix (ixT_K (K := K) rfl) (pv 2) pe_int (fun _ _ => rfl))) pa_nil)))) pss_nil), fun vs Q h => run_O (fun F a rt hpre => ?_) vs H Q h⟩
  obtain ⟨h1, h2, h3, h4⟩ := hpre
  show Bd _ _ _ _ _ _ (m_Fractions_times a.1 a.2.1 a.2.2)
  unfold m_Fractions_times
  exact b_seq (b_retMO (m := "fraction") (a.1, (a.2.1.1 * a.2.2.1), (a.2.1.2 * a.2.2.2)) ev_var nm_Fractions_fraction (ea_cons (ev_mul (ev_fst (x := a.2.1) ev_var) (ev_fst (x := a.2.2) ev_var) (by first | exact sz_mulW ‹_› ‹_› | exact sz_big ‹_› ‹_›)) (ea_cons (ev_mul (ev_snd (x := a.2.1) ev_var) (ev_snd (x := a.2.2) ev_var) (by first | exact sz_mulW ‹_› ‹_› | exact sz_big ‹_› ‹_›)) ea_nil)) rfl (by first | exact sz_mulW ‹_› ‹_› | exact sz_big ‹_› ‹_›) (fun h b e => (h).1 b e _) (fun h e => (h).2 e))

theorem sc_Fractions_inv : FnScope ["self", "a"] ["self", "a"] (defScope s_Fractions_inv) := ⟨rfl, rfl, rfl, by decide +kernel, rfl, by decide +kernel, by decide +kernel⟩
def m_Fractions_inv (a_self : Unit) (a_a : (Int × Int)) : Option (Int × Int) :=
  (m_Fractions_fraction a_self a_a.2 a_a.1)

theorem ok_Fractions_inv (T : Tx P K mg) : Mt P w K mg base 3 (He.ga K "Fractions") "inv" (spO (fun a : Unit × (Int × Int) => [.val (y_Fractions K) a.1, .val (yP yI yI) a.2]) (fun a : Unit × (Int × Int) => Sz 4000 a.2.1 ∧ Sz 4000 a.2.2) (yP yI yI) (.ref (He.ga K "ZeroError")) (fun a => m_Fractions_inv a.1 a.2)) := by
  obtain ⟨f, fd, hm, FD⟩ := T.me_Fractions_inv
  refine ⟨f, fd, ["self", "a"], T.cl_Fractions, hm, ?_, FD.bindsN fun _ _ _ _ _ _ us hl => match us, hl with | [_, _], _ => rfl⟩
  refine TL.FunD.okC (N := ["self", "a"]) FD sc_Fractions_inv (lenO fun _ => rfl) fun cdv A outer s H E hr => ?_
  refine ⟨_, (pss_cons (ps_ret (pe_mth (ok_Fractions_fraction T) hr (by decide) (passes_call (takes_of rfl rfl rfl rfl) (fun _ _ _ _ z => z)) (pv 0) (pa_cons (pe_ix (ixT_K (K := K) rfl) (pv 1) pe_int (fun _ _ => rfl)) (pa_cons (pe_ix (ixT_K (K := K) rfl) (pv 1) pe_int (fun _ _ => rfl)) pa_nil)))) pss_nil), fun vs Q h => run_O (fun F a rt hpre => ?_) vs H Q h⟩
  show Bd _ _ _ _ _ _ (m_Fractions_inv a.1 a.2)
  unfold m_Fractions_inv
  exact b_seq (b_retMO (m := "fraction") (a.1, a.2.2, a.2.1) ev_var nm_Fractions_fraction (ea_cons (ev_snd (x := a.2) ev_var) (ea_cons (ev_fst (x := a.2) ev_var) ea_nil)) rfl (by exact sz_mono hpre.1 (by omega)) (fun h b e => (h).1 b e _) (fun h e => (h).2 e))

theorem sc_Fractions_negated : FnScope ["self", "a"] ["self", "a"] (defScope s_Fractions_negated) := ⟨rfl, rfl, rfl, by decide +kernel, rfl, by decide +kernel, by decide +kernel⟩
def m_Fractions_negated (a_self : Unit) (a_a : (Int × Int)) : (Int × Int) :=
  ((-a_a.1), a_a.2)

theorem ok_Fractions_negated (T : Tx P K mg) : Mt P w K mg base 1 (He.ga K "Fractions") "negated" (spF (fun a : Unit × (Int × Int) => [.val (y_Fractions K) a.1, .val (yP yI yI) a.2]) (fun _ : Unit × (Int × Int) => True) (yP yI yI) (fun a => m_Fractions_negated a.1 a.2)) := by
  obtain ⟨f, fd, hm, FD⟩ := T.me_Fractions_negated
  refine ⟨f, fd, ["self", "a"], T.cl_Fractions, hm, ?_, FD.bindsN fun _ _ _ _ _ _ us hl => match us, hl with | [_, _], _ => rfl⟩
  refine TL.FunD.okC (N := ["self", "a"]) FD sc_Fractions_negated (lenF fun _ => rfl) fun cdv A outer s H E hr => ?_
  refine ⟨_, (pss_cons (ps_ret (pe_tup (pa_cons (pe_un un_neg (pe_ix (ixT_K (K := K) rfl) (pv 1) pe_int (fun _ _ => rfl))) (pa_cons (pe_ix (ixT_K (K := K) rfl) (pv 1) pe_int (fun _ _ => rfl)) pa_nil)))) pss_nil), fun vs Q h => run_F (fun F a rt hpre => ?_) vs H Q E h⟩
  show Bd _ _ _ _ _ _ (m_Fractions_negated a.1 a.2)
  unfold m_Fractions_negated
  exact b_seq (b_ret (ev_pair (ea_cons (ev_neg (ev_fst (x := a.2) ev_var)) (ea_cons (ev_snd (x := a.2) ev_var) ea_nil))) (fun h => h _))

theorem sc_Fractions_is_zero : FnScope ["self", "a"] ["self", "a"] (defScope s_Fractions_is_zero) := ⟨rfl, rfl, rfl, by decide +kernel, rfl, by decide +kernel, by decide +kernel⟩
def m_Fractions_is_zero (a_self : Unit) (a_a : (Int × Int)) : Bool :=
  (decide (a_a.1 = (0 : Int)))

theorem ok_Fractions_is_zero (T : Tx P K mg) : Mt P w K mg base 1 (He.ga K "Fractions") "is_zero" (spF (fun a : Unit × (Int × Int) => [.val (y_Fractions K) a.1, .val (yP yI yI) a.2]) (fun _ : Unit × (Int × Int) => True) yB (fun a => m_Fractions_is_zero a.1 a.2)) := by
  obtain ⟨f, fd, hm, FD⟩ := T.me_Fractions_is_zero
  refine ⟨f, fd, ["self", "a"], T.cl_Fractions, hm, ?_, FD.bindsN fun _ _ _ _ _ _ us hl => match us, hl with | [_, _], _ => rfl⟩
  refine TL.FunD.okC (N := ["self", "a"]) FD sc_Fractions_is_zero (lenF fun _ => rfl) fun cdv A outer s H E hr => ?_
  refine ⟨_, (pss_cons (ps_ret (pe_cmpR op_eq (pe_ix (ixT_K (K := K) rfl) (pv 1) pe_int (fun _ _ => rfl)) pe_int (nomark _))) pss_nil), fun vs Q h => run_F (fun F a rt hpre => ?_) vs H Q E h⟩
  show Bd _ _ _ _ _ _ (m_Fractions_is_zero a.1 a.2)
  unfold m_Fractions_is_zero
  exact b_seq (b_ret (ev_eq (ev_fst (x := a.2) ev_var) ev_int) (fun h => h _))

theorem sc_Fractions_over : FnScope ["self", "a", "b"] ["self", "a", "b"] (defScope s_Fractions_over) := ⟨rfl, rfl, rfl, by decide +kernel, rfl, by decide +kernel, by decide +kernel⟩
def m_Fractions_over (a_self : Unit) (a_a : (Int × Int)) (a_b : (Int × Int)) : Option (Int × Int) :=
  (m_Fractions_fraction a_self (a_a.1 * a_b.2) (a_a.2 * a_b.1))

theorem ok_Fractions_over (T : Tx P K mg) : Mt P w K mg base 3 (He.ga K "Fractions") "over" (spO (fun a : Unit × (Int × Int) × (Int × Int) => [.val (y_Fractions K) a.1, .val (yP yI yI) a.2.1, .val (yP yI yI) a.2.2]) (fun a : Unit × (Int × Int) × (Int × Int) => Sz 4000 a.2.1.1 ∧ Sz 4000 a.2.1.2 ∧ Sz 4000 a.2.2.1 ∧ Sz 4000 a.2.2.2) (yP yI yI) (.ref (He.ga K "ZeroError")) (fun a => m_Fractions_over a.1 a.2.1 a.2.2)) := by
  obtain ⟨f, fd, hm, FD⟩ := T.me_Fractions_over
  refine ⟨f, fd, ["self", "a", "b"], T.cl_Fractions, hm, ?_, FD.bindsN fun _ _ _ _ _ _ us hl => match us, hl with | [_, _, _], _ => rfl⟩
  refine TL.FunD.okC (N := ["self", "a", "b"]) FD sc_Fractions_over (lenO fun _ => rfl) fun cdv A outer s H E hr => ?_
  refine ⟨_, (pss_cons (ps_ret (pe_mth (ok_Fractions_fraction T) hr (by decide) (passes_call (takes_of rfl rfl rfl rfl) (fun _ _ _ _ z => z)) (pv 0) (pa_cons (pe_op op_mulW (pe_ix (ixT_K (K := K) rfl) (pv 1) pe_int (fun _ _ => rfl)) (pe_ix (ixT_K (K := K) rfl) (pv 2) pe_int (fun _ _ => rfl))) (pa_cons (pe_op op_mulW (pe_ix (ixT_K (K := K) rfl) (pv 1) pe_int (fun _ _ => rfl)) (pe_ix (ixT_K (K := K) rfl) (pv 2) pe_int (fun _ _ => rfl))) pa_nil)))) pss_nil), fun vs Q h => run_O (fun F a rt hpre => ?_) vs H Q h⟩
  obtain ⟨h1, h2, h3, h4⟩ := hpre
  show Bd _ _ _ _ _ _ (m_Fractions_over a.1 a.2.1 a.2.2)
  unfold m_Fractions_over
  exact b_seq (b_retMO (m := "fraction") (a.1, (a.2.1.1 * a.2.2.2), (a.2.1.2 * a.2.2.1)) ev_var nm_Fractions_fraction (ea_cons (ev_mul (ev_fst (x := a.2.1) ev_var) (ev_snd (x := a.2.2) ev_var) (by first | exact sz_mulW ‹_› ‹_› | exact sz_big ‹_› ‹_›)) (ea_cons (ev_mul (ev_snd (x := a.2.1) ev_var) (ev_fst (x := a.2.2) ev_var) (by first | exact sz_mulW ‹_› ‹_› | exact sz_big ‹_› ‹_›)) ea_nil)) rfl (by first | exact sz_mulW ‹_› ‹_› | exact sz_big ‹_› ‹_›) (fun h b e => (h).1 b e _) (fun h e => (h).2 e))

theorem sc_dot : FnScope ["ring", "a", "b", "first"] ["ring", "a", "b"] (defScope s_dot) := ⟨rfl, rfl, rfl, by decide +kernel, rfl, by decide +kernel, by decide +kernel⟩
def m_dot {E : Type} [Lean.Grind.CommRing E] [DecidableEq E] (a_a : (E × E × E)) (a_b : (E × E × E)) : E :=
  bnd ((a_a.1 * a_b.1) + (a_a.2.1 * a_b.2.1)) fun first_1 =>
  (first_1 + (a_a.2.2 * a_b.2.2))

theorem ok_dot (T : Tx P K mg) : ClX P w K mg base 13 "dot" (fun i : RgB P w K mg base => (spF (fun a : (i.E × i.E × i.E) × (i.E × i.E × i.E) => [.val i.R.r (), .val (yLT3 i.R.t) a.1, .val (yLT3 i.R.t) a.2]) (fun a : (i.E × i.E × i.E) × (i.E × i.E × i.E) => i.R.m.b3 450 450 a.1 ∧ i.R.m.b3 450 450 a.2) i.R.t (fun a => m_dot a.1 a.2))) := by
  obtain ⟨f, fd, hg, FD⟩ := T.g_dot
  refine ⟨f, fd, ["ring", "a", "b"], fun i => ?_, hg, FD.kp, FD.bindsN fun _ _ _ _ _ _ us hl => match us, hl with | [_, _, _], _ => rfl⟩
  refine TL.FunD.okC (N := ["ring", "a", "b", "first"]) FD sc_dot (lenF fun _ => rfl) fun cdv A outer s H E hr => ?_
  refine ⟨_, (pss_cons (ps_set (i := 3) sc_dot.nd rfl (by first | exact .inl rfl | exact .inr rfl) (pe_mth i.R.plus hr (by decide) passL (pv 0) (pa_cons (pe_mth i.R.times hr (by decide) passL (pv 0) (pa_cons (pe_or (pe_ix (ixL_K (K := K) rfl) (pv 1) pe_int (fun _ _ => rfl)) (pe_ix (ixT_K (K := K) rfl) (pv 1) pe_int (fun _ _ => rfl))) (pa_cons (pe_or (pe_ix (ixL_K (K := K) rfl) (pv 2) pe_int (fun _ _ => rfl)) (pe_ix (ixT_K (K := K) rfl) (pv 2) pe_int (fun _ _ => rfl))) pa_nil))) (pa_cons (pe_mth i.R.times hr (by decide) passL (pv 0) (pa_cons (pe_or (pe_ix (ixL_K (K := K) rfl) (pv 1) pe_int (fun _ _ => rfl)) (pe_ix (ixT_K (K := K) rfl) (pv 1) pe_int (fun _ _ => rfl))) (pa_cons (pe_or (pe_ix (ixL_K (K := K) rfl) (pv 2) pe_int (fun _ _ => rfl)) (pe_ix (ixT_K (K := K) rfl) (pv 2) pe_int (fun _ _ => rfl))) pa_nil))) pa_nil)))) (pss_cons (ps_ret (pe_mth i.R.plus hr (by decide) passL (pv 0) (pa_cons (pv 3) (pa_cons (pe_mth i.R.times hr (by decide) passL (pv 0) (pa_cons (pe_or (pe_ix (ixL_K (K := K) rfl) (pv 1) pe_int (fun _ _ => rfl)) (pe_ix (ixT_K (K := K) rfl) (pv 1) pe_int (fun _ _ => rfl))) (pa_cons (pe_or (pe_ix (ixL_K (K := K) rfl) (pv 2) pe_int (fun _ _ => rfl)) (pe_ix (ixT_K (K := K) rfl) (pv 2) pe_int (fun _ _ => rfl))) pa_nil))) pa_nil)))) pss_nil)), fun vs Q h => run_F (fun F a rt hpre => ?_) vs H Q E h⟩
  obtain ⟨hp1, hp2⟩ := id hpre
  show Bd _ _ _ _ _ _ (m_dot a.1 a.2)
  unfold m_dot
  refine b_let (ev_methR (m := "plus") ((a.1.1 * a.2.1), (a.1.2.1 * a.2.2.1)) ev_var (by decide) (ea_cons (ev_methR (m := "times") (a.1.1, a.2.1) ev_var (by decide) (ea_cons (ev_two2 1 two_X (ev_h3a (x := a.1) ev_var) (ev_3a (x := a.1) ev_var)) (ea_cons (ev_two2 2 two_X (ev_h3a (x := a.2) ev_var) (ev_3a (x := a.2) ev_var)) ea_nil)) rfl (by get_elem_tactic_trivial)) (ea_cons (ev_methR (m := "times") (a.1.2.1, a.2.2.1) ev_var (by decide) (ea_cons (ev_two2 1 two_X (ev_h3b (x := a.1) ev_var) (ev_3b (x := a.1) ev_var)) (ea_cons (ev_two2 2 two_X (ev_h3b (x := a.2) ev_var) (ev_3b (x := a.2) ev_var)) ea_nil)) rfl (by get_elem_tactic_trivial)) ea_nil)) rfl (by get_elem_tactic_trivial)) fun first_1 hfirst_1 => ?_
  exact b_seq (b_ret (ev_methR (m := "plus") (first_1, (a.1.2.2 * a.2.2.2)) ev_var (by decide) (ea_cons ev_var (ea_cons (ev_methR (m := "times") (a.1.2.2, a.2.2.2) ev_var (by decide) (ea_cons (ev_two2 1 two_X (ev_h3c (x := a.1) ev_var) (ev_3c (x := a.1) ev_var)) (ea_cons (ev_two2 2 two_X (ev_h3c (x := a.2) ev_var) (ev_3c (x := a.2) ev_var)) ea_nil)) rfl (by get_elem_tactic_trivial)) ea_nil)) rfl (by get_elem_tactic_trivial)) (fun h => h _))

theorem bd_dot {E : Type} [Lean.Grind.CommRing E] [DecidableEq E] {m : Ms E} {n d n' d' : Nat} {a b : V3 E} (h : m.b3 n d a) (h' : m.b3 n' d' b) : m.bd (3 * (n + n' + d + d') + 2) (3 * (d + d')) (m_dot a b) := by
  unfold m_dot
  simp only [bnd]
  exact m.mono (m.add (m.add (m.mul h.1 h'.1) (m.mul h.2.1 h'.2.1)) (m.mul h.2.2 h'.2.2)) (by omega) (by omega)
local macro_rules | `(tactic| array_mem_dec) => `(tactic| first | ((with_reducible apply bd_dot) <;> array_mem_dec) | fail)

theorem sc_cross : FnScope ["ring", "a", "b"] ["ring", "a", "b"] (defScope s_cross) := ⟨rfl, rfl, rfl, by decide +kernel, rfl, by decide +kernel, by decide +kernel⟩
def m_cross {E : Type} [Lean.Grind.CommRing E] [DecidableEq E] (a_a : (E × E × E)) (a_b : (E × E × E)) : (E × E × E) :=
  (((a_a.2.1 * a_b.2.2) - (a_a.2.2 * a_b.2.1)), ((a_a.2.2 * a_b.1) - (a_a.1 * a_b.2.2)), ((a_a.1 * a_b.2.1) - (a_a.2.1 * a_b.1)))

theorem ok_cross (T : Tx P K mg) : ClX P w K mg base 13 "cross" (fun i : RgB P w K mg base => (spF (fun a : (i.E × i.E × i.E) × (i.E × i.E × i.E) => [.val i.R.r (), .val (yLT3 i.R.t) a.1, .val (yLT3 i.R.t) a.2]) (fun a : (i.E × i.E × i.E) × (i.E × i.E × i.E) => i.R.m.b3 700 700 a.1 ∧ i.R.m.b3 700 700 a.2) (y3 i.R.t i.R.t i.R.t) (fun a => m_cross a.1 a.2))) := by
  obtain ⟨f, fd, hg, FD⟩ := T.g_cross
  refine ⟨f, fd, ["ring", "a", "b"], fun i => ?_, hg, FD.kp, FD.bindsN fun _ _ _ _ _ _ us hl => match us, hl with | [_, _, _], _ => rfl⟩
  refine TL.FunD.okC (N := ["ring", "a", "b"]) FD sc_cross (lenF fun _ => rfl) fun cdv A outer s H E hr => ?_
  refine ⟨_, (pss_cons (ps_ret (pe_tup (pa_cons (pe_mth i.R.minus hr (by decide) passL (pv 0) (pa_cons (pe_mth i.R.times hr (by decide) passL (pv 0) (pa_cons (pe_or (pe_ix (ixL_K (K := K) rfl) (pv 1) pe_int (fun _ _ => rfl)) (pe_ix (ixT_K (K := K) rfl) (pv 1) pe_int (fun _ _ => rfl))) (pa_cons (pe_or (pe_ix (ixL_K (K := K) rfl) (pv 2) pe_int (fun _ _ => rfl)) (pe_ix (ixT_K (K := K) rfl) (pv 2) pe_int (fun _ _ => rfl))) pa_nil))) (pa_cons (pe_mth i.R.times hr (by decide) passL (pv 0) (pa_cons (pe_or (pe_ix (ixL_K (K := K) rfl) (pv 1) pe_int (fun _ _ => rfl)) (pe_ix (ixT_K (K := K) rfl) (pv 1) pe_int (fun _ _ => rfl))) (pa_cons (pe_or (pe_ix (ixL_K (K := K) rfl) (pv 2) pe_int (fun _ _ => rfl)) (pe_ix (ixT_K (K := K) rfl) (pv 2) pe_int (fun _ _ => rfl))) pa_nil))) pa_nil))) (pa_cons (pe_mth i.R.minus hr (by decide) passL (pv 0) (pa_cons (pe_mth i.R.times hr (by decide) passL (pv 0) (pa_cons (pe_or (pe_ix (ixL_K (K := K) rfl) (pv 1) pe_int (fun _ _ => rfl)) (pe_ix (ixT_K (K := K) rfl) (pv 1) pe_int (fun _ _ => rfl))) (pa_cons (pe_or (pe_ix (ixL_K (K := K) rfl) (pv 2) pe_int (fun _ _ => rfl)) (pe_ix (ixT_K (K := K) rfl) (pv 2) pe_int (fun _ _ => rfl))) pa_nil))) (pa_cons (pe_mth i.R.times hr (by decide) passL (pv 0) (pa_cons (pe_or (pe_ix (ixL_K (K := K) rfl) (pv 1) pe_int (fun _ _ => rfl)) (pe_ix (ixT_K (K := K) rfl) (pv 1) pe_int (fun _ _ => rfl))) (pa_cons (pe_or (pe_ix (ixL_K (K := K) rfl) (pv 2) pe_int (fun _ _ => rfl)) (pe_ix (ixT_K (K := K) rfl) (pv 2) pe_int (fun _ _ => rfl))) pa_nil))) pa_nil))) (pa_cons (pe_mth i.R.minus hr (by decide) passL (pv 0) (pa_cons (pe_mth i.R.times hr (by decide) passL (pv 0) (pa_cons (pe_or (pe_ix (ixL_K (K := K) rfl) (pv 1) pe_int (fun _ _ => rfl)) (pe_ix (ixT_K (K := K) rfl) (pv 1) pe_int (fun _ _ => rfl))) (pa_cons (pe_or (pe_ix (ixL_K (K := K) rfl) (pv 2) pe_int (fun _ _ => rfl)) (pe_ix (ixT_K (K := K) rfl) (pv 2) pe_int (fun _ _ => rfl))) pa_nil))) (pa_cons (pe_mth i.R.times hr (by decide) passL (pv 0) (pa_cons (pe_or (pe_ix (ixL_K (K := K) rfl) (pv 1) pe_int (fun _ _ => rfl)) (pe_ix (ixT_K (K := K) rfl) (pv 1) pe_int (fun _ _ => rfl))) (pa_cons (pe_or (pe_ix (ixL_K (K := K) rfl) (pv 2) pe_int (fun _ _ => rfl)) (pe_ix (ixT_K (K := K) rfl) (pv 2) pe_int (fun _ _ => rfl))) pa_nil))) pa_nil))) pa_nil))))) pss_nil), fun vs Q h => run_F (fun F a rt hpre => ?_) vs H Q E h⟩
  obtain ⟨hp1, hp2⟩ := id hpre
  show Bd _ _ _ _ _ _ (m_cross a.1 a.2)
  unfold m_cross
  exact b_seq (b_ret (ev_triple (ea_cons (ev_methR (m := "minus") ((a.1.2.1 * a.2.2.2), (a.1.2.2 * a.2.2.1)) ev_var (by decide) (ea_cons (ev_methR (m := "times") (a.1.2.1, a.2.2.2) ev_var (by decide) (ea_cons (ev_two2 1 two_X (ev_h3b (x := a.1) ev_var) (ev_3b (x := a.1) ev_var)) (ea_cons (ev_two2 2 two_X (ev_h3c (x := a.2) ev_var) (ev_3c (x := a.2) ev_var)) ea_nil)) rfl (by get_elem_tactic_trivial)) (ea_cons (ev_methR (m := "times") (a.1.2.2, a.2.2.1) ev_var (by decide) (ea_cons (ev_two2 1 two_X (ev_h3c (x := a.1) ev_var) (ev_3c (x := a.1) ev_var)) (ea_cons (ev_two2 2 two_X (ev_h3b (x := a.2) ev_var) (ev_3b (x := a.2) ev_var)) ea_nil)) rfl (by get_elem_tactic_trivial)) ea_nil)) rfl (by get_elem_tactic_trivial)) (ea_cons (ev_methR (m := "minus") ((a.1.2.2 * a.2.1), (a.1.1 * a.2.2.2)) ev_var (by decide) (ea_cons (ev_methR (m := "times") (a.1.2.2, a.2.1) ev_var (by decide) (ea_cons (ev_two2 1 two_X (ev_h3c (x := a.1) ev_var) (ev_3c (x := a.1) ev_var)) (ea_cons (ev_two2 2 two_X (ev_h3a (x := a.2) ev_var) (ev_3a (x := a.2) ev_var)) ea_nil)) rfl (by get_elem_tactic_trivial)) (ea_cons (ev_methR (m := "times") (a.1.1, a.2.2.2) ev_var (by decide) (ea_cons (ev_two2 1 two_X (ev_h3a (x := a.1) ev_var) (ev_3a (x := a.1) ev_var)) (ea_cons (ev_two2 2 two_X (ev_h3c (x := a.2) ev_var) (ev_3c (x := a.2) ev_var)) ea_nil)) rfl (by get_elem_tactic_trivial)) ea_nil)) rfl (by get_elem_tactic_trivial)) (ea_cons (ev_methR (m := "minus") ((a.1.1 * a.2.2.1), (a.1.2.1 * a.2.1)) ev_var (by decide) (ea_cons (ev_methR (m := "times") (a.1.1, a.2.2.1) ev_var (by decide) (ea_cons (ev_two2 1 two_X (ev_h3a (x := a.1) ev_var) (ev_3a (x := a.1) ev_var)) (ea_cons (ev_two2 2 two_X (ev_h3b (x := a.2) ev_var) (ev_3b (x := a.2) ev_var)) ea_nil)) rfl (by get_elem_tactic_trivial)) (ea_cons (ev_methR (m := "times") (a.1.2.1, a.2.1) ev_var (by decide) (ea_cons (ev_two2 1 two_X (ev_h3b (x := a.1) ev_var) (ev_3b (x := a.1) ev_var)) (ea_cons (ev_two2 2 two_X (ev_h3a (x := a.2) ev_var) (ev_3a (x := a.2) ev_var)) ea_nil)) rfl (by get_elem_tactic_trivial)) ea_nil)) rfl (by get_elem_tactic_trivial)) ea_nil)))) (fun h => h _))

theorem b3_cross {E : Type} [Lean.Grind.CommRing E] [DecidableEq E] {m : Ms E} {n d n' d' : Nat} {a b : V3 E} (h : m.b3 n d a) (h' : m.b3 n' d' b) : m.b3 (n + n' + d + d' + 1) (2 * (d + d')) (m_cross a b) := by
  unfold m_cross
  exact ⟨m.mono (m.sub (m.mul h.2.1 h'.2.2) (m.mul h.2.2 h'.2.1)) (by omega) (by omega), m.mono (m.sub (m.mul h.2.2 h'.1) (m.mul h.1 h'.2.2)) (by omega) (by omega), m.mono (m.sub (m.mul h.1 h'.2.1) (m.mul h.2.1 h'.1)) (by omega) (by omega)⟩
local macro_rules | `(tactic| array_mem_dec) => `(tactic| first | ((with_reducible apply b3_cross) <;> array_mem_dec) | fail)

theorem sc_bracket : FnScope ["ring", "a", "b", "c"] ["ring", "a", "b", "c"] (defScope s_bracket) := ⟨rfl, rfl, rfl, by decide +kernel, rfl, by decide +kernel, by decide +kernel⟩
def m_bracket {E : Type} [Lean.Grind.CommRing E] [DecidableEq E] (a_a : (E × E × E)) (a_b : (E × E × E)) (a_c : (E × E × E)) : E :=
  (m_dot a_a (m_cross a_b a_c))

theorem ok_bracket (T : Tx P K mg) : ClX P w K mg base 14 "bracket" (fun i : RgB P w K mg base => (spF (fun a : (i.E × i.E × i.E) × (i.E × i.E × i.E) × (i.E × i.E × i.E) => [.val i.R.r (), .val (yLT3 i.R.t) a.1, .val (yLT3 i.R.t) a.2.1, .val (yLT3 i.R.t) a.2.2]) (fun a : (i.E × i.E × i.E) × (i.E × i.E × i.E) × (i.E × i.E × i.E) => i.R.m.b3 240 240 a.1 ∧ i.R.m.b3 150 60 a.2.1 ∧ i.R.m.b3 150 60 a.2.2) i.R.t (fun a => m_bracket a.1 a.2.1 a.2.2))) := by
  obtain ⟨f, fd, hg, FD⟩ := T.g_bracket
  refine ⟨f, fd, ["ring", "a", "b", "c"], fun i => ?_, hg, FD.kp, FD.bindsN fun _ _ _ _ _ _ us hl => match us, hl with | [_, _, _, _], _ => rfl⟩
  refine TL.FunD.okC (N := ["ring", "a", "b", "c"]) FD sc_bracket (lenF fun _ => rfl) fun cdv A outer s H E hr => ?_
  refine ⟨_, (pss_cons (ps_ret (pe_cl ((ok_dot T).at i) hr (by decide) (by rfl) passL (pa_cons (pv 0) (pa_cons (pv 1) (pa_cons (pe_cl ((ok_cross T).at i) hr (by decide) (by rfl) passL (pa_cons (pv 0) (pa_cons (pv 2) (pa_cons (pv 3) pa_nil)))) pa_nil))))) pss_nil), fun vs Q h => run_F (fun F a rt hpre => ?_) vs H Q E h⟩
  obtain ⟨hp1, hp2, hp3⟩ := id hpre
  show Bd _ _ _ _ _ _ (m_bracket a.1 a.2.1 a.2.2)
  unfold m_bracket
  exact b_seq (b_ret (ev_call (a.1, (m_cross a.2.1 a.2.2)) (ea_cons ev_var (ea_cons ev_var (ea_cons (ev_cv (ev_call (a.2.1, a.2.2) (ea_cons ev_var (ea_cons ev_var (ea_cons ev_var ea_nil))) rfl (by get_elem_tactic_trivial)) (fun h => rp_3X ((fun h => h) h))) ea_nil))) rfl (by get_elem_tactic_trivial)) (fun h => h _))

theorem bd_bracket {E : Type} [Lean.Grind.CommRing E] [DecidableEq E] {m : Ms E} {n d n' d' n1 d1 : Nat} {a b c : V3 E} (h : m.b3 n d a) (h' : m.b3 n' d' b) (h1 : m.b3 n1 d1 c) : m.bd (3 * (n + (n' + n1 + d' + d1 + 1) + d + (2 * (d' + d1))) + 2) (3 * (d + 2 * (d' + d1))) (m_bracket a b c) := bd_dot h (b3_cross h' h1)
local macro_rules | `(tactic| array_mem_dec) => `(tactic| first | ((with_reducible apply bd_bracket) <;> array_mem_dec) | fail)

theorem sc_share : FnScope ["ring", "a", "b", "c", "o", "n", "of_b", "of_a", "at"] ["ring", "a", "b", "c", "o", "n"] (defScope s_share) := ⟨rfl, rfl, rfl, by decide +kernel, rfl, by decide +kernel, by decide +kernel⟩
def m_share {E : Type} [Lean.Grind.CommRing E] [DecidableEq E] (a_a : (E × E × E)) (a_b : (E × E × E)) (a_c : (E × E × E)) (a_o : (E × E × E)) (a_n : E) : (E × E × E) :=
  bnd (m_bracket a_a a_c a_o) fun of_b_1 =>
  bnd (a_n * (m_bracket a_c a_b a_o)) fun of_a_1 =>
  (ix (List.map (fun (at_1 : Int) => ((of_b_1 * (ix [a_b.1, a_b.2.1, a_b.2.2] at_1)) + (of_a_1 * (ix [a_a.1, a_a.2.1, a_a.2.2] at_1)))) (rng 0 (Int.toNat (3 : Int)))) 0, ix (List.map (fun (at_1 : Int) => ((of_b_1 * (ix [a_b.1, a_b.2.1, a_b.2.2] at_1)) + (of_a_1 * (ix [a_a.1, a_a.2.1, a_a.2.2] at_1)))) (rng 0 (Int.toNat (3 : Int)))) 1, ix (List.map (fun (at_1 : Int) => ((of_b_1 * (ix [a_b.1, a_b.2.1, a_b.2.2] at_1)) + (of_a_1 * (ix [a_a.1, a_a.2.1, a_a.2.2] at_1)))) (rng 0 (Int.toNat (3 : Int)))) 2)

theorem ok_share (T : Tx P K mg) : ClX P w K mg base 15 "share" (fun i : RgB P w K mg base => (spF (fun a : (i.E × i.E × i.E) × (i.E × i.E × i.E) × (i.E × i.E × i.E) × (i.E × i.E × i.E) × i.E => [.val i.R.r (), .val (yLT3 i.R.t) a.1, .val (yLT3 i.R.t) a.2.1, .val (yLT3 i.R.t) a.2.2.1, .val (yLT3 i.R.t) a.2.2.2.1, .val i.R.t a.2.2.2.2]) (fun a : (i.E × i.E × i.E) × (i.E × i.E × i.E) × (i.E × i.E × i.E) × (i.E × i.E × i.E) × i.E => i.R.m.b3 80 5 a.1 ∧ i.R.m.b3 80 5 a.2.1 ∧ i.R.m.b3 80 5 a.2.2.1 ∧ i.R.m.b3 80 5 a.2.2.2.1 ∧ i.R.m.bd 60 5 a.2.2.2.2) (y3 i.R.t i.R.t i.R.t) (fun a => m_share a.1 a.2.1 a.2.2.1 a.2.2.2.1 a.2.2.2.2))) := by
  obtain ⟨f, fd, hg, FD⟩ := T.g_share
  refine ⟨f, fd, ["ring", "a", "b", "c", "o", "n"], fun i => ?_, hg, FD.kp, FD.bindsN fun _ _ _ _ _ _ us hl => match us, hl with | [_, _, _, _, _, _], _ => rfl⟩
  refine TL.FunD.okC (N := ["ring", "a", "b", "c", "o", "n", "of_b", "of_a", "at"]) FD sc_share (lenF fun _ => rfl) fun cdv A outer s H E hr => ?_
  refine ⟨_, (pss_cons (ps_set (i := 6) sc_share.nd rfl (by first | exact .inl rfl | exact .inr rfl) (pe_cl ((ok_bracket T).at i) hr (by decide) (by rfl) passL (pa_cons (pv 0) (pa_cons (pv 1) (pa_cons (pv 3) (pa_cons (pv 4) pa_nil)))))) (pss_cons (ps_set (i := 7) sc_share.nd rfl (by first | exact .inl rfl | exact .inr rfl) (pe_mth i.R.times hr (by decide) passL (pv 0) (pa_cons (pv 5) (pa_cons (pe_cl ((ok_bracket T).at i) hr (by decide) (by rfl) passL (pa_cons (pv 0) (pa_cons (pv 3) (pa_cons (pv 2) (pa_cons (pv 4) pa_nil))))) pa_nil)))) (pss_cons (ps_ret (pe_callTy (call_tuple_K (K := K) rfl) (by rfl) T.b_tuple (by decide +kernel) (pa_cons (pe_lc (own := [("at", 8)]) (tt := tYes) rfl sc_share.nd (pi_range1 (by rfl) T.b_range (pa_cons pe_int pa_nil)) (by first | exact blkOk_by (N := ["ring", "a", "b", "c", "o", "n", "of_b", "of_a", "at"]) (sc := defScope s_share) (by decide +kernel) | exact blkOk_by rfl) (fun _ _ _ _ _ => (pg_name (i := 8) sc_share.nd (by rfl) (by first | exact .inl rfl | exact .inr rfl))) (fun _ _ _ _ _ => pts_nil) (fun _ _ _ _ _ => (pe_mth i.R.plus hr (by decide) passL (pv 0) (pa_cons (pe_mth i.R.times hr (by decide) passL (pv 0) (pa_cons (pv 6) (pa_cons (pe_or (pe_ix (ixL_K (K := K) rfl) (pv 2) (pv 8) (fun _ _ => rfl)) (pe_ix (ixT_K (K := K) rfl) (pv 2) (pv 8) (fun _ _ => rfl))) pa_nil))) (pa_cons (pe_mth i.R.times hr (by decide) passL (pv 0) (pa_cons (pv 7) (pa_cons (pe_or (pe_ix (ixL_K (K := K) rfl) (pv 1) (pv 8) (fun _ _ => rfl)) (pe_ix (ixT_K (K := K) rfl) (pv 1) (pv 8) (fun _ _ => rfl))) pa_nil))) pa_nil))))) pa_nil))) pss_nil))), fun vs Q h => run_F (fun F a rt hpre => ?_) vs H Q E h⟩
  obtain ⟨hp1, hp2, hp3, hp4, hp5⟩ := id hpre
  show Bd _ _ _ _ _ _ (m_share a.1 a.2.1 a.2.2.1 a.2.2.2.1 a.2.2.2.2)
  unfold m_share
  refine b_let (ev_call (a.1, a.2.2.1, a.2.2.2.1) (ea_cons ev_var (ea_cons ev_var (ea_cons ev_var (ea_cons ev_var ea_nil)))) rfl (by get_elem_tactic_trivial)) fun of_b_1 hof_b_1 => ?_
  refine b_let (ev_methR (m := "times") (a.2.2.2.2, (m_bracket a.2.2.1 a.2.1 a.2.2.2.1)) ev_var (by decide) (ea_cons ev_var (ea_cons (ev_call (a.2.2.1, a.2.1, a.2.2.2.1) (ea_cons ev_var (ea_cons ev_var (ea_cons ev_var (ea_cons ev_var ea_nil)))) rfl (by get_elem_tactic_trivial)) ea_nil)) rfl (by get_elem_tactic_trivial)) fun of_a_1 hof_a_1 => ?_
  exact b_seq (b_ret (ev_cv (ev_tupleL (ev_l (lc_map (fun (at_1 : Int) => ((of_b_1 * (ix [a.2.1.1, a.2.1.2.1, a.2.1.2.2] at_1)) + (of_a_1 * (ix [a.1.1, a.1.2.1, a.1.2.2] at_1)))) (iv_rng1 ev_int (by get_elem_tactic_trivial) (by get_elem_tactic_trivial)) (tg_name 8) (by decide) (by get_elem_tactic_trivial) (fun D gs at_1 hm_1 => (ev_methR (m := "plus") ((of_b_1 * (ix [a.2.1.1, a.2.1.2.1, a.2.1.2.2] at_1)), (of_a_1 * (ix [a.1.1, a.1.2.1, a.1.2.2] at_1))) ev_var (by decide) (ea_cons (ev_methR (m := "times") (of_b_1, (ix [a.2.1.1, a.2.1.2.1, a.2.1.2.2] at_1)) ev_var (by decide) (ea_cons ev_var (ea_cons (ev_two2 2 two_XL (ev_ixL (t := i.R.t) (xs := [a.2.1.1, a.2.1.2.1, a.2.1.2.2]) ev_var ev_var (by get_elem_tactic_trivial)) (ev_ixT (t := i.R.t) (xs := [a.2.1.1, a.2.1.2.1, a.2.1.2.2]) ev_var ev_var (by get_elem_tactic_trivial))) ea_nil)) rfl (by get_elem_tactic_trivial)) (ea_cons (ev_methR (m := "times") (of_a_1, (ix [a.1.1, a.1.2.1, a.1.2.2] at_1)) ev_var (by decide) (ea_cons ev_var (ea_cons (ev_two2 1 two_XL (ev_ixL (t := i.R.t) (xs := [a.1.1, a.1.2.1, a.1.2.2]) ev_var ev_var (by get_elem_tactic_trivial)) (ev_ixT (t := i.R.t) (xs := [a.1.1, a.1.2.1, a.1.2.2]) ev_var ev_var (by get_elem_tactic_trivial))) ea_nil)) rfl (by get_elem_tactic_trivial)) ea_nil)) rfl (by get_elem_tactic_trivial)))))) (fun h => (rp_T3 (by first | rfl | (get_elem_tactic_trivial))) ((fun h => h) h))) (fun h => h _))

theorem b3_share {E : Type} [Lean.Grind.CommRing E] [DecidableEq E] {m : Ms E} {n d k e : Nat} {a b c o : V3 E} {x : E} (ha : m.b3 n d a) (hb : m.b3 n d b) (hc : m.b3 n d c) (ho : m.b3 n d o) (hx : m.bd k e x) : m.b3 (10 * n + 37 * d + k + e + 6) (32 * d + e) (m_share a b c o x) := by
  have h1 := bd_bracket ha hc ho
  have h2 := bd_bracket hc hb ho
  have key : ∀ {p q : E}, m.bd n d p → m.bd n d q → m.bd (10 * n + 37 * d + k + e + 6) (32 * d + e) (m_bracket a c o * p + (x * m_bracket c b o) * q) := fun hp hq =>
    m.mono (m.add (m.mul h1 hp) (m.mul (m.mul hx h2) hq)) (by omega) (by omega)
  exact ⟨key hb.1 ha.1, key hb.2.1 ha.2.1, key hb.2.2 ha.2.2⟩
local macro_rules | `(tactic| array_mem_dec) => `(tactic| first | ((with_reducible apply b3_share) <;> array_mem_dec) | fail)

theorem sc_throw_pair : FnScope ["ring", "a", "b", "c", "d", "o", "first", "last"] ["ring", "a", "b", "c", "d", "o"] (defScope s_throw_pair) := ⟨rfl, rfl, rfl, by decide +kernel, rfl, by decide +kernel, by decide +kernel⟩
def m_throw_pair {E : Type} [Lean.Grind.CommRing E] [DecidableEq E] (a_a : (E × E × E)) (a_b : (E × E × E)) (a_c : (E × E × E)) (a_d : (E × E × E)) (a_o : (E × E × E)) : (E × E) :=
  bnd ((m_bracket a_a a_c a_o) * (m_bracket a_b a_d a_o)) fun first_1 =>
  bnd ((m_bracket a_a a_d a_o) * (m_bracket a_b a_c a_o)) fun last_1 =>
  (first_1, last_1)

theorem ok_throw_pair (T : Tx P K mg) : ClX P w K mg base 15 "throw_pair" (fun i : RgB P w K mg base => (spF (fun a : (i.E × i.E × i.E) × (i.E × i.E × i.E) × (i.E × i.E × i.E) × (i.E × i.E × i.E) × (i.E × i.E × i.E) => [.val i.R.r (), .val (yLT3 i.R.t) a.1, .val (yLT3 i.R.t) a.2.1, .val (yLT3 i.R.t) a.2.2.1, .val (yLT3 i.R.t) a.2.2.2.1, .val (yLT3 i.R.t) a.2.2.2.2]) (fun a : (i.E × i.E × i.E) × (i.E × i.E × i.E) × (i.E × i.E × i.E) × (i.E × i.E × i.E) × (i.E × i.E × i.E) => i.R.m.b3 140 5 a.1 ∧ i.R.m.b3 140 5 a.2.1 ∧ i.R.m.b3 140 5 a.2.2.1 ∧ i.R.m.b3 140 5 a.2.2.2.1 ∧ i.R.m.b3 140 5 a.2.2.2.2) (yP i.R.t i.R.t) (fun a => m_throw_pair a.1 a.2.1 a.2.2.1 a.2.2.2.1 a.2.2.2.2))) := by
  obtain ⟨f, fd, hg, FD⟩ := T.g_throw_pair
  refine ⟨f, fd, ["ring", "a", "b", "c", "d", "o"], fun i => ?_, hg, FD.kp, FD.bindsN fun _ _ _ _ _ _ us hl => match us, hl with | [_, _, _, _, _, _], _ => rfl⟩
  refine TL.FunD.okC (N := ["ring", "a", "b", "c", "d", "o", "first", "last"]) FD sc_throw_pair (lenF fun _ => rfl) fun cdv A outer s H E hr => ?_
  refine ⟨_, (pss_cons (ps_set (i := 6) sc_throw_pair.nd rfl (by first | exact .inl rfl | exact .inr rfl) (pe_mth i.R.times hr (by decide) passL (pv 0) (pa_cons (pe_cl ((ok_bracket T).at i) hr (by decide) (by rfl) passL (pa_cons (pv 0) (pa_cons (pv 1) (pa_cons (pv 3) (pa_cons (pv 5) pa_nil))))) (pa_cons (pe_cl ((ok_bracket T).at i) hr (by decide) (by rfl) passL (pa_cons (pv 0) (pa_cons (pv 2) (pa_cons (pv 4) (pa_cons (pv 5) pa_nil))))) pa_nil)))) (pss_cons (ps_set (i := 7) sc_throw_pair.nd rfl (by first | exact .inl rfl | exact .inr rfl) (pe_mth i.R.times hr (by decide) passL (pv 0) (pa_cons (pe_cl ((ok_bracket T).at i) hr (by decide) (by rfl) passL (pa_cons (pv 0) (pa_cons (pv 1) (pa_cons (pv 4) (pa_cons (pv 5) pa_nil))))) (pa_cons (pe_cl ((ok_bracket T).at i) hr (by decide) (by rfl) passL (pa_cons (pv 0) (pa_cons (pv 2) (pa_cons (pv 3) (pa_cons (pv 5) pa_nil))))) pa_nil)))) (pss_cons (ps_ret (pe_tup (pa_cons (pv 6) (pa_cons (pv 7) pa_nil)))) pss_nil))), fun vs Q h => run_F (fun F a rt hpre => ?_) vs H Q E h⟩
  obtain ⟨hp1, hp2, hp3, hp4, hp5⟩ := id hpre
  show Bd _ _ _ _ _ _ (m_throw_pair a.1 a.2.1 a.2.2.1 a.2.2.2.1 a.2.2.2.2)
  unfold m_throw_pair
  refine b_let (ev_methR (m := "times") ((m_bracket a.1 a.2.2.1 a.2.2.2.2), (m_bracket a.2.1 a.2.2.2.1 a.2.2.2.2)) ev_var (by decide) (ea_cons (ev_call (a.1, a.2.2.1, a.2.2.2.2) (ea_cons ev_var (ea_cons ev_var (ea_cons ev_var (ea_cons ev_var ea_nil)))) rfl (by get_elem_tactic_trivial)) (ea_cons (ev_call (a.2.1, a.2.2.2.1, a.2.2.2.2) (ea_cons ev_var (ea_cons ev_var (ea_cons ev_var (ea_cons ev_var ea_nil)))) rfl (by get_elem_tactic_trivial)) ea_nil)) rfl (by get_elem_tactic_trivial)) fun first_1 hfirst_1 => ?_
  refine b_let (ev_methR (m := "times") ((m_bracket a.1 a.2.2.2.1 a.2.2.2.2), (m_bracket a.2.1 a.2.2.1 a.2.2.2.2)) ev_var (by decide) (ea_cons (ev_call (a.1, a.2.2.2.1, a.2.2.2.2) (ea_cons ev_var (ea_cons ev_var (ea_cons ev_var (ea_cons ev_var ea_nil)))) rfl (by get_elem_tactic_trivial)) (ea_cons (ev_call (a.2.1, a.2.2.1, a.2.2.2.2) (ea_cons ev_var (ea_cons ev_var (ea_cons ev_var (ea_cons ev_var ea_nil)))) rfl (by get_elem_tactic_trivial)) ea_nil)) rfl (by get_elem_tactic_trivial)) fun last_1 hlast_1 => ?_
  exact b_seq (b_ret (ev_pair (ea_cons ev_var (ea_cons ev_var ea_nil))) (fun h => h _))

theorem bd_tp1 {E : Type} [Lean.Grind.CommRing E] [DecidableEq E] {M : Ms E} {n d : Nat} {a b c x o : V3 E} (ha : M.b3 n d a) (hb : M.b3 n d b) (hc : M.b3 n d c) (hx : M.b3 n d x) (ho : M.b3 n d o) : M.bd (18 * n + 42 * d + 10) (30 * d) (m_throw_pair a b c x o).1 := by
  unfold m_throw_pair
  simp only [bnd]
  exact M.mono (M.mul (bd_bracket ha hc ho) (bd_bracket hb hx ho)) (by omega) (by omega)
theorem bd_tp2 {E : Type} [Lean.Grind.CommRing E] [DecidableEq E] {M : Ms E} {n d : Nat} {a b c x o : V3 E} (ha : M.b3 n d a) (hb : M.b3 n d b) (hc : M.b3 n d c) (hx : M.b3 n d x) (ho : M.b3 n d o) : M.bd (18 * n + 42 * d + 10) (30 * d) (m_throw_pair a b c x o).2 := by
  unfold m_throw_pair
  simp only [bnd]
  exact M.mono (M.mul (bd_bracket ha hx ho) (bd_bracket hb hc ho)) (by omega) (by omega)
local macro_rules | `(tactic| array_mem_dec) => `(tactic| first | ((with_reducible apply bd_tp1) <;> array_mem_dec) | ((with_reducible apply bd_tp2) <;> array_mem_dec) | fail)

theorem sc_throw : FnScope ["field", "a", "b", "c", "d", "o", "first", "last"] ["field", "a", "b", "c", "d", "o"] (defScope s_throw) := ⟨rfl, rfl, rfl, by decide +kernel, rfl, by decide +kernel, by decide +kernel⟩
def m_throw {E : Type} [Lean.Grind.Field E] [DecidableEq E] (a_a : (E × E × E)) (a_b : (E × E × E)) (a_c : (E × E × E)) (a_d : (E × E × E)) (a_o : (E × E × E)) : (Unit ⊕ (List E)) :=
  bnd (m_throw_pair a_a a_b a_c a_d a_o) fun x_1 =>
  (if (¬ ((decide (x_1.2 = 0)) = true)) then
  (Sum.inr [(x_1.1 / x_1.2), (1 : E)])
  else
  (if ((decide (x_1.1 = 0)) = true) then
  (Sum.inl ())
  else
  (Sum.inr [(1 : E), (0 : E)])))

theorem ok_throw (T : Tx P K mg) : ClX P w K mg base 16 "throw" (fun i : FoB P w K mg base => (spF (fun a : (i.E × i.E × i.E) × (i.E × i.E × i.E) × (i.E × i.E × i.E) × (i.E × i.E × i.E) × (i.E × i.E × i.E) => [.val i.R.r (), .val (yLT3 i.R.t) a.1, .val (yLT3 i.R.t) a.2.1, .val (yLT3 i.R.t) a.2.2.1, .val (yLT3 i.R.t) a.2.2.2.1, .val (yLT3 i.R.t) a.2.2.2.2]) (fun a : (i.E × i.E × i.E) × (i.E × i.E × i.E) × (i.E × i.E × i.E) × (i.E × i.E × i.E) × (i.E × i.E × i.E) => i.R.m.b3 140 5 a.1 ∧ i.R.m.b3 140 5 a.2.1 ∧ i.R.m.b3 140 5 a.2.2.1 ∧ i.R.m.b3 140 5 a.2.2.2.1 ∧ i.R.m.b3 140 5 a.2.2.2.2) (ySum yN (yT i.R.t)) (fun a => m_throw a.1 a.2.1 a.2.2.1 a.2.2.2.1 a.2.2.2.2))) := by
  obtain ⟨f, fd, hg, FD⟩ := T.g_throw
  refine ⟨f, fd, ["field", "a", "b", "c", "d", "o"], fun i => ?_, hg, FD.kp, FD.bindsN fun _ _ _ _ _ _ us hl => match us, hl with | [_, _, _, _, _, _], _ => rfl⟩
  refine TL.FunD.okC (N := ["field", "a", "b", "c", "d", "o", "first", "last"]) FD sc_throw (lenF fun _ => rfl) fun cdv A outer s H E hr => ?_
  refine ⟨_, (pss_cons (ps_asg (pe_cl ((ok_throw_pair T).at i.rg) hr (by decide) (by rfl) passL (pa_cons (pv 0) (pa_cons (pv 1) (pa_cons (pv 2) (pa_cons (pv 3) (pa_cons (pv 4) (pa_cons (pv 5) pa_nil))))))) (pg_tupK (K := K) (n := 2) rfl (by rfl) (pgs_cons (pg_name (i := 6) sc_throw.nd (by rfl) (by first | exact .inl rfl | exact .inr rfl)) (pgs_cons (pg_name (i := 7) sc_throw.nd (by rfl) (by first | exact .inl rfl | exact .inr rfl)) pgs_nil)))) (pss_cons (ps_if (pt_not (pt_val (pe_mth i.R.is_zero hr (by decide) passL (pv 0) (pa_cons (pv 7) pa_nil)))) (pss_cons (ps_ret (pe_tup (pa_cons (pe_mth i.R.over hr (by decide) passL (pv 0) (pa_cons (pv 6) (pa_cons (pv 7) pa_nil))) (pa_cons (pe_fld (pv 0) rfl) pa_nil)))) pss_nil) pss_nil) (pss_cons (ps_if (pt_val (pe_mth i.R.is_zero hr (by decide) passL (pv 0) (pa_cons (pv 6) pa_nil))) (pss_cons (ps_ret pe_non) pss_nil) pss_nil) (pss_cons (ps_ret (pe_tup (pa_cons (pe_fld (pv 0) rfl) (pa_cons (pe_fld (pv 0) rfl) pa_nil)))) pss_nil)))), fun vs Q h => run_F (fun F a rt hpre => ?_) vs H Q E h⟩
  obtain ⟨hp1, hp2, hp3, hp4, hp5⟩ := id hpre
  show Bd _ _ _ _ _ _ (m_throw a.1 a.2.1 a.2.2.1 a.2.2.2.1 a.2.2.2.2)
  unfold m_throw
  refine b_letG (ev_call (a.1, a.2.1, a.2.2.1, a.2.2.2.1, a.2.2.2.2) (ea_cons ev_var (ea_cons ev_var (ea_cons ev_var (ea_cons ev_var (ea_cons ev_var (ea_cons ev_var ea_nil)))))) rfl (by get_elem_tactic_trivial)) (tg_pair (tg_name 6) (tg_name 7)) fun x_1 hx_1 => ?_
  refine b_seq (b_if (tt_not (tt_b (ev_methR (m := "is_zero") x_1.2 ev_var (by decide) (ea_cons ev_var ea_nil) rfl trivial))) (fun h_1 => ?_) (fun h_1 => ?_))
  · exact b_seq (b_ret (ev_inr (ev_tup (t := i.R.t) (ea_cons (ev_methR (m := "over") (x_1.1, x_1.2) ev_var (by decide) (ea_cons ev_var (ea_cons ev_var ea_nil)) rfl (by get_elem_tactic_trivial)) (ea_cons (ev_oneR ev_var) ea_nil)) rfl (lit_len 2 rfl (by decide)))) (fun h => h _))
  · refine b_fall ?_
    refine b_seq (b_if (tt_b (ev_methR (m := "is_zero") x_1.1 ev_var (by decide) (ea_cons ev_var ea_nil) rfl trivial)) (fun h_2 => ?_) (fun h_2 => ?_))
    · exact b_seq (b_ret (ev_inl ev_non) (fun h => h _))
    · refine b_fall ?_
      exact b_seq (b_ret (ev_inr (ev_tup (t := i.R.t) (ea_cons (ev_oneR ev_var) (ea_cons (ev_zeroR ev_var) ea_nil)) rfl (lit_len 2 rfl (by decide)))) (fun h => h _))

theorem sc_law_dot : FnScope ["own", "a", "b", "found", "x", "y"] ["own", "a", "b"] (defScope s_law_dot) := ⟨rfl, rfl, rfl, by decide +kernel, rfl, by decide +kernel, by decide +kernel⟩
def m_law_dot_g {A : Type} [Lean.Grind.CommRing A] [DecidableEq A] (iof : Int → A) (io : Int × Int × List (List Int)) (a_a : (A × A × A)) (a_b : (A × A × A)) : A :=
  bnd (0 : A) fun found_1 =>
  ((forL (fun (s_1 : A) x_1 =>
  bnd (s_1 + (x_1.1 * x_1.2)) fun found_2 =>
  .go found_2) (List.zip [a_a.1, a_a.2.1, a_a.2.2] [a_b.1, a_b.2.1, a_b.2.2]) found_1).out fun s_1 =>
  s_1)
theorem zip3_in {α β : Type} {a : α × α × α} {b : β × β × β} {x : α × β} (h : x ∈ List.zip [a.1, a.2.1, a.2.2] [b.1, b.2.1, b.2.2]) : (x.1 = a.1 ∧ x.2 = b.1) ∨ (x.1 = a.2.1 ∧ x.2 = b.2.1) ∨ (x.1 = a.2.2 ∧ x.2 = b.2.2) := by
  have h : x ∈ [(a.1, b.1), (a.2.1, b.2.1), (a.2.2, b.2.2)] := h
  simp only [List.mem_cons, List.not_mem_nil, or_false] at h
  rcases h with h | h | h <;> subst h <;> simp
theorem pre3 {α : Type} {a b c : α} {pre post : List α} {x : α} (e : [a, b, c] = pre ++ x :: post) : pre.length < 3 := by
  have := congrArg List.length e
  rw [List.length_append, List.length_cons] at this
  simp only [List.length_cons, List.length_nil] at this
  omega
theorem gd_step {A : Type} [Lean.Grind.CommRing A] {m : Ms A} {a b : V3 A} {pre post : List (A × A)} {x : A × A} {s : A} (ha : m.b3 900 0 a) (hb : m.b3 900 0 b) (e : List.zip [a.1, a.2.1, a.2.2] [b.1, b.2.1, b.2.2] = pre ++ x :: post) (hj : m.bd (1801 + pre.length) 0 s) :
    m.bd 3000 0 s ∧ m.bd 3000 0 (x.1 * x.2) ∧ (m.bd 3000 0 x.1 ∧ m.bd 3000 0 x.2) ∧ m.bd (1801 + (pre ++ [x]).length) 0 (s + x.1 * x.2) := by
  have hl := pre3 (a := (a.1, b.1)) (b := (a.2.1, b.2.1)) (c := (a.2.2, b.2.2)) e
  have hx := zip3_in (x := x) (a := a) (b := b) (by rw [e]; simp)
  have h1 : m.bd 900 0 x.1 ∧ m.bd 900 0 x.2 := by
    rcases hx with ⟨h1, h2⟩ | ⟨h1, h2⟩ | ⟨h1, h2⟩ <;> rw [h1, h2]
    · exact ⟨ha.1, hb.1⟩
    · exact ⟨ha.2.1, hb.2.1⟩
    · exact ⟨ha.2.2, hb.2.2⟩
  refine ⟨m.mono hj (by omega) (by omega), m.mono (m.mul h1.1 h1.2) (by omega) (by omega), ⟨m.mono h1.1 (by omega) (by omega), m.mono h1.2 (by omega) (by omega)⟩, ?_⟩
  refine m.mono (m.add hj (m.mul h1.1 h1.2)) ?_ (by omega)
  rw [List.length_append, List.length_singleton]
  omega


theorem ok_law_dot_g (T : Tx P K mg) : ClX P w K mg base 13 "_law_dot" (fun i : OgB P w K mg base => (spF (fun a : (i.A × i.A × i.A) × (i.A × i.A × i.A) => [.val (yH3 yI yI (yL (yL yI))) i.o, .val (yLT3 i.S.t) a.1, .val (yLT3 i.S.t) a.2]) (fun a : (i.A × i.A × i.A) × (i.A × i.A × i.A) => i.S.m.b3 900 0 a.1 ∧ i.S.m.b3 900 0 a.2) i.S.t (fun a => m_law_dot_g i.of i.o a.1 a.2))) := by
  obtain ⟨f, fd, hg, FD⟩ := T.g_law_dot
  refine ⟨f, fd, ["own", "a", "b"], fun i => ?_, hg, FD.kp, FD.bindsN fun _ _ _ _ _ _ us hl => match us, hl with | [_, _, _], _ => rfl⟩
  refine TL.FunD.okC (N := ["own", "a", "b", "found", "x", "y"]) FD sc_law_dot (lenF fun _ => rfl) fun cdv A outer s H E hr => ?_
  refine ⟨_, (pss_cons (ps_set (i := 3) sc_law_dot.nd rfl (by first | exact .inl rfl | exact .inr rfl) pe_int) (pss_cons (ps_for (passes_of rfl) rfl (pi_or (pi_or (pi_zip2 true true (by rfl) T.b_zip (pa_cons (pv 1) (pa_cons (pv 2) pa_nil))) (pi_zip2 true false (by rfl) T.b_zip (pa_cons (pv 1) (pa_cons (pv 2) pa_nil)))) (pi_or (pi_zip2 false true (by rfl) T.b_zip (pa_cons (pv 1) (pa_cons (pv 2) pa_nil))) (pi_zip2 false false (by rfl) T.b_zip (pa_cons (pv 1) (pa_cons (pv 2) pa_nil))))) (pg_tupK (K := K) (n := 2) rfl (by rfl) (pgs_cons (pg_name (i := 4) sc_law_dot.nd (by rfl) (by first | exact .inl rfl | exact .inr rfl)) (pgs_cons (pg_name (i := 5) sc_law_dot.nd (by rfl) (by first | exact .inl rfl | exact .inr rfl)) pgs_nil))) (pss_cons (ps_set (i := 3) sc_law_dot.nd rfl (by first | exact .inl rfl | exact .inr rfl) (pe_cl i.S.plus hr (by decide) (by rfl) passL (pa_cons (pe_ix (ixL_K (K := K) rfl) (pv 0) pe_int (fun _ _ => rfl)) (pa_cons (pv 3) (pa_cons (pe_cl i.S.times hr (by decide) (by rfl) passL (pa_cons (pv 0) (pa_cons (pv 4) (pa_cons (pv 5) pa_nil)))) pa_nil))))) pss_nil)) (pss_cons (ps_ret (pv 3)) pss_nil))), fun vs Q h => run_F (fun F a rt hpre => ?_) vs H Q E h⟩
  obtain ⟨hp1, hp2⟩ := id hpre
  show Bd _ _ _ _ _ _ (m_law_dot_g i.of i.o a.1 a.2)
  unfold m_law_dot_g
  refine b_let (ev_cv ev_int i.S.z0) fun found_1 hfound_1 => ?_
  refine b_for _ (fun (s_1 : i.A) => ([] : Own)) (fun (s_1 : i.A) => (⟨[.val (yH3 yI yI (yL (yL yI))) i.o, .val (yLT3 i.S.t) a.1, .val (yLT3 i.S.t) a.2, .val i.S.t s_1, .any, .any], []⟩ : Lc)) (fun pre s => i.S.m.bd (1801 + pre.length) 0 s) found_1 (iv_two2 1 two_XL (iv_two2 2 two_XL (iv_zip2 (t := i.S.t) (u := i.S.t) true true ev_var ev_var) (iv_zip2 (t := i.S.t) (u := i.S.t) true false ev_var ev_var)) (iv_two2 2 two_XL (iv_zip2 (t := i.S.t) (u := i.S.t) false true ev_var ev_var) (iv_zip2 (t := i.S.t) (u := i.S.t) false false ev_var ev_var))) (tg_pair (tg_name 4) (tg_name 5)) rfl ⟨(.cons (.inl rfl) (.cons (.inl rfl) (.cons (.inl rfl) (.cons (.inl rfl) (.cons (.inr rfl) (.cons (.inr rfl) .nil)))))), rfl⟩ (by rw [hfound_1]; exact i.S.m.mono i.S.m.zero (Nat.zero_le _) (Nat.le_refl _)) (fun pre x post s s' e hj h => by rw [← Stp.go.inj h]; exact (gd_step hp1 hp2 e hj).2.2.2) (fun gs_1 pre x_1 post s_1 he_1 hj_1 N B P' hgo_1 hret_1 => ?_) (fun s_1 hj_2 => ?_)
  · have hmx_1 : x_1 ∈ (List.zip [a.1.1, a.1.2.1, a.1.2.2] [a.2.1, a.2.2.1, a.2.2.2]) := by rw [he_1]; exact List.mem_append_right _ List.mem_cons_self
    refine b_let (ev_call (s_1, (x_1.1 * x_1.2)) (ea_cons (ev_h3a (x := i.o) ev_var) (ea_cons ev_var (ea_cons (ev_call (x_1.1, x_1.2) (ea_cons ev_var (ea_cons ev_var (ea_cons ev_var ea_nil))) rfl (by exact (gd_step hp1 hp2 he_1 hj_1).2.2.1)) ea_nil))) rfl (by exact ⟨(gd_step hp1 hp2 he_1 hj_1).1, (gd_step hp1 hp2 he_1 hj_1).2.1⟩)) fun found_2 hfound_2 => ?_
    exact b_next fun h => nx_wk (hgo_1 _ h) ⟨(.cons (.inl rfl) (.cons (.inl rfl) (.cons (.inl rfl) (.cons (.inl rfl) (.cons (.inr rfl) (.cons (.inr rfl) .nil)))))), rfl⟩
  · exact b_seq (b_ret ev_var (fun h => h _))

theorem g_ldot {A : Type} [Lean.Grind.CommRing A] [DecidableEq A] {f : Int → A} {o : Ow} {a b : V3 A} : m_law_dot_g f o a b = a.1 * b.1 + a.2.1 * b.2.1 + a.2.2 * b.2.2 := by
  show ((0 + a.1 * b.1) + a.2.1 * b.2.1) + a.2.2 * b.2.2 = _
  grind
theorem bd_ldot {A : Type} [Lean.Grind.CommRing A] [DecidableEq A] {f : Int → A} {o : Ow} {m : Ms A} {n k : Nat} {a b : V3 A} (h : m.b3 n 0 a) (h' : m.b3 k 0 b) : m.bd (n + k + 2) 0 (m_law_dot_g f o a b) := by
  rw [g_ldot]
  exact m.mono (m.add (m.add (m.mul h.1 h'.1) (m.mul h.2.1 h'.2.1)) (m.mul h.2.2 h'.2.2)) (by omega) (by omega)
local macro_rules | `(tactic| array_mem_dec) => `(tactic| first | ((with_reducible apply bd_ldot) <;> array_mem_dec) | fail)

theorem sc_law_cross : FnScope ["own", "a", "b", "found", "i", "j", "left", "right"] ["own", "a", "b"] (defScope s_law_cross) := ⟨rfl, rfl, rfl, by decide +kernel, rfl, by decide +kernel, by decide +kernel⟩
def m_law_cross_g {A : Type} [Lean.Grind.CommRing A] [DecidableEq A] (iof : Int → A) (io : Int × Int × List (List Int)) (a_a : (A × A × A)) (a_b : (A × A × A)) : (A × A × A) :=
  bnd ([] : List A) fun found_1 =>
  ((forL (fun (s_1 : List A) x_1 =>
  bnd ((ix [a_a.1, a_a.2.1, a_a.2.2] x_1.1) * (ix [a_b.1, a_b.2.1, a_b.2.2] x_1.2)) fun left_1 =>
  bnd ((ix [a_a.1, a_a.2.1, a_a.2.2] x_1.2) * (ix [a_b.1, a_b.2.1, a_b.2.2] x_1.1)) fun right_1 =>
  .go (s_1 ++ [(left_1 + (-right_1))])) [((1 : Int), (2 : Int)), ((2 : Int), (0 : Int)), ((0 : Int), (1 : Int))] found_1).out fun s_1 =>
  (ix s_1 0, ix s_1 1, ix s_1 2))
theorem gc_ix {x : Int × Int} (h : x ∈ [((1 : Int), (2 : Int)), (2, 0), (0, 1)]) {α : Type} {a b c : α} : Inb [a, b, c] x.1 ∧ Inb [a, b, c] x.2 := by
  simp only [List.mem_cons, List.not_mem_nil, or_false] at h
  unfold Inb
  simp only [List.length_cons, List.length_nil]
  rcases h with h | h | h <;> subst h <;> decide
theorem gc_len {α β : Type} {a b c : α} {pre post : List α} {x : α} {s : List β} (e : [a, b, c] = pre ++ x :: post) (hj : s.length = pre.length) : s.length < sizeLine := by
  have := pre3 e
  exact Nat.lt_of_lt_of_le (m := 3) (by omega) (by decide)


theorem ok_law_cross_g (T : Tx P K mg) : ClX P w K mg base 13 "_law_cross" (fun i : OgB P w K mg base => (spF (fun a : (i.A × i.A × i.A) × (i.A × i.A × i.A) => [.val (yH3 yI yI (yL (yL yI))) i.o, .val (yLT3 i.S.t) a.1, .val (yLT3 i.S.t) a.2]) (fun a : (i.A × i.A × i.A) × (i.A × i.A × i.A) => i.S.m.b3 1400 0 a.1 ∧ i.S.m.b3 1400 0 a.2) (y3 i.S.t i.S.t i.S.t) (fun a => m_law_cross_g i.of i.o a.1 a.2))) := by
  obtain ⟨f, fd, hg, FD⟩ := T.g_law_cross
  refine ⟨f, fd, ["own", "a", "b"], fun i => ?_, hg, FD.kp, FD.bindsN fun _ _ _ _ _ _ us hl => match us, hl with | [_, _, _], _ => rfl⟩
  refine TL.FunD.okC (N := ["own", "a", "b", "found", "i", "j", "left", "right"]) FD sc_law_cross (lenF fun _ => rfl) fun cdv A outer s H E hr => ?_
  refine ⟨_, (pss_cons (ps_set (i := 3) sc_law_cross.nd rfl (by first | exact .inl rfl | exact .inr rfl) (pe_lst pa_nil)) (pss_cons (ps_for (passes_of rfl) rfl (pi_listK (K := K) rfl (pe_lst (pa_cons (pe_tup (pa_cons pe_int (pa_cons pe_int pa_nil))) (pa_cons (pe_tup (pa_cons pe_int (pa_cons pe_int pa_nil))) (pa_cons (pe_tup (pa_cons pe_int (pa_cons pe_int pa_nil))) pa_nil))))) (pg_tupK (K := K) (n := 2) rfl (by rfl) (pgs_cons (pg_name (i := 4) sc_law_cross.nd (by rfl) (by first | exact .inl rfl | exact .inr rfl)) (pgs_cons (pg_name (i := 5) sc_law_cross.nd (by rfl) (by first | exact .inl rfl | exact .inr rfl)) pgs_nil))) (pss_cons (ps_set (i := 6) sc_law_cross.nd rfl (by first | exact .inl rfl | exact .inr rfl) (pe_cl i.S.times hr (by decide) (by rfl) passL (pa_cons (pv 0) (pa_cons (pe_or (pe_ix (ixL_K (K := K) rfl) (pv 1) (pv 4) (fun _ _ => rfl)) (pe_ix (ixT_K (K := K) rfl) (pv 1) (pv 4) (fun _ _ => rfl))) (pa_cons (pe_or (pe_ix (ixL_K (K := K) rfl) (pv 2) (pv 5) (fun _ _ => rfl)) (pe_ix (ixT_K (K := K) rfl) (pv 2) (pv 5) (fun _ _ => rfl))) pa_nil))))) (pss_cons (ps_set (i := 7) sc_law_cross.nd rfl (by first | exact .inl rfl | exact .inr rfl) (pe_cl i.S.times hr (by decide) (by rfl) passL (pa_cons (pv 0) (pa_cons (pe_or (pe_ix (ixL_K (K := K) rfl) (pv 1) (pv 5) (fun _ _ => rfl)) (pe_ix (ixT_K (K := K) rfl) (pv 1) (pv 5) (fun _ _ => rfl))) (pa_cons (pe_or (pe_ix (ixL_K (K := K) rfl) (pv 2) (pv 4) (fun _ _ => rfl)) (pe_ix (ixT_K (K := K) rfl) (pv 2) (pv 4) (fun _ _ => rfl))) pa_nil))))) (pss_cons (ps_expr (pe_bm PySem.F.plainAttrs_list PySem.F.slot_list_append PySem.F.type_list_append mt_append (pv 3) (pa_cons (pe_cl i.S.plus hr (by decide) (by rfl) passL (pa_cons (pe_ix (ixL_K (K := K) rfl) (pv 0) pe_int (fun _ _ => rfl)) (pa_cons (pv 6) (pa_cons (pe_cl i.S.minus hr (by decide) (by rfl) passL (pa_cons (pe_ix (ixL_K (K := K) rfl) (pv 0) pe_int (fun _ _ => rfl)) (pa_cons (pv 7) pa_nil))) pa_nil)))) pa_nil))) pss_nil)))) (pss_cons (ps_ret (pe_callTy (call_tuple_K (K := K) rfl) (by rfl) T.b_tuple (by decide +kernel) (pa_cons (pv 3) pa_nil))) pss_nil))), fun vs Q h => run_F (fun F a rt hpre => ?_) vs H Q E h⟩
  obtain ⟨hp1, hp2⟩ := id hpre
  show Bd _ _ _ _ _ _ (m_law_cross_g i.of i.o a.1 a.2)
  unfold m_law_cross_g
  refine b_letO (evl_lst (t := i.S.t) (xs := []) ea_nil rfl (Nat.zero_le _)) fun p_1 found_1 hfound_1 => ?_
  refine b_for _ (fun (s_1 : List i.A) => ([(p_1, cL i.S.t s_1)] : Own)) (fun (s_1 : List i.A) => (⟨[.val (yH3 yI yI (yL (yL yI))) i.o, .val (yLT3 i.S.t) a.1, .val (yLT3 i.S.t) a.2, .val (yV (.ref p_1)) (), .any, .any, .any, .any], []⟩ : Lc)) (fun pre s => s.length = pre.length) found_1 (iv_list (ev_l (evl_lst (t := (yP yI yI)) (xs := [((1 : Int), (2 : Int)), ((2 : Int), (0 : Int)), ((0 : Int), (1 : Int))]) (ea_cons (ev_pair (ea_cons ev_int (ea_cons ev_int ea_nil))) (ea_cons (ev_pair (ea_cons ev_int (ea_cons ev_int ea_nil))) (ea_cons (ev_pair (ea_cons ev_int (ea_cons ev_int ea_nil))) ea_nil))) rfl (lit_len 3 rfl (by decide))))) (tg_pair (tg_name 4) (tg_name 5)) rfl ⟨(.cons (.inl rfl) (.cons (.inl rfl) (.cons (.inl rfl) (.cons (.inl rfl) (.cons (.inr rfl) (.cons (.inr rfl) (.cons (.inr rfl) (.cons (.inr rfl) .nil)))))))), rfl⟩ (by rw [hfound_1]; rfl) (fun pre x post s s' e hj h => by rw [← Stp.go.inj h]; show (s ++ [_]).length = (pre ++ [x]).length; rw [List.length_append, List.length_append, hj]; rfl) (fun gs_1 pre x_1 post s_1 he_1 hj_1 N B P' hgo_1 hret_1 => ?_) (fun s_1 hj_2 => ?_)
  · have hmx_1 : x_1 ∈ [((1 : Int), (2 : Int)), ((2 : Int), (0 : Int)), ((0 : Int), (1 : Int))] := by rw [he_1]; exact List.mem_append_right _ List.mem_cons_self
    refine b_let (ev_call ((ix [a.1.1, a.1.2.1, a.1.2.2] x_1.1), (ix [a.2.1, a.2.2.1, a.2.2.2] x_1.2)) (ea_cons ev_var (ea_cons (ev_two2 1 two_XL (ev_ixL (t := i.S.t) (xs := [a.1.1, a.1.2.1, a.1.2.2]) ev_var ev_var (by first | exact (gc_ix hmx_1).1 | exact (gc_ix hmx_1).2)) (ev_ixT (t := i.S.t) (xs := [a.1.1, a.1.2.1, a.1.2.2]) ev_var ev_var (by first | exact (gc_ix hmx_1).1 | exact (gc_ix hmx_1).2))) (ea_cons (ev_two2 2 two_XL (ev_ixL (t := i.S.t) (xs := [a.2.1, a.2.2.1, a.2.2.2]) ev_var ev_var (by first | exact (gc_ix hmx_1).1 | exact (gc_ix hmx_1).2)) (ev_ixT (t := i.S.t) (xs := [a.2.1, a.2.2.1, a.2.2.2]) ev_var ev_var (by first | exact (gc_ix hmx_1).1 | exact (gc_ix hmx_1).2))) ea_nil))) rfl (by get_elem_tactic_trivial)) fun left_1 hleft_1 => ?_
    refine b_let (ev_call ((ix [a.1.1, a.1.2.1, a.1.2.2] x_1.2), (ix [a.2.1, a.2.2.1, a.2.2.2] x_1.1)) (ea_cons ev_var (ea_cons (ev_two2 1 two_XL (ev_ixL (t := i.S.t) (xs := [a.1.1, a.1.2.1, a.1.2.2]) ev_var ev_var (by first | exact (gc_ix hmx_1).1 | exact (gc_ix hmx_1).2)) (ev_ixT (t := i.S.t) (xs := [a.1.1, a.1.2.1, a.1.2.2]) ev_var ev_var (by first | exact (gc_ix hmx_1).1 | exact (gc_ix hmx_1).2))) (ea_cons (ev_two2 2 two_XL (ev_ixL (t := i.S.t) (xs := [a.2.1, a.2.2.1, a.2.2.2]) ev_var ev_var (by first | exact (gc_ix hmx_1).1 | exact (gc_ix hmx_1).2)) (ev_ixT (t := i.S.t) (xs := [a.2.1, a.2.2.1, a.2.2.2]) ev_var ev_var (by first | exact (gc_ix hmx_1).1 | exact (gc_ix hmx_1).2))) ea_nil))) rfl (by get_elem_tactic_trivial)) fun right_1 hright_1 => ?_
    refine b_drop (ev_append (t := i.S.t) (xs := s_1) 0 ev_var (ev_call (left_1, (-right_1)) (ea_cons (ev_h3a (x := i.o) ev_var) (ea_cons ev_var (ea_cons (ev_call right_1 (ea_cons (ev_h3a (x := i.o) ev_var) (ea_cons ev_var ea_nil)) rfl (by get_elem_tactic_trivial)) ea_nil))) rfl (by get_elem_tactic_trivial)) (by exact gc_len he_1 hj_1)) ?_
    exact b_next fun h => nx_wk (hgo_1 _ h) ⟨(.cons (.inl rfl) (.cons (.inl rfl) (.cons (.inl rfl) (.cons (.inl rfl) (.cons (.inr rfl) (.cons (.inr rfl) (.cons (.inr rfl) (.cons (.inr rfl) .nil)))))))), rfl⟩
  · exact b_seq (b_ret (ev_cv (ev_tupleO (t := i.S.t) (xs := s_1) 0 ev_var) (fun h => (rp_T3 (by first | rfl | (exact hj_2))) ((fun h => h) h))) (fun h => h _))

theorem g_lcross {A : Type} [Lean.Grind.CommRing A] [DecidableEq A] {f : Int → A} {o : Ow} {a b : V3 A} : m_law_cross_g f o a b = m_cross a b := by
  show (a.2.1 * b.2.2 + -(a.2.2 * b.2.1), a.2.2 * b.1 + -(a.1 * b.2.2), a.1 * b.2.1 + -(a.2.1 * b.1)) = _
  unfold m_cross
  refine Prod.ext ?_ (Prod.ext ?_ ?_) <;> grind
theorem b3_lcross {A : Type} [Lean.Grind.CommRing A] [DecidableEq A] {f : Int → A} {o : Ow} {m : Ms A} {n k : Nat} {a b : V3 A} (h : m.b3 n 0 a) (h' : m.b3 k 0 b) : m.b3 (n + k + 1) 0 (m_law_cross_g f o a b) := by
  rw [g_lcross]
  exact b3_mono (b3_cross h h') (by omega) (by omega)
local macro_rules | `(tactic| array_mem_dec) => `(tactic| first | ((with_reducible apply b3_lcross) <;> array_mem_dec) | fail)

theorem sc_law_bracket : FnScope ["own", "a", "b", "c"] ["own", "a", "b", "c"] (defScope s_law_bracket) := ⟨rfl, rfl, rfl, by decide +kernel, rfl, by decide +kernel, by decide +kernel⟩
def m_law_bracket_g {A : Type} [Lean.Grind.CommRing A] [DecidableEq A] (iof : Int → A) (io : Int × Int × List (List Int)) (a_a : (A × A × A)) (a_b : (A × A × A)) (a_c : (A × A × A)) : A :=
  (m_law_dot_g iof io a_a (m_law_cross_g iof io a_b a_c))

theorem ok_law_bracket_g (T : Tx P K mg) : ClX P w K mg base 14 "_law_bracket" (fun i : OgB P w K mg base => (spF (fun a : (i.A × i.A × i.A) × (i.A × i.A × i.A) × (i.A × i.A × i.A) => [.val (yH3 yI yI (yL (yL yI))) i.o, .val (yLT3 i.S.t) a.1, .val (yLT3 i.S.t) a.2.1, .val (yLT3 i.S.t) a.2.2]) (fun a : (i.A × i.A × i.A) × (i.A × i.A × i.A) × (i.A × i.A × i.A) => i.S.m.b3 900 0 a.1 ∧ i.S.m.b3 400 0 a.2.1 ∧ i.S.m.b3 400 0 a.2.2) i.S.t (fun a => m_law_bracket_g i.of i.o a.1 a.2.1 a.2.2))) := by
  obtain ⟨f, fd, hg, FD⟩ := T.g_law_bracket
  refine ⟨f, fd, ["own", "a", "b", "c"], fun i => ?_, hg, FD.kp, FD.bindsN fun _ _ _ _ _ _ us hl => match us, hl with | [_, _, _, _], _ => rfl⟩
  refine TL.FunD.okC (N := ["own", "a", "b", "c"]) FD sc_law_bracket (lenF fun _ => rfl) fun cdv A outer s H E hr => ?_
  refine ⟨_, (pss_cons (ps_ret (pe_cl ((ok_law_dot_g T).at i) hr (by decide) (by rfl) passL (pa_cons (pv 0) (pa_cons (pv 1) (pa_cons (pe_cl ((ok_law_cross_g T).at i) hr (by decide) (by rfl) passL (pa_cons (pv 0) (pa_cons (pv 2) (pa_cons (pv 3) pa_nil)))) pa_nil))))) pss_nil), fun vs Q h => run_F (fun F a rt hpre => ?_) vs H Q E h⟩
  obtain ⟨hp1, hp2, hp3⟩ := id hpre
  show Bd _ _ _ _ _ _ (m_law_bracket_g i.of i.o a.1 a.2.1 a.2.2)
  unfold m_law_bracket_g
  exact b_seq (b_ret (ev_call (a.1, (m_law_cross_g i.of i.o a.2.1 a.2.2)) (ea_cons ev_var (ea_cons ev_var (ea_cons (ev_cv (ev_call (a.2.1, a.2.2) (ea_cons ev_var (ea_cons ev_var (ea_cons ev_var ea_nil))) rfl (by get_elem_tactic_trivial)) (fun h => rp_3X ((fun h => h) h))) ea_nil))) rfl (by get_elem_tactic_trivial)) (fun h => h _))

theorem g_lbracket {A : Type} [Lean.Grind.CommRing A] [DecidableEq A] {f : Int → A} {o : Ow} {a b c : V3 A} : m_law_bracket_g f o a b c = m_bracket a b c := by
  unfold m_law_bracket_g
  rw [g_ldot, g_lcross]
  rfl
theorem bd_lbracket {A : Type} [Lean.Grind.CommRing A] [DecidableEq A] {f : Int → A} {o : Ow} {m : Ms A} {n k l : Nat} {a b c : V3 A} (h : m.b3 n 0 a) (h' : m.b3 k 0 b) (h2 : m.b3 l 0 c) : m.bd (n + (k + l + 1) + 2) 0 (m_law_bracket_g f o a b c) := by
  unfold m_law_bracket_g
  exact bd_ldot h (b3_lcross h' h2)
local macro_rules | `(tactic| array_mem_dec) => `(tactic| first | ((with_reducible apply bd_lbracket) <;> array_mem_dec) | fail)

theorem sc_law_unlike : FnScope ["own", "a", "b", "at", "k"] ["own", "a", "b"] (defScope s_law_unlike) := ⟨rfl, rfl, rfl, by decide +kernel, rfl, by decide +kernel, by decide +kernel⟩
def m_law_unlike_g {A : Type} [Lean.Grind.CommRing A] [DecidableEq A] (iof : Int → A) (io : Int × Int × List (List Int)) (a_a : (A × A × A)) (a_b : (A × A × A)) : (A × A × A) :=
  (if (¬ (m_law_cross_g iof io a_a a_b) = ((0 : A), (0 : A), (0 : A))) then
  a_b
  else
  bnd (ix (List.map (fun (k_1 : Int) => k_1) (List.filter (fun (k_1 : Int) => decide (¬ (ix [a_a.1, a_a.2.1, a_a.2.2] k_1) = (0 : A))) (rng 0 (Int.toNat (3 : Int))))) (0 : Int)) fun at_1 =>
  (ix (List.map (fun (z_1 : Int) => (iof z_1)) (List.map (fun (k_2 : Int) => (if (decide (k_2 = ((at_1 + (1 : Int)) % (3 : Int)))) = true then (1 : Int) else 0)) (rng 0 (Int.toNat (3 : Int))))) 0, ix (List.map (fun (z_1 : Int) => (iof z_1)) (List.map (fun (k_2 : Int) => (if (decide (k_2 = ((at_1 + (1 : Int)) % (3 : Int)))) = true then (1 : Int) else 0)) (rng 0 (Int.toNat (3 : Int))))) 1, ix (List.map (fun (z_1 : Int) => (iof z_1)) (List.map (fun (k_2 : Int) => (if (decide (k_2 = ((at_1 + (1 : Int)) % (3 : Int)))) = true then (1 : Int) else 0)) (rng 0 (Int.toNat (3 : Int))))) 2))
theorem gat_val {A : Type} [Lean.Grind.CommRing A] [DecidableEq A] {a : V3 A} (h : a ≠ (0, 0, 0)) : ix (List.map (fun (k_1 : Int) => k_1) (List.filter (fun (k_1 : Int) => decide (¬ (ix [a.1, a.2.1, a.2.2] k_1) = 0)) (rng 0 (Int.toNat (3 : Int))))) 0 = (if a.1 = 0 then (if a.2.1 = 0 then 2 else 1) else 0) := by
  obtain ⟨x, y, z⟩ := a
  have e : rng 0 (Int.toNat (3 : Int)) = [0, 1, 2] := rfl
  have e0 : ∀ x y z : A, ix [x, y, z] 0 = x := fun _ _ _ => rfl
  have e1 : ∀ x y z : A, ix [x, y, z] 1 = y := fun _ _ _ => rfl
  have e2 : ∀ x y z : A, ix [x, y, z] 2 = z := fun _ _ _ => rfl
  rw [e]
  by_cases hx : x = 0 <;> by_cases hy : y = 0 <;> by_cases hz : z = 0 <;> simp [List.filter, e0, e1, e2, hx, hy, hz] at h ⊢ <;> rfl
theorem gat_ne {A : Type} [Lean.Grind.CommRing A] [DecidableEq A] {a : V3 A} (h : a ≠ (0, 0, 0)) : List.map (fun (k_1 : Int) => k_1) (List.filter (fun (k_1 : Int) => decide (¬ (ix [a.1, a.2.1, a.2.2] k_1) = 0)) (rng 0 (Int.toNat (3 : Int)))) ≠ [] := by
  obtain ⟨x, y, z⟩ := a
  have e : rng 0 (Int.toNat (3 : Int)) = [0, 1, 2] := rfl
  have e0 : ∀ x y z : A, ix [x, y, z] 0 = x := fun _ _ _ => rfl
  have e1 : ∀ x y z : A, ix [x, y, z] 1 = y := fun _ _ _ => rfl
  have e2 : ∀ x y z : A, ix [x, y, z] 2 = z := fun _ _ _ => rfl
  rw [e]
  by_cases hx : x = 0 <;> by_cases hy : y = 0 <;> by_cases hz : z = 0 <;> simp [List.filter, e0, e1, e2, hx, hy, hz] at h ⊢
theorem unit_mem {α : Type} {p : α → Prop} [∀ k, Decidable (p k)] {xs : List α} {z : Int} (h : z ∈ List.map (fun k => if p k then (1 : Int) else 0) xs) : 0 ≤ z ∧ z < 2 := by
  obtain ⟨k, _, e⟩ := List.mem_map.mp h
  rw [← e]
  split <;> decide


theorem ok_law_unlike_g (T : Tx P K mg) : ClX P w K mg base 14 "_law_unlike" (fun i : OgB P w K mg base => (spF (fun a : (i.A × i.A × i.A) × (i.A × i.A × i.A) => [.val (yH3 yI yI (yL (yL yI))) i.o, .val (yLT3 i.S.t) a.1, .val (yH3 i.S.t i.S.t i.S.t) a.2]) (fun a : (i.A × i.A × i.A) × (i.A × i.A × i.A) => i.S.m.b3 400 0 a.1 ∧ i.S.m.b3 400 0 a.2 ∧ a.1 ≠ (0, 0, 0)) (yH3 i.S.t i.S.t i.S.t) (fun a => m_law_unlike_g i.of i.o a.1 a.2))) := by
  obtain ⟨f, fd, hg, FD⟩ := T.g_law_unlike
  refine ⟨f, fd, ["own", "a", "b"], fun i => ?_, hg, FD.kp, FD.bindsN fun _ _ _ _ _ _ us hl => match us, hl with | [_, _, _], _ => rfl⟩
  refine TL.FunD.okC (N := ["own", "a", "b", "at", "k"]) FD sc_law_unlike (lenF fun _ => rfl) fun cdv A outer s H E hr => ?_
  refine ⟨_, (pss_cons (ps_if (pt_cmpR (op_neK (K := K) rfl hr.units) (pe_cl ((ok_law_cross_g T).at i) hr (by decide) (by rfl) passL (pa_cons (pv 0) (pa_cons (pv 1) (pa_cons (pv 2) pa_nil)))) (pe_tup (pa_cons pe_int (pa_cons pe_int (pa_cons pe_int pa_nil)))) (nomark _)) (pss_cons (ps_ret (pv 2)) pss_nil) pss_nil) (pss_cons (ps_set (i := 3) sc_law_unlike.nd rfl (by first | exact .inl rfl | exact .inr rfl) (pe_ix (ixL_K (K := K) rfl) (pe_lc (own := [("k", 4)]) rfl sc_law_unlike.nd (pi_range1 (by rfl) T.b_range (pa_cons pe_int pa_nil)) (by first | exact blkOk_by (N := ["own", "a", "b", "at", "k"]) (sc := defScope s_law_unlike) (by decide +kernel) | exact blkOk_by rfl) (fun _ _ _ _ _ => (pg_name (i := 4) sc_law_unlike.nd (by rfl) (by first | exact .inl rfl | exact .inr rfl))) (fun _ _ _ _ _ => (pts_one (pt_cmpR (op_neK (K := K) rfl hr.units) (pe_or (pe_ix (ixL_K (K := K) rfl) (pv 1) (pv 4) (fun _ _ => rfl)) (pe_ix (ixT_K (K := K) rfl) (pv 1) (pv 4) (fun _ _ => rfl))) pe_int (nomark _)))) (fun _ _ _ _ _ => (pv 4))) pe_int (fun _ _ => rfl))) (pss_cons (ps_ret (pe_lc (own := [("k", 4)]) (tt := tYes) rfl sc_law_unlike.nd (pi_range1 (by rfl) T.b_range (pa_cons pe_int pa_nil)) (by first | exact blkOk_by (N := ["own", "a", "b", "at", "k"]) (sc := defScope s_law_unlike) (by decide +kernel) | exact blkOk_by rfl) (fun _ _ _ _ _ => (pg_name (i := 4) sc_law_unlike.nd (by rfl) (by first | exact .inl rfl | exact .inr rfl))) (fun _ _ _ _ _ => pts_nil) (fun _ _ _ _ _ => (pe_callTy call_int1 (by rfl) T.b_int (by decide +kernel) (pa_cons (pe_cmpR op_eq (pv 4) (pe_op op_mod (pe_callTy call_int1 (by rfl) T.b_int (by decide +kernel) (pa_cons (pe_op op_add (pv 3) pe_int) pa_nil)) pe_int) (nomark _)) pa_nil))))) pss_nil))), fun vs Q h => run_F (fun F a rt hpre => ?_) vs H Q E h⟩
  obtain ⟨hp1, hp2, hp3⟩ := id hpre
  show Bd _ _ _ _ _ _ (m_law_unlike_g i.of i.o a.1 a.2)
  unfold m_law_unlike_g
  refine b_seq (b_if (tt_n (ev_neD (ev_call (a.1, a.2) (ea_cons ev_var (ea_cons ev_var (ea_cons (ev_cv ev_var (fun h => rp_H3X ((fun h => h) h))) ea_nil))) rfl (by get_elem_tactic_trivial)) (ev_triple (ea_cons (ev_cv ev_int i.S.z0) (ea_cons (ev_cv ev_int i.S.z0) (ea_cons (ev_cv ev_int i.S.z0) ea_nil)))))) (fun h_1 => ?_) (fun h_1 => ?_))
  · exact b_seq (b_ret ev_var (fun h => h _))
  · refine b_fall ?_
    refine b_let (ev_ixL (ev_l (lc_filter (fun (k_1 : Int) => decide (¬ (ix [a.1.1, a.1.2.1, a.1.2.2] k_1) = (0 : i.A))) (fun (k_1 : Int) => k_1) (iv_rng1 ev_int (by get_elem_tactic_trivial) (by get_elem_tactic_trivial)) (tg_name 4) (by decide) (by get_elem_tactic_trivial) (fun D gs k_1 hm_1 => tt_iff (tt_n (ev_neD (ev_two2 1 two_XL (ev_ixL (t := i.S.t) (xs := [a.1.1, a.1.2.1, a.1.2.2]) ev_var ev_var (by have hq := mem_rng ‹_ ∈ rng _ _›; exact ⟨by simp only [List.length_cons, List.length_nil]; omega, by simp only [List.length_cons, List.length_nil]; omega⟩)) (ev_ixT (t := i.S.t) (xs := [a.1.1, a.1.2.1, a.1.2.2]) ev_var ev_var (by have hq := mem_rng ‹_ ∈ rng _ _›; exact ⟨by simp only [List.length_cons, List.length_nil]; omega, by simp only [List.length_cons, List.length_nil]; omega⟩))) (ev_cv ev_int i.S.z0))) (by simp)) (fun D gs k_1 hm_1 hp => ev_var))) ev_int (by exact inb0 (gat_ne hp3))) fun at_1 hat_1 => ?_
    exact b_seq (b_ret (ev_cv (ev_l (lc_map (fun (k_2 : Int) => (if (decide (k_2 = ((at_1 + (1 : Int)) % (3 : Int)))) = true then (1 : Int) else 0)) (iv_rng1 ev_int (by get_elem_tactic_trivial) (by get_elem_tactic_trivial)) (tg_name 4) (by decide) (by get_elem_tactic_trivial) (fun D gs k_2 hm_2 => (ev_intB (ev_eq ev_var (ev_mod (ev_intI (ev_add ev_var ev_int)) ev_int (by get_elem_tactic_trivial))))))) (fun h => (rp_LH3 (by first | rfl | (get_elem_tactic_trivial))) ((rp_L (f := fun (z_1 : Int) => (i.of z_1)) (fun z_1 hz_1 => (i.S.rof (by have hu := unit_mem ‹_›; have hq2 := i.S.q2; exact i.S.ok_of (by omega) (by omega))))) h))) (fun h => h _))

theorem g_unlike {A : Type} [Lean.Grind.CommRing A] [DecidableEq A] {f : Int → A} {o : Ow} {a b : V3 A} (f0 : f 0 = 0) (f1 : f 1 = 1) (h : a ≠ (0, 0, 0)) : m_law_unlike_g f o a b = (if m_cross a b ≠ (0, 0, 0) then b else (if a.1 = 0 then (if a.2.1 = 0 then (1, 0, 0) else (0, 0, 1)) else (0, 1, 0))) := by
  unfold m_law_unlike_g
  simp only [bnd]
  rw [gat_val h, g_lcross]
  split
  · rfl
  · split
    · split
      · show (f 1, f 0, f 0) = _; rw [f0, f1]
      · show (f 0, f 0, f 1) = _; rw [f0, f1]
    · show (f 0, f 1, f 0) = _; rw [f0, f1]
theorem b3_unit {A : Type} [Lean.Grind.CommRing A] {m : Ms A} {x y z : A} (hx : x = 0 ∨ x = 1) (hy : y = 0 ∨ y = 1) (hz : z = 0 ∨ z = 1) : m.b3 0 0 (x, y, z) := by
  refine ⟨?_, ?_, ?_⟩
  · rcases hx with h | h <;> subst h <;> first | exact m.zero | exact m.one
  · rcases hy with h | h <;> subst h <;> first | exact m.zero | exact m.one
  · rcases hz with h | h <;> subst h <;> first | exact m.zero | exact m.one
theorem b3_unlike {P : Program} {w : World} {K : PySem.W.Frag} {mg : Str → Option Value} {base : Heap} {i : OgB P w K mg base} {n : Nat} {a b : V3 i.A} (ha : a ≠ (0, 0, 0)) (hb : i.S.m.b3 n 0 b) : i.S.m.b3 n 0 (m_law_unlike_g i.of i.o a b) := by
  rw [g_unlike i.S.of0 i.S.of1 ha]
  split
  · exact hb
  · split
    · split
      · exact b3_mono (b3_unit (.inr rfl) (.inl rfl) (.inl rfl)) (Nat.zero_le _) (Nat.le_refl _)
      · exact b3_mono (b3_unit (.inl rfl) (.inl rfl) (.inr rfl)) (Nat.zero_le _) (Nat.le_refl _)
    · exact b3_mono (b3_unit (.inl rfl) (.inr rfl) (.inl rfl)) (Nat.zero_le _) (Nat.le_refl _)
theorem g_unlike_ne {A : Type} [Lean.Grind.CommRing A] [DecidableEq A] {f : Int → A} {o : Ow} {a b : V3 A} (f0 : f 0 = 0) (f1 : f 1 = 1) (h : a ≠ (0, 0, 0)) : m_cross a (m_law_unlike_g f o a b) ≠ (0, 0, 0) := by
  rw [g_unlike f0 f1 h]
  split
  · assumption
  · obtain ⟨x, y, z⟩ := a
    unfold m_cross
    intro q
    dsimp only at q h
    split at q
    · rename_i hx
      split at q
      · rename_i hy
        dsimp only at q
        have q2 := congrArg (fun v : V3 A => v.2.1) q
        dsimp only at q2
        exact h (by rw [hx, hy, show z = 0 by grind])
      · rename_i hy
        have q2 := congrArg (fun v : V3 A => v.1) q
        dsimp only at q2
        exact hy (by grind)
    · rename_i hx
      have q2 := congrArg (fun v : V3 A => v.2.2) q
      dsimp only at q2
      exact hx (by grind)

theorem sc_law_beside : FnScope ["line", "at", "k"] ["line"] (defScope s_law_beside) := ⟨rfl, rfl, rfl, by decide +kernel, rfl, by decide +kernel, by decide +kernel⟩
def m_law_beside_g {A : Type} [Lean.Grind.CommRing A] [DecidableEq A] (iof : Int → A) (io : Int × Int × List (List Int)) (a_line : (A × A × A)) : (A × A × A) :=
  bnd (ix (List.map (fun (k_1 : Int) => k_1) (List.filter (fun (k_1 : Int) => decide (¬ (ix [a_line.1, a_line.2.1, a_line.2.2] k_1) = (0 : A))) (rng 0 (Int.toNat (3 : Int))))) (0 : Int)) fun at_1 =>
  (ix (List.map (fun (z_1 : Int) => (iof z_1)) (List.map (fun (k_2 : Int) => (if (decide (k_2 = at_1)) = true then (1 : Int) else 0)) (rng 0 (Int.toNat (3 : Int))))) 0, ix (List.map (fun (z_1 : Int) => (iof z_1)) (List.map (fun (k_2 : Int) => (if (decide (k_2 = at_1)) = true then (1 : Int) else 0)) (rng 0 (Int.toNat (3 : Int))))) 1, ix (List.map (fun (z_1 : Int) => (iof z_1)) (List.map (fun (k_2 : Int) => (if (decide (k_2 = at_1)) = true then (1 : Int) else 0)) (rng 0 (Int.toNat (3 : Int))))) 2)

theorem ok_law_beside_g (T : Tx P K mg) : ClX P w K mg base 1 "_law_beside" (fun i : OgB P w K mg base => (spF (fun a : (i.A × i.A × i.A) => [.val (yLT3 i.S.t) a]) (fun a : (i.A × i.A × i.A) => a ≠ (0, 0, 0)) (yH3 i.S.t i.S.t i.S.t) (fun a => m_law_beside_g i.of i.o a))) := by
  obtain ⟨f, fd, hg, FD⟩ := T.g_law_beside
  refine ⟨f, fd, ["line"], fun i => ?_, hg, FD.kp, FD.bindsN fun _ _ _ _ _ _ us hl => match us, hl with | [_], _ => rfl⟩
  refine TL.FunD.okC (N := ["line", "at", "k"]) FD sc_law_beside (lenF fun _ => rfl) fun cdv A outer s H E hr => ?_
  refine ⟨_, (pss_cons (ps_set (i := 1) sc_law_beside.nd rfl (by first | exact .inl rfl | exact .inr rfl) (pe_ix (ixL_K (K := K) rfl) (pe_lc (own := [("k", 2)]) rfl sc_law_beside.nd (pi_range1 (by rfl) T.b_range (pa_cons pe_int pa_nil)) (by first | exact blkOk_by (N := ["line", "at", "k"]) (sc := defScope s_law_beside) (by decide +kernel) | exact blkOk_by rfl) (fun _ _ _ _ _ => (pg_name (i := 2) sc_law_beside.nd (by rfl) (by first | exact .inl rfl | exact .inr rfl))) (fun _ _ _ _ _ => (pts_one (pt_cmpR (op_neK (K := K) rfl hr.units) (pe_or (pe_ix (ixL_K (K := K) rfl) (pv 0) (pv 2) (fun _ _ => rfl)) (pe_ix (ixT_K (K := K) rfl) (pv 0) (pv 2) (fun _ _ => rfl))) pe_int (nomark _)))) (fun _ _ _ _ _ => (pv 2))) pe_int (fun _ _ => rfl))) (pss_cons (ps_ret (pe_lc (own := [("k", 2)]) (tt := tYes) rfl sc_law_beside.nd (pi_range1 (by rfl) T.b_range (pa_cons pe_int pa_nil)) (by first | exact blkOk_by (N := ["line", "at", "k"]) (sc := defScope s_law_beside) (by decide +kernel) | exact blkOk_by rfl) (fun _ _ _ _ _ => (pg_name (i := 2) sc_law_beside.nd (by rfl) (by first | exact .inl rfl | exact .inr rfl))) (fun _ _ _ _ _ => pts_nil) (fun _ _ _ _ _ => (pe_callTy call_int1 (by rfl) T.b_int (by decide +kernel) (pa_cons (pe_cmpR op_eq (pv 2) (pv 1) (nomark _)) pa_nil))))) pss_nil)), fun vs Q h => run_F (fun F a rt hpre => ?_) vs H Q E h⟩
  have hp1 := hpre
  show Bd _ _ _ _ _ _ (m_law_beside_g i.of i.o a)
  unfold m_law_beside_g
  refine b_let (ev_ixL (ev_l (lc_filter (fun (k_1 : Int) => decide (¬ (ix [a.1, a.2.1, a.2.2] k_1) = (0 : i.A))) (fun (k_1 : Int) => k_1) (iv_rng1 ev_int (by get_elem_tactic_trivial) (by get_elem_tactic_trivial)) (tg_name 2) (by decide) (by get_elem_tactic_trivial) (fun D gs k_1 hm_1 => tt_iff (tt_n (ev_neD (ev_two2 0 two_XL (ev_ixL (t := i.S.t) (xs := [a.1, a.2.1, a.2.2]) ev_var ev_var (by have hq := mem_rng ‹_ ∈ rng _ _›; exact ⟨by simp only [List.length_cons, List.length_nil]; omega, by simp only [List.length_cons, List.length_nil]; omega⟩)) (ev_ixT (t := i.S.t) (xs := [a.1, a.2.1, a.2.2]) ev_var ev_var (by have hq := mem_rng ‹_ ∈ rng _ _›; exact ⟨by simp only [List.length_cons, List.length_nil]; omega, by simp only [List.length_cons, List.length_nil]; omega⟩))) (ev_cv ev_int i.S.z0))) (by simp)) (fun D gs k_1 hm_1 hp => ev_var))) ev_int (by exact inb0 (gat_ne hp1))) fun at_1 hat_1 => ?_
  exact b_seq (b_ret (ev_cv (ev_l (lc_map (fun (k_2 : Int) => (if (decide (k_2 = at_1)) = true then (1 : Int) else 0)) (iv_rng1 ev_int (by get_elem_tactic_trivial) (by get_elem_tactic_trivial)) (tg_name 2) (by decide) (by get_elem_tactic_trivial) (fun D gs k_2 hm_2 => (ev_intB (ev_eq ev_var ev_var))))) (fun h => (rp_LH3 (by first | rfl | (get_elem_tactic_trivial))) ((rp_L (f := fun (z_1 : Int) => (i.of z_1)) (fun z_1 hz_1 => (i.S.rof (by have hu := unit_mem ‹_›; have hq2 := i.S.q2; exact i.S.ok_of (by omega) (by omega))))) h))) (fun h => h _))

theorem g_beside {A : Type} [Lean.Grind.CommRing A] [DecidableEq A] {f : Int → A} {o : Ow} {a : V3 A} (f0 : f 0 = 0) (f1 : f 1 = 1) (h : a ≠ (0, 0, 0)) : m_law_beside_g f o a = (if a.1 = 0 then (if a.2.1 = 0 then (0, 0, 1) else (0, 1, 0)) else (1, 0, 0)) := by
  unfold m_law_beside_g
  simp only [bnd]
  rw [gat_val h]
  split
  · split
    · show (f 0, f 0, f 1) = _; rw [f0, f1]
    · show (f 0, f 1, f 0) = _; rw [f0, f1]
  · show (f 1, f 0, f 0) = _; rw [f0, f1]
theorem b3_beside {A : Type} [Lean.Grind.CommRing A] [DecidableEq A] {f : Int → A} {o : Ow} {m : Ms A} {a : V3 A} (f0 : f 0 = 0) (f1 : f 1 = 1) (h : a ≠ (0, 0, 0)) : m.b3 0 0 (m_law_beside_g f o a) := by
  rw [g_beside f0 f1 h]
  split
  · split
    · exact b3_unit (.inl rfl) (.inl rfl) (.inr rfl)
    · exact b3_unit (.inl rfl) (.inr rfl) (.inl rfl)
  · exact b3_unit (.inr rfl) (.inl rfl) (.inl rfl)
theorem g_beside_dt {A : Type} [Lean.Grind.CommRing A] [DecidableEq A] {f : Int → A} {o : Ow} {a : V3 A} (f0 : f 0 = 0) (f1 : f 1 = 1) (h : a ≠ (0, 0, 0)) : (m_law_beside_g f o a).1 * a.1 + (m_law_beside_g f o a).2.1 * a.2.1 + (m_law_beside_g f o a).2.2 * a.2.2 ≠ 0 := by
  rw [g_beside f0 f1 h]
  obtain ⟨x, y, z⟩ := a
  dsimp only
  split
  · rename_i hx
    split
    · rename_i hy
      intro q
      dsimp only at q
      exact h (by rw [hx, hy, show z = 0 by grind])
    · rename_i hy
      intro q
      dsimp only at q
      exact hy (by grind)
  · rename_i hx
    intro q
    dsimp only at q
    exact hx (by grind)

theorem sc_law_mix : FnScope ["own", "weights", "vectors", "found", "n", "v", "part", "x", "y"] ["own", "weights", "vectors"] (defScope s_law_mix) := ⟨rfl, rfl, rfl, by decide +kernel, rfl, by decide +kernel, by decide +kernel⟩
def m_law_mix_g {A : Type} [Lean.Grind.CommRing A] [DecidableEq A] (iof : Int → A) (io : Int × Int × List (List Int)) (a_weights : (List A)) (a_vectors : (List (A × A × A))) : (A × A × A) :=
  bnd ((0 : A), (0 : A), (0 : A)) fun found_1 =>
  ((forL (fun (s_1 : (A × A × A)) x_1 =>
  bnd (ix (List.map (fun (x_2 : A) => (x_1.1 * x_2)) [x_1.2.1, x_1.2.2.1, x_1.2.2.2]) 0, ix (List.map (fun (x_2 : A) => (x_1.1 * x_2)) [x_1.2.1, x_1.2.2.1, x_1.2.2.2]) 1, ix (List.map (fun (x_2 : A) => (x_1.1 * x_2)) [x_1.2.1, x_1.2.2.1, x_1.2.2.2]) 2) fun part_1 =>
  bnd (ix (List.map (fun (x_3 : (A × A)) => (x_3.1 + x_3.2)) (List.zip [s_1.1, s_1.2.1, s_1.2.2] [part_1.1, part_1.2.1, part_1.2.2])) 0, ix (List.map (fun (x_3 : (A × A)) => (x_3.1 + x_3.2)) (List.zip [s_1.1, s_1.2.1, s_1.2.2] [part_1.1, part_1.2.1, part_1.2.2])) 1, ix (List.map (fun (x_3 : (A × A)) => (x_3.1 + x_3.2)) (List.zip [s_1.1, s_1.2.1, s_1.2.2] [part_1.1, part_1.2.1, part_1.2.2])) 2) fun found_2 =>
  .go found_2) (List.zip a_weights a_vectors) found_1).out fun s_1 =>
  s_1)
theorem gm_0 {A : Type} [Lean.Grind.CommRing A] {m : Ms A} {n : Nat} : m.b3 n 0 (0, 0, 0) := ⟨m.mono m.zero (Nat.zero_le _) (Nat.le_refl _), m.mono m.zero (Nat.zero_le _) (Nat.le_refl _), m.mono m.zero (Nat.zero_le _) (Nat.le_refl _)⟩
theorem gm_step {A : Type} [Lean.Grind.CommRing A] [DecidableEq A] {m : Ms A} {w : List A} {vs : List (V3 A)} {pre post : List (A × V3 A)} {x : A × V3 A} {s : V3 A} (h1 : ∀ x ∈ w, m.bd 400 0 x) (h2 : ∀ x ∈ vs, m.b3 400 0 x) (h3 : w.length ≤ 9) (e : List.zip w vs = pre ++ x :: post) (hj : m.b3 (801 + pre.length) 0 s) :
    (m.bd 3000 0 x.1 ∧ m.b3 3000 0 x.2) ∧ (m.b3 3000 0 s ∧ m.b3 3000 0 (x.1 * x.2.1, x.1 * x.2.2.1, x.1 * x.2.2.2)) ∧ m.b3 (801 + (pre ++ [x]).length) 0 (s.1 + x.1 * x.2.1, s.2.1 + x.1 * x.2.2.1, s.2.2 + x.1 * x.2.2.2) := by
  obtain ⟨p, v⟩ := x
  have hm : (p, v) ∈ List.zip w vs := by rw [e]; simp
  have hp := h1 _ (List.of_mem_zip hm).1
  have hv := h2 _ (List.of_mem_zip hm).2
  have hl : pre.length < 9 := by
    have := congrArg List.length e
    rw [List.length_zip, List.length_append, List.length_cons] at this
    omega
  refine ⟨⟨m.mono hp (by omega) (by omega), b3_mono hv (by omega) (by omega)⟩, ⟨b3_mono hj (by omega) (by omega), ⟨m.mono (m.mul hp hv.1) (by omega) (by omega), m.mono (m.mul hp hv.2.1) (by omega) (by omega), m.mono (m.mul hp hv.2.2) (by omega) (by omega)⟩⟩, ?_⟩
  rw [List.length_append, List.length_singleton]
  exact ⟨m.mono (m.add hj.1 (m.mul hp hv.1)) (by omega) (by omega), m.mono (m.add hj.2.1 (m.mul hp hv.2.1)) (by omega) (by omega), m.mono (m.add hj.2.2 (m.mul hp hv.2.2)) (by omega) (by omega)⟩
theorem gm_mem {A : Type} [Lean.Grind.CommRing A] {m : Ms A} {n : Nat} {v : V3 A} {x : A} (h : m.b3 n 0 v) (hx : x ∈ [v.1, v.2.1, v.2.2]) : m.bd n 0 x := bd_mem hx h
theorem gm_plus {A : Type} [Lean.Grind.CommRing A] {m : Ms A} {s v w : V3 A} {x : A × A} (h : m.b3 3000 0 s ∧ m.b3 3000 0 v) (e : w = v) (hx : x ∈ List.zip [s.1, s.2.1, s.2.2] [w.1, w.2.1, w.2.2]) : m.bd 3000 0 x.1 ∧ m.bd 3000 0 x.2 := by
  subst e
  rcases zip3_in hx with ⟨h1, h2⟩ | ⟨h1, h2⟩ | ⟨h1, h2⟩ <;> rw [h1, h2]
  · exact ⟨h.1.1, h.2.1⟩
  · exact ⟨h.1.2.1, h.2.2.1⟩
  · exact ⟨h.1.2.2, h.2.2.2⟩


theorem ok_law_mix_g (T : Tx P K mg) : ClX P w K mg base 13 "_law_mix" (fun i : OgB P w K mg base => (spF (fun a : (List i.A) × (List (i.A × i.A × i.A)) => [.val (yH3 yI yI (yL (yL yI))) i.o, .val (yL i.S.t) a.1, .val (yL (yLT3 i.S.t)) a.2]) (fun a : (List i.A) × (List (i.A × i.A × i.A)) => (∀ x ∈ a.1, i.S.m.bd 400 0 x) ∧ (∀ x ∈ a.2, i.S.m.b3 400 0 x) ∧ a.1.length ≤ 9) (yH3 i.S.t i.S.t i.S.t) (fun a => m_law_mix_g i.of i.o a.1 a.2))) := by
  obtain ⟨f, fd, hg, FD⟩ := T.g_law_mix
  refine ⟨f, fd, ["own", "weights", "vectors"], fun i => ?_, hg, FD.kp, FD.bindsN fun _ _ _ _ _ _ us hl => match us, hl with | [_, _, _], _ => rfl⟩
  refine TL.FunD.okC (N := ["own", "weights", "vectors", "found", "n", "v", "part", "x", "y"]) FD sc_law_mix (lenF fun _ => rfl) fun cdv A outer s H E hr => ?_
  refine ⟨_, (pss_cons (ps_set (i := 3) sc_law_mix.nd rfl (by first | exact .inl rfl | exact .inr rfl) (pe_lst (pa_cons pe_int (pa_cons pe_int (pa_cons pe_int pa_nil))))) (pss_cons (ps_for (passes_of rfl) rfl (pi_zip2 true true (by rfl) T.b_zip (pa_cons (pv 1) (pa_cons (pv 2) pa_nil))) (pg_tupK (K := K) (n := 2) rfl (by rfl) (pgs_cons (pg_name (i := 4) sc_law_mix.nd (by rfl) (by first | exact .inl rfl | exact .inr rfl)) (pgs_cons (pg_name (i := 5) sc_law_mix.nd (by rfl) (by first | exact .inl rfl | exact .inr rfl)) pgs_nil))) (pss_cons (ps_setLc (i := 6) (own := [("x", 7)]) (tt := tYes) rfl sc_law_mix.nd rfl rfl (sw_true rfl rfl rfl (by decide +kernel)) (pi_or (pi_listK (K := K) rfl (pv 5)) (pi_tupK (K := K) rfl (pv 5))) (by first | exact blkOk_by (N := ["own", "weights", "vectors", "found", "n", "v", "part", "x", "y"]) (sc := defScope s_law_mix) (by decide +kernel) | exact blkOk_by rfl) (fun _ _ _ _ _ => (pg_name (i := 7) sc_law_mix.nd (by rfl) (by first | exact .inl rfl | exact .inr rfl))) (fun _ _ _ _ _ => pts_nil) (fun _ _ _ _ _ => (pe_cl i.S.times hr (by decide) (by rfl) passL (pa_cons (pv 0) (pa_cons (pv 4) (pa_cons (pv 7) pa_nil)))))) (pss_cons (ps_setLc (i := 3) (own := [("x", 7), ("y", 8)]) (tt := tYes) rfl sc_law_mix.nd rfl rfl (sw_true rfl rfl rfl (by decide +kernel)) (pi_zip2 true true (by rfl) T.b_zip (pa_cons (pv 3) (pa_cons (pv 6) pa_nil))) (by first | exact blkOk_by (N := ["own", "weights", "vectors", "found", "n", "v", "part", "x", "y"]) (sc := defScope s_law_mix) (by decide +kernel) | exact blkOk_by rfl) (fun _ _ _ _ _ => (pg_tupK (K := K) (n := 2) rfl (by rfl) (pgs_cons (pg_name (i := 7) sc_law_mix.nd (by rfl) (by first | exact .inl rfl | exact .inr rfl)) (pgs_cons (pg_name (i := 8) sc_law_mix.nd (by rfl) (by first | exact .inl rfl | exact .inr rfl)) pgs_nil)))) (fun _ _ _ _ _ => pts_nil) (fun _ _ _ _ _ => (pe_cl i.S.plus hr (by decide) (by rfl) passL (pa_cons (pe_ix (ixL_K (K := K) rfl) (pv 0) pe_int (fun _ _ => rfl)) (pa_cons (pv 7) (pa_cons (pv 8) pa_nil)))))) pss_nil))) (pss_cons (ps_ret (pv 3)) pss_nil))), fun vs Q h => run_F (fun F a rt hpre => ?_) vs H Q E h⟩
  obtain ⟨hp1, hp2, hp3⟩ := id hpre
  show Bd _ _ _ _ _ _ (m_law_mix_g i.of i.o a.1 a.2)
  unfold m_law_mix_g
  refine b_let (ev_h3 (ea_cons (ev_cv ev_int i.S.z0) (ea_cons (ev_cv ev_int i.S.z0) (ea_cons (ev_cv ev_int i.S.z0) ea_nil)))) fun found_1 hfound_1 => ?_
  refine b_for _ (fun (s_1 : (i.A × i.A × i.A)) => ([] : Own)) (fun (s_1 : (i.A × i.A × i.A)) => (⟨[.val (yH3 yI yI (yL (yL yI))) i.o, .val (yL i.S.t) a.1, .val (yL (yLT3 i.S.t)) a.2, .val (yH3 i.S.t i.S.t i.S.t) s_1, .any, .any, .any, .any, .any], []⟩ : Lc)) (fun pre s => i.S.m.b3 (801 + pre.length) 0 s) found_1 (iv_zip2 (t := i.S.t) (u := (yLT3 i.S.t)) true true ev_var ev_var) (tg_pair (tg_name 4) (tg_name 5)) rfl ⟨(.cons (.inl rfl) (.cons (.inl rfl) (.cons (.inl rfl) (.cons (.inl rfl) (.cons (.inr rfl) (.cons (.inr rfl) (.cons (.inr rfl) (.cons (.inr rfl) (.cons (.inr rfl) .nil))))))))), rfl⟩ (by rw [hfound_1]; exact gm_0) (fun pre x post s s' e hj h => by rw [← Stp.go.inj h]; exact (gm_step hp1 hp2 hp3 e hj).2.2) (fun gs_1 pre x_1 post s_1 he_1 hj_1 N B P' hgo_1 hret_1 => ?_) (fun s_1 hj_2 => ?_)
  · have hmx_1 : x_1 ∈ (List.zip a.1 a.2) := by rw [he_1]; exact List.mem_append_right _ List.mem_cons_self
    refine b_let (ev_cv (ev_l (lc_map (fun (x_2 : i.A) => (x_1.1 * x_2)) (iv_two2 5 two_XL (iv_list ev_var) (iv_tup ev_var)) (tg_name 7) (by decide) (by get_elem_tactic_trivial) (fun D gs x_2 hm_1 => (ev_call (x_1.1, x_2) (ea_cons ev_var (ea_cons ev_var (ea_cons ev_var ea_nil))) rfl (by exact ⟨(gm_step hp1 hp2 hp3 he_1 hj_1).1.1, gm_mem (gm_step hp1 hp2 hp3 he_1 hj_1).1.2 ‹_›⟩))))) (fun h => (rp_LH3 (by first | rfl | (get_elem_tactic_trivial))) ((fun h => h) h))) fun part_1 hpart_1 => ?_
    refine b_let (ev_cv (ev_l (lc_map (fun (x_3 : (i.A × i.A)) => (x_3.1 + x_3.2)) (iv_zip2 (t := i.S.t) (u := i.S.t) true true (ev_cv ev_var (fun h => rp_H3L ((fun h => h) h))) (ev_cv ev_var (fun h => rp_H3L ((fun h => h) h)))) (tg_pair (tg_name 7) (tg_name 8)) (by decide) (by exact (by decide : 3 ≤ sizeLine)) (fun D gs x_3 hm_2 => (ev_call (x_3.1, x_3.2) (ea_cons (ev_h3a (x := i.o) ev_var) (ea_cons ev_var (ea_cons ev_var ea_nil))) rfl (by exact gm_plus (gm_step hp1 hp2 hp3 he_1 hj_1).2.1 hpart_1 ‹_›))))) (fun h => (rp_LH3 (by first | rfl | (get_elem_tactic_trivial))) ((fun h => h) h))) fun found_2 hfound_2 => ?_
    exact b_next fun h => nx_wk (hgo_1 _ h) ⟨(.cons (.inl rfl) (.cons (.inl rfl) (.cons (.inl rfl) (.cons (.inl rfl) (.cons (.inr rfl) (.cons (.inr rfl) (.cons (.inr rfl) (.cons (.inr rfl) (.cons (.inr rfl) .nil))))))))), rfl⟩
  · exact b_seq (b_ret ev_var (fun h => h _))

theorem gmix2 {A : Type} [Lean.Grind.CommRing A] [DecidableEq A] {f : Int → A} {o : Ow} {p q : A} {a b : V3 A} : m_law_mix_g f o [p, q] [a, b] = (p * a.1 + q * b.1, p * a.2.1 + q * b.2.1, p * a.2.2 + q * b.2.2) := by
  show (0 + p * a.1 + q * b.1, 0 + p * a.2.1 + q * b.2.1, 0 + p * a.2.2 + q * b.2.2) = _
  refine Prod.ext ?_ (Prod.ext ?_ ?_) <;> grind
theorem gmix1 {A : Type} [Lean.Grind.CommRing A] [DecidableEq A] {f : Int → A} {o : Ow} {p : A} {a : V3 A} : m_law_mix_g f o [p] [a] = (p * a.1, p * a.2.1, p * a.2.2) := by
  show (0 + p * a.1, 0 + p * a.2.1, 0 + p * a.2.2) = _
  refine Prod.ext ?_ (Prod.ext ?_ ?_) <;> grind
theorem gmix3 {A : Type} [Lean.Grind.CommRing A] [DecidableEq A] {f : Int → A} {o : Ow} {p q r : A} {a b c : V3 A} : m_law_mix_g f o [p, q, r] [a, b, c] = (p * a.1 + q * b.1 + r * c.1, p * a.2.1 + q * b.2.1 + r * c.2.1, p * a.2.2 + q * b.2.2 + r * c.2.2) := by
  show (0 + p * a.1 + q * b.1 + r * c.1, 0 + p * a.2.1 + q * b.2.1 + r * c.2.1, 0 + p * a.2.2 + q * b.2.2 + r * c.2.2) = _
  refine Prod.ext ?_ (Prod.ext ?_ ?_) <;> grind
theorem b3_mix1 {A : Type} [Lean.Grind.CommRing A] [DecidableEq A] {f : Int → A} {o : Ow} {m : Ms A} {n k : Nat} {p : A} {a : V3 A} (hp : m.bd n 0 p) (ha : m.b3 k 0 a) : m.b3 (n + k + 1) 0 (m_law_mix_g f o [p] [a]) := by
  rw [gmix1]
  exact ⟨m.mono (m.mul hp ha.1) (by omega) (by omega), m.mono (m.mul hp ha.2.1) (by omega) (by omega), m.mono (m.mul hp ha.2.2) (by omega) (by omega)⟩
theorem b3_mix2 {A : Type} [Lean.Grind.CommRing A] [DecidableEq A] {f : Int → A} {o : Ow} {m : Ms A} {n n2 k k2 : Nat} {p q : A} {a b : V3 A} (hp : m.bd n 0 p) (hq : m.bd n2 0 q) (ha : m.b3 k 0 a) (hb : m.b3 k2 0 b) : m.b3 (max (n + k) (n2 + k2) + 1) 0 (m_law_mix_g f o [p, q] [a, b]) := by
  rw [gmix2]
  exact ⟨m.mono (m.add (m.mul hp ha.1) (m.mul hq hb.1)) (by omega) (by omega), m.mono (m.add (m.mul hp ha.2.1) (m.mul hq hb.2.1)) (by omega) (by omega), m.mono (m.add (m.mul hp ha.2.2) (m.mul hq hb.2.2)) (by omega) (by omega)⟩
theorem b3_mix3 {A : Type} [Lean.Grind.CommRing A] [DecidableEq A] {f : Int → A} {o : Ow} {m : Ms A} {n n2 n3 k k2 k3 : Nat} {p q r : A} {a b c : V3 A} (hp : m.bd n 0 p) (hq : m.bd n2 0 q) (hr : m.bd n3 0 r) (ha : m.b3 k 0 a) (hb : m.b3 k2 0 b) (hc : m.b3 k3 0 c) : m.b3 (max (max (n + k) (n2 + k2)) (n3 + k3) + 2) 0 (m_law_mix_g f o [p, q, r] [a, b, c]) := by
  rw [gmix3]
  exact ⟨m.mono (m.add (m.add (m.mul hp ha.1) (m.mul hq hb.1)) (m.mul hr hc.1)) (by omega) (by omega), m.mono (m.add (m.add (m.mul hp ha.2.1) (m.mul hq hb.2.1)) (m.mul hr hc.2.1)) (by omega) (by omega), m.mono (m.add (m.add (m.mul hp ha.2.2) (m.mul hq hb.2.2)) (m.mul hr hc.2.2)) (by omega) (by omega)⟩
local macro_rules | `(tactic| array_mem_dec) => `(tactic| first | ((with_reducible apply b3_mix1) <;> array_mem_dec) | ((with_reducible apply b3_mix2) <;> array_mem_dec) | ((with_reducible apply b3_mix3) <;> array_mem_dec) | fail)

theorem sc_law_carried : FnScope ["own", "table", "v", "row"] ["own", "table", "v"] (defScope s_law_carried) := ⟨rfl, rfl, rfl, by decide +kernel, rfl, by decide +kernel, by decide +kernel⟩
def m_law_carried_g {A : Type} [Lean.Grind.CommRing A] [DecidableEq A] (iof : Int → A) (io : Int × Int × List (List Int)) (a_table : ((A × A × A) × (A × A × A) × (A × A × A))) (a_v : (A × A × A)) : (A × A × A) :=
  (ix (List.map (fun (row_1 : (A × A × A)) => (m_law_dot_g iof io row_1 a_v)) [a_table.1, a_table.2.1, a_table.2.2]) 0, ix (List.map (fun (row_1 : (A × A × A)) => (m_law_dot_g iof io row_1 a_v)) [a_table.1, a_table.2.1, a_table.2.2]) 1, ix (List.map (fun (row_1 : (A × A × A)) => (m_law_dot_g iof io row_1 a_v)) [a_table.1, a_table.2.1, a_table.2.2]) 2)
theorem gt_mem {A : Type} [Lean.Grind.CommRing A] {m : Ms A} {n d : Nat} {t : V3 A × V3 A × V3 A} {x : V3 A} (h : x ∈ [t.1, t.2.1, t.2.2]) (h1 : m.b3 n d t.1) (h2 : m.b3 n d t.2.1) (h3 : m.b3 n d t.2.2) : m.b3 n d x := by
  simp only [List.mem_cons, List.not_mem_nil, or_false] at h
  rcases h with h | h | h <;> rw [h] <;> assumption


theorem ok_law_carried_g (T : Tx P K mg) : ClX P w K mg base 14 "_law_carried" (fun i : OgB P w K mg base => (spF (fun a : ((i.A × i.A × i.A) × (i.A × i.A × i.A) × (i.A × i.A × i.A)) × (i.A × i.A × i.A) => [.val (yH3 yI yI (yL (yL yI))) i.o, .val (yH3 (yH3 i.S.t i.S.t i.S.t) (yH3 i.S.t i.S.t i.S.t) (yH3 i.S.t i.S.t i.S.t)) a.1, .val (yLT3 i.S.t) a.2]) (fun a : ((i.A × i.A × i.A) × (i.A × i.A × i.A) × (i.A × i.A × i.A)) × (i.A × i.A × i.A) => i.S.m.b3 900 0 a.1.1 ∧ i.S.m.b3 900 0 a.1.2.1 ∧ i.S.m.b3 900 0 a.1.2.2 ∧ i.S.m.b3 900 0 a.2) (yH3 i.S.t i.S.t i.S.t) (fun a => m_law_carried_g i.of i.o a.1 a.2))) := by
  obtain ⟨f, fd, hg, FD⟩ := T.g_law_carried
  refine ⟨f, fd, ["own", "table", "v"], fun i => ?_, hg, FD.kp, FD.bindsN fun _ _ _ _ _ _ us hl => match us, hl with | [_, _, _], _ => rfl⟩
  refine TL.FunD.okC (N := ["own", "table", "v", "row"]) FD sc_law_carried (lenF fun _ => rfl) fun cdv A outer s H E hr => ?_
  refine ⟨_, (pss_cons (ps_ret (pe_lc (own := [("row", 3)]) (tt := tYes) rfl sc_law_carried.nd (pi_listK (K := K) rfl (pv 1)) (by first | exact blkOk_by (N := ["own", "table", "v", "row"]) (sc := defScope s_law_carried) (by decide +kernel) | exact blkOk_by rfl) (fun _ _ _ _ _ => (pg_name (i := 3) sc_law_carried.nd (by rfl) (by first | exact .inl rfl | exact .inr rfl))) (fun _ _ _ _ _ => pts_nil) (fun _ _ _ _ _ => (pe_cl ((ok_law_dot_g T).at i) hr (by decide) (by rfl) passL (pa_cons (pv 0) (pa_cons (pv 3) (pa_cons (pv 2) pa_nil))))))) pss_nil), fun vs Q h => run_F (fun F a rt hpre => ?_) vs H Q E h⟩
  obtain ⟨hp1, hp2, hp3, hp4⟩ := id hpre
  show Bd _ _ _ _ _ _ (m_law_carried_g i.of i.o a.1 a.2)
  unfold m_law_carried_g
  exact b_seq (b_ret (ev_cv (ev_l (lc_map (fun (row_1 : (i.A × i.A × i.A)) => (m_law_dot_g i.of i.o row_1 a.2)) (iv_list (ev_cv ev_var (fun h => rp_H3L ((fun h => h) h)))) (tg_name 3) (by decide) (by get_elem_tactic_trivial) (fun D gs row_1 hm_1 => (ev_call (row_1, a.2) (ea_cons ev_var (ea_cons (ev_cv ev_var (fun h => rp_H3X ((fun h => h) h))) (ea_cons ev_var ea_nil))) rfl (by exact ⟨gt_mem ‹_› hp1 hp2 hp3, hp4⟩))))) (fun h => (rp_LH3 (by first | rfl | (get_elem_tactic_trivial))) ((fun h => h) h))) (fun h => h _))

theorem g_carried {A : Type} [Lean.Grind.CommRing A] [DecidableEq A] {f : Int → A} {o : Ow} {t : V3 A × V3 A × V3 A} {v : V3 A} : m_law_carried_g f o t v = (m_dot t.1 v, m_dot t.2.1 v, m_dot t.2.2 v) := by
  show (m_law_dot_g f o t.1 v, m_law_dot_g f o t.2.1 v, m_law_dot_g f o t.2.2 v) = _
  simp only [g_ldot]
  rfl
theorem b3_carried {A : Type} [Lean.Grind.CommRing A] [DecidableEq A] {f : Int → A} {o : Ow} {m : Ms A} {n k : Nat} {t : V3 A × V3 A × V3 A} {v : V3 A} (h1 : m.b3 n 0 t.1) (h2 : m.b3 n 0 t.2.1) (h3 : m.b3 n 0 t.2.2) (hv : m.b3 k 0 v) : m.b3 (n + k + 2) 0 (m_law_carried_g f o t v) := ⟨bd_ldot (f := f) (o := o) h1 hv, bd_ldot (f := f) (o := o) h2 hv, bd_ldot (f := f) (o := o) h3 hv⟩
local macro_rules | `(tactic| array_mem_dec) => `(tactic| first | ((with_reducible apply b3_carried) <;> array_mem_dec) | fail)

theorem sc_law_spanning : FnScope ["pool", "own", "r", "s", "line", "t"] ["pool", "own"] (defScope s_law_spanning) := ⟨rfl, rfl, rfl, by decide +kernel, rfl, by decide +kernel, by decide +kernel⟩
def m_law_spanning_g {A : Type} [Lean.Grind.CommRing A] [DecidableEq A] (iof : Int → A) (io : Int × Int × List (List Int)) (a_pool : List Int) : ((A × A × A) × (A × A × A) × (A × A × A)) × List Int :=
  bnd (m_law_vector a_pool io.2.1) fun yy_1 =>
  bnd (ix (List.map (fun (z_1 : Int) => (iof z_1)) yy_1.1) 0, ix (List.map (fun (z_1 : Int) => (iof z_1)) yy_1.1) 1, ix (List.map (fun (z_1 : Int) => (iof z_1)) yy_1.1) 2) fun r_1 =>
  bnd (m_law_vector yy_1.2 io.2.1) fun yy_2 =>
  bnd (m_law_unlike_g iof io r_1 (ix (List.map (fun (z_3 : Int) => (iof z_3)) yy_2.1) 0, ix (List.map (fun (z_3 : Int) => (iof z_3)) yy_2.1) 1, ix (List.map (fun (z_3 : Int) => (iof z_3)) yy_2.1) 2)) fun s_1 =>
  bnd (m_law_cross_g iof io r_1 s_1) fun line_1 =>
  bnd (m_law_vector yy_2.2 io.2.1) fun yy_3 =>
  bnd (ix (List.map (fun (z_4 : Int) => (iof z_4)) yy_3.1) 0, ix (List.map (fun (z_4 : Int) => (iof z_4)) yy_3.1) 1, ix (List.map (fun (z_4 : Int) => (iof z_4)) yy_3.1) 2) fun t_1 =>
  bnd (if ((m_law_dot_g iof io t_1 line_1) = (0 : A)) then (m_law_beside_g iof io line_1) else t_1) fun t_2 =>
  ((r_1, s_1, t_2), yy_3.2)
theorem sp_okn {P : Program} {w : World} {K : PySem.W.Frag} {mg : Str → Option Value} {base : Heap} {i : OgB P w K mg base} {pool : List Int} {y : List Int × List Int} (h : (V3q i.o.2.1 y.1 ∧ y.1 ≠ [0, 0, 0]) ∧ Pl2 pool y.2 4) {z : Int} (hz : z ∈ y.1) : i.S.okn z := i.S.ok_of (h.1.1.2 z hz).1 (h.1.1.2 z hz).2
theorem v3q_of {P : Program} {w : World} {K : PySem.W.Frag} {mg : Str → Option Value} {base : Heap} {i : OgB P w K mg base} {v : List Int} (h : V3q i.o.2.1 v) : i.S.m.b3 4 0 (ix (List.map (fun (z : Int) => (i.of z)) v) 0, ix (List.map (fun (z : Int) => (i.of z)) v) 1, ix (List.map (fun (z : Int) => (i.of z)) v) 2) := by
  match v, h with
  | [a, b, c], h =>
    have k : ∀ z ∈ [a, b, c], i.S.m.bd 4 0 (i.of z) := fun z hz => i.S.bdn (i.S.ok_of (h.2 z hz).1 (h.2 z hz).2)
    exact ⟨k a (by simp), k b (by simp), k c (by simp)⟩
theorem v3q_ne {A : Type} [Lean.Grind.CommRing A] {of : Int → A} {q : Int} {v : List Int} (h : V3q q v) (hn : v ≠ [0, 0, 0]) (hf : ∀ {n : Int}, 0 ≤ n → n < q → of n = 0 → n = 0) : (ix (List.map (fun (z : Int) => (of z)) v) 0, ix (List.map (fun (z : Int) => (of z)) v) 1, ix (List.map (fun (z : Int) => (of z)) v) 2) ≠ ((0, 0, 0) : V3 A) := by
  match v, h with
  | [a, b, c], h =>
    intro q
    have ha := h.2 a (by simp)
    have hb := h.2 b (by simp)
    have hc := h.2 c (by simp)
    have q1 : of a = 0 := congrArg (fun v : V3 A => v.1) q
    have q2 : of b = 0 := congrArg (fun v : V3 A => v.2.1) q
    have q3 : of c = 0 := congrArg (fun v : V3 A => v.2.2) q
    exact hn (by rw [hf ha.1 ha.2 q1, hf hb.1 hb.2 q2, hf hc.1 hc.2 q3])
theorem sp_row {P : Program} {w : World} {K : PySem.W.Frag} {mg : Str → Option Value} {base : Heap} {i : OgB P w K mg base} {pool : List Int} {y : List Int × List Int} (h : (V3q i.o.2.1 y.1 ∧ y.1 ≠ [0, 0, 0]) ∧ Pl2 pool y.2 4) :
    (ix (List.map (fun (z : Int) => (i.of z)) y.1) 0, ix (List.map (fun (z : Int) => (i.of z)) y.1) 1, ix (List.map (fun (z : Int) => (i.of z)) y.1) 2) ≠ ((0, 0, 0) : V3 i.A) ∧ i.S.m.b3 4 0 (ix (List.map (fun (z : Int) => (i.of z)) y.1) 0, ix (List.map (fun (z : Int) => (i.of z)) y.1) 1, ix (List.map (fun (z : Int) => (i.of z)) y.1) 2) :=
  ⟨v3q_ne h.1.1 h.1.2 i.S.of_ne, v3q_of h.1.1⟩


theorem ok_law_spanning_g (T : Tx P K mg) : ClX P w K mg base 15 "_law_spanning" (fun i : OgB P w K mg base => (spP (fun (p : Addr) (a : List Int) => [.val (yV (.ref p)) (), .val (yH3 yI yI (yL (yL yI))) i.o]) (fun a => cL yI a) (fun s => cL yI s) (fun a : List Int => PlB 9000 a) (yH3 (yH3 i.S.t i.S.t i.S.t) (yH3 i.S.t i.S.t i.S.t) (yH3 i.S.t i.S.t i.S.t)) (fun a => m_law_spanning_g i.of i.o a))) := by
  obtain ⟨f, fd, hg, FD⟩ := T.g_law_spanning
  refine ⟨f, fd, ["pool", "own"], fun i => ?_, hg, FD.kp, FD.bindsN fun _ _ _ _ _ _ us hl => match us, hl with | [_, _], _ => rfl⟩
  refine TL.FunD.okC (N := ["pool", "own", "r", "s", "line", "t"]) FD sc_law_spanning (lenP fun _ _ => rfl) fun cdv A outer s H E hr => ?_
  refine ⟨_, (pss_cons (ps_set (i := 2) sc_law_spanning.nd rfl (by first | exact .inl rfl | exact .inr rfl) (pe_cl (ok_law_vector T) hr (by decide) (by rfl) passL (pa_cons (pv 0) (pa_cons (pe_ix (ixL_K (K := K) rfl) (pv 1) pe_int (fun _ _ => rfl)) pa_nil)))) (pss_cons (ps_set (i := 3) sc_law_spanning.nd rfl (by first | exact .inl rfl | exact .inr rfl) (pe_cl ((ok_law_unlike_g T).at i) hr (by decide) (by rfl) passL (pa_cons (pv 1) (pa_cons (pv 2) (pa_cons (pe_cl (ok_law_vector T) hr (by decide) (by rfl) passL (pa_cons (pv 0) (pa_cons (pe_ix (ixL_K (K := K) rfl) (pv 1) pe_int (fun _ _ => rfl)) pa_nil))) pa_nil))))) (pss_cons (ps_set (i := 4) sc_law_spanning.nd rfl (by first | exact .inl rfl | exact .inr rfl) (pe_cl ((ok_law_cross_g T).at i) hr (by decide) (by rfl) passL (pa_cons (pv 1) (pa_cons (pv 2) (pa_cons (pv 3) pa_nil))))) (pss_cons (ps_set (i := 5) sc_law_spanning.nd rfl (by first | exact .inl rfl | exact .inr rfl) (pe_cl (ok_law_vector T) hr (by decide) (by rfl) passL (pa_cons (pv 0) (pa_cons (pe_ix (ixL_K (K := K) rfl) (pv 1) pe_int (fun _ _ => rfl)) pa_nil)))) (pss_cons (ps_if (pt_cmpR (op_eqK (K := K) rfl hr.units) (pe_cl ((ok_law_dot_g T).at i) hr (by decide) (by rfl) passL (pa_cons (pv 1) (pa_cons (pv 5) (pa_cons (pv 4) pa_nil)))) pe_int (nomark _)) (pss_cons (ps_set (i := 5) sc_law_spanning.nd rfl (by first | exact .inl rfl | exact .inr rfl) (pe_cl ((ok_law_beside_g T).at i) hr (by decide) (by rfl) passL (pa_cons (pv 4) pa_nil))) pss_nil) pss_nil) (pss_cons (ps_ret (pe_lst (pa_cons (pv 2) (pa_cons (pv 3) (pa_cons (pv 5) pa_nil))))) pss_nil)))))), fun vs Q h => run_P (fun F p a rt hpre => ?_) vs H Q E h⟩
  have hq2 := i.S.q2
  show Bd _ _ _ _ _ _ (m_law_spanning_g i.of i.o a)
  unfold m_law_spanning_g
  refine b_gen fun yy_1 hyy_1 => ?_
  have qyy_1 : PlB 10000 a ∧ 2 ≤ i.o.2.1 ∧ i.o.2.1 ≤ 997 := (by first | exact ⟨by decreasing_trivial_pre_omega, by omega, by omega⟩)
  have pyy_1 := p_vector qyy_1 hyy_1
  refine b_let (ev_cv (ev_callP 0 (a, i.o.2.1) hyy_1 (ea_cons ev_var (ea_cons (ev_h3b (x := i.o) ev_var) ea_nil)) rfl rfl rfl qyy_1) (fun h => (rp_LH3 (by first | rfl | (rw [List.length_map]; first | exact pyy_1.1.1.1 | exact pyy_2.1.1.1 | exact pyy_3.1.1.1))) ((rp_L (f := fun (z_1 : Int) => (i.of z_1)) (fun z_1 hz_1 => (i.S.rof (by first | exact sp_okn pyy_1 ‹_› | exact sp_okn pyy_2 ‹_› | exact sp_okn pyy_3 ‹_›)))) h))) fun r_1 hr_1 => ?_
  have kr := sp_row pyy_1
  rw [← hr_1] at kr
  refine b_gen fun yy_2 hyy_2 => ?_
  have qyy_2 : PlB 10000 yy_1.2 ∧ 2 ≤ i.o.2.1 ∧ i.o.2.1 ≤ 997 := (by first | exact ⟨by decreasing_trivial_pre_omega, by omega, by omega⟩)
  have pyy_2 := p_vector qyy_2 hyy_2
  refine b_let (ev_call (r_1, (ix (List.map (fun (z_3 : Int) => (i.of z_3)) yy_2.1) 0, ix (List.map (fun (z_3 : Int) => (i.of z_3)) yy_2.1) 1, ix (List.map (fun (z_3 : Int) => (i.of z_3)) yy_2.1) 2)) (ea_cons ev_var (ea_cons (ev_cv ev_var (fun h => rp_H3X ((fun h => h) h))) (ea_cons (ev_cv (ev_callP 0 (yy_1.2, i.o.2.1) hyy_2 (ea_cons ev_var (ea_cons (ev_h3b (x := i.o) ev_var) ea_nil)) rfl rfl rfl qyy_2) (fun h => (rp_LH3 (by first | rfl | (rw [List.length_map]; first | exact pyy_1.1.1.1 | exact pyy_2.1.1.1 | exact pyy_3.1.1.1))) ((rp_L (f := fun (z_3 : Int) => (i.of z_3)) (fun z_3 hz_3 => (i.S.rof (by first | exact sp_okn pyy_1 ‹_› | exact sp_okn pyy_2 ‹_› | exact sp_okn pyy_3 ‹_›)))) h))) ea_nil))) rfl (by exact ⟨b3_mono kr.2 (by decide) (by decide), b3_mono (sp_row pyy_2).2 (by decide) (by decide), kr.1⟩)) fun s_1 hs_1 => ?_
  have ks := b3_unlike (b := _) kr.1 (sp_row pyy_2).2
  rw [← hs_1] at ks
  refine b_let (ev_call (r_1, s_1) (ea_cons ev_var (ea_cons (ev_cv ev_var (fun h => rp_H3X ((fun h => h) h))) (ea_cons (ev_cv ev_var (fun h => rp_H3X ((fun h => h) h))) ea_nil))) rfl (by exact ⟨b3_mono kr.2 (by decide) (by decide), b3_mono ks (by decide) (by decide)⟩)) fun line_1 hline_1 => ?_
  have kl : line_1 ≠ (0, 0, 0) := by rw [hline_1, g_lcross, hs_1]; exact g_unlike_ne i.S.of0 i.S.of1 kr.1
  have kl2 : i.S.m.b3 9 0 line_1 := by rw [hline_1]; exact b3_lcross kr.2 ks
  refine b_gen fun yy_3 hyy_3 => ?_
  have qyy_3 : PlB 10000 yy_2.2 ∧ 2 ≤ i.o.2.1 ∧ i.o.2.1 ≤ 997 := (by first | exact ⟨by decreasing_trivial_pre_omega, by omega, by omega⟩)
  have pyy_3 := p_vector qyy_3 hyy_3
  refine b_let (ev_cv (ev_callP 0 (yy_2.2, i.o.2.1) hyy_3 (ea_cons ev_var (ea_cons (ev_h3b (x := i.o) ev_var) ea_nil)) rfl rfl rfl qyy_3) (fun h => (rp_LH3 (by first | rfl | (rw [List.length_map]; first | exact pyy_1.1.1.1 | exact pyy_2.1.1.1 | exact pyy_3.1.1.1))) ((rp_L (f := fun (z_4 : Int) => (i.of z_4)) (fun z_4 hz_4 => (i.S.rof (by first | exact sp_okn pyy_1 ‹_› | exact sp_okn pyy_2 ‹_› | exact sp_okn pyy_3 ‹_›)))) h))) fun t_1 ht_1 => ?_
  have kt := sp_row pyy_3
  try rw [← ht_1] at kt
  refine b_join (fun (t_2 : (i.A × i.A × i.A)) => (⟨[.val (yV (.ref p)) (), .val (yH3 yI yI (yL (yL yI))) i.o, .val (yH3 i.S.t i.S.t i.S.t) r_1, .val (yH3 i.S.t i.S.t i.S.t) s_1, .val (y3 i.S.t i.S.t i.S.t) line_1, .val (yH3 i.S.t i.S.t i.S.t) t_2], []⟩ : Lc)) (fun (t_2 : (i.A × i.A × i.A)) => ([(p, cL yI yy_3.2)] : Own)) (tt_d (ev_eqD (ev_call (t_1, line_1) (ea_cons ev_var (ea_cons (ev_cv ev_var (fun h => rp_H3X ((fun h => h) h))) (ea_cons (ev_cv ev_var (fun h => rp_3X ((fun h => h) h))) ea_nil))) rfl (by exact ⟨b3_mono kt.2 (by decide) (by decide), b3_mono kl2 (by decide) (by decide)⟩)) (ev_cv ev_int i.S.z0))) (x1 := (m_law_beside_g i.of i.o line_1)) (x2 := t_1) (fun h_1 => (sx_set (ev_call line_1 (ea_cons (ev_cv ev_var (fun h => rp_3X ((fun h => h) h))) ea_nil) rfl (by exact kl)) (sx_wk sx_next ⟨(.cons (.inl rfl) (.cons (.inl rfl) (.cons (.inl rfl) (.cons (.inl rfl) (.cons (.inl rfl) (.cons (.inl rfl) .nil)))))), rfl⟩))) (fun h_1 => (sx_wk sx_next ⟨(.cons (.inl rfl) (.cons (.inl rfl) (.cons (.inl rfl) (.cons (.inl rfl) (.cons (.inl rfl) (.cons (.inl rfl) .nil)))))), rfl⟩)) fun t_2 ht_2 => ?_
  exact b_seq (b_ret (ev_h3 (ea_cons ev_var (ea_cons ev_var (ea_cons ev_var ea_nil)))) (fun h => h _))

theorem p_span {P : Program} {w : World} {K : PySem.W.Frag} {mg : Str → Option Value} {base : Heap} {i : OgB P w K mg base} {pool : List Int} (hp : PlB 9000 pool) {y : (V3 i.A × V3 i.A × V3 i.A) × List Int} (hy : y = m_law_spanning_g i.of i.o pool) :
    ((i.S.m.b3 4 0 y.1.1 ∧ i.S.m.b3 4 0 y.1.2.1 ∧ i.S.m.b3 4 0 y.1.2.2) ∧ m_dot y.1.2.2 (m_cross y.1.1 y.1.2.1) ≠ 0) ∧ Pl2 pool y.2 12 := by
  subst hy
  have hq2 := i.S.q2
  unfold m_law_spanning_g
  simp only [bnd]
  have v1 := p_vector (pool := pool) (q := i.o.2.1) ⟨by decreasing_trivial_pre_omega, by omega, by omega⟩ rfl
  generalize m_law_vector pool i.o.2.1 = d1 at *
  have v2 := p_vector (pool := d1.2) (q := i.o.2.1) ⟨by decreasing_trivial_pre_omega, by omega, by omega⟩ rfl
  generalize m_law_vector d1.2 i.o.2.1 = d2 at *
  have v3 := p_vector (pool := d2.2) (q := i.o.2.1) ⟨by decreasing_trivial_pre_omega, by omega, by omega⟩ rfl
  generalize m_law_vector d2.2 i.o.2.1 = d3 at *
  obtain ⟨n1, b1⟩ := sp_row v1
  obtain ⟨n2, b2⟩ := sp_row v2
  obtain ⟨n3, b3⟩ := sp_row v3
  generalize (ix (List.map (fun (z : Int) => (i.of z)) d1.1) 0, ix (List.map (fun (z : Int) => (i.of z)) d1.1) 1, ix (List.map (fun (z : Int) => (i.of z)) d1.1) 2) = r at *
  generalize (ix (List.map (fun (z : Int) => (i.of z)) d2.1) 0, ix (List.map (fun (z : Int) => (i.of z)) d2.1) 1, ix (List.map (fun (z : Int) => (i.of z)) d2.1) 2) = s at *
  generalize (ix (List.map (fun (z : Int) => (i.of z)) d3.1) 0, ix (List.map (fun (z : Int) => (i.of z)) d3.1) 1, ix (List.map (fun (z : Int) => (i.of z)) d3.1) 2) = t at *
  have hc : m_cross r (m_law_unlike_g i.of i.o r s) ≠ (0, 0, 0) := g_unlike_ne i.S.of0 i.S.of1 n1
  refine ⟨⟨⟨b1, b3_unlike n1 b2, ?_⟩, ?_⟩, by decreasing_trivial_pre_omega⟩
  · split
    · rw [g_lcross]
      exact b3_mono (b3_beside i.S.of0 i.S.of1 hc) (by omega) (by omega)
    · exact b3
  · show m_dot (if m_law_dot_g i.of i.o t (m_law_cross_g i.of i.o r (m_law_unlike_g i.of i.o r s)) = 0 then m_law_beside_g i.of i.o (m_law_cross_g i.of i.o r (m_law_unlike_g i.of i.o r s)) else t) _ ≠ 0
    split
    · rw [g_lcross]
      have := g_beside_dt (o := i.o) i.S.of0 i.S.of1 hc
      unfold m_dot
      exact this
    · rename_i hd
      rw [g_ldot, g_lcross] at hd
      exact hd

theorem sc_law_drawn : FnScope ["pool", "own", "v", "k"] ["pool", "own"] (defScope s_law_drawn) := ⟨rfl, rfl, rfl, by decide +kernel, rfl, by decide +kernel, by decide +kernel⟩
def m_law_drawn_g (i : Mm) (a_pool : List Int) : (i.A × i.A × i.A) × List Int :=
  (if ((0 : Int) < i.o.1) then
  bnd (m_law_vector a_pool i.o.2.1) fun yy_1 =>
  ((ix (List.map (fun (z_1 : Int) => (i.of z_1)) yy_1.1) 0, ix (List.map (fun (z_1 : Int) => (i.of z_1)) yy_1.1) 1, ix (List.map (fun (z_1 : Int) => (i.of z_1)) yy_1.1) 2), yy_1.2)
  else
  bnd (mapS (fun (s_1 : List Int) (x_1 : Int) => bnd (m_law_draw s_1 (19 : Int)) fun yy_3 => ((yy_3.1 - (9 : Int)), yy_3.2)) (rng 0 (Int.toNat (3 : Int))) a_pool) fun yy_4 =>
  bnd yy_4.1 fun v_1 =>
  (if (v_1 = [(0 : Int), (0 : Int), (0 : Int)]) then
  bnd (m_law_draw yy_4.2 (3 : Int)) fun yy_5 =>
  ((ix (List.map (fun (z_2 : Int) => (i.of z_2)) (setI v_1 yy_5.1 (1 : Int))) 0, ix (List.map (fun (z_2 : Int) => (i.of z_2)) (setI v_1 yy_5.1 (1 : Int))) 1, ix (List.map (fun (z_2 : Int) => (i.of z_2)) (setI v_1 yy_5.1 (1 : Int))) 2), yy_5.2)
  else
  ((ix (List.map (fun (z_3 : Int) => (i.of z_3)) v_1) 0, ix (List.map (fun (z_3 : Int) => (i.of z_3)) v_1) 1, ix (List.map (fun (z_3 : Int) => (i.of z_3)) v_1) 2), yy_4.2)))
/-- three small integers -/
def Vz (v : List Int) : Prop := v.length = 3 ∧ ∀ x ∈ v, -9 ≤ x ∧ x ≤ 9
theorem dra_pre {pool pre post s : List Int} {x : Int} (hp : PlB 9000 pool) (e : rng 0 (Int.toNat 3) = pre ++ x :: post) (hj : Pl2 pool s pre.length) : PlOk s ∧ (0 : Int) < 19 ∧ Sz 200 19 := by
  have h1 := len_pre e
  refine ⟨?_, by omega, sz_lit (by decide +kernel)⟩
  simp only [Pl2, PlB, PlOk] at *
  omega
theorem dra_step {pool pre post s : List Int} {x : Int} (hp : PlB 9000 pool) (e : rng 0 (Int.toNat 3) = pre ++ x :: post) (hj : Pl2 pool s pre.length) : Pl2 pool (m_law_draw s 19).2 ((pre ++ [x]).length : Nat) := by
  have h1 := (p_draw (dra_pre hp e hj) rfl).2.2
  rw [List.length_append, List.length_singleton]
  simp only [Pl2] at *
  omega
theorem dra_post {pool : List Int} {y : List Int × List Int} (hp : PlB 9000 pool) (hy : y = mapS (fun (s_1 : List Int) (x_1 : Int) => bnd (m_law_draw s_1 19) fun yy_2 => ((yy_2.1 - (9 : Int)), yy_2.2)) (rng 0 (Int.toNat (3 : Int))) pool) : Vz y.1 ∧ Pl2 pool y.2 3 := by
  subst hy
  have e : rng 0 (Int.toNat (3 : Int)) = [0, 1, 2] := rfl
  rw [e]
  simp only [mapS, bnd]
  have h1 := p_draw (pool := pool) (most := 19) ⟨by decreasing_trivial_pre_omega, by omega, sz_lit (by decide +kernel)⟩ rfl
  generalize m_law_draw pool 19 = d1 at *
  have h2 := p_draw (pool := d1.2) (most := 19) ⟨by decreasing_trivial_pre_omega, by omega, sz_lit (by decide +kernel)⟩ rfl
  generalize m_law_draw d1.2 19 = d2 at *
  have h3 := p_draw (pool := d2.2) (most := 19) ⟨by decreasing_trivial_pre_omega, by omega, sz_lit (by decide +kernel)⟩ rfl
  generalize m_law_draw d2.2 19 = d3 at *
  refine ⟨⟨rfl, fun x hx => ?_⟩, by decreasing_trivial_pre_omega⟩
  simp only [List.mem_cons, List.not_mem_nil, or_false] at hx
  rcases hx with q | q | q <;> subst q <;> omega
theorem dra_inb {v : List Int} {k : Int} (h : Vz v) (h0 : 0 ≤ k) (h1 : k < 3) : Inb v k := ⟨by omega, by rw [h.1]; exact h1⟩
theorem dra_set {v : List Int} {k : Int} (h : Vz v) (h0 : 0 ≤ k) (h1 : k < 3) : Vz (setI v k 1) ∧ setI v k 1 ≠ [0, 0, 0] := by
  match v, h with
  | [a, b, c], h =>
    have ha := h.2 a (by simp)
    have hb := h.2 b (by simp)
    have hc := h.2 c (by simp)
    have : k = 0 ∨ k = 1 ∨ k = 2 := by omega
    rcases this with z | z | z <;> subst z
    · exact ⟨⟨rfl, fun x (hx : x ∈ [1, b, c]) => by simp only [List.mem_cons, List.not_mem_nil, or_false] at hx; rcases hx with q | q | q <;> subst q <;> omega⟩, (by simp : ([1, b, c] : List Int) ≠ [0, 0, 0])⟩
    · exact ⟨⟨rfl, fun x (hx : x ∈ [a, 1, c]) => by simp only [List.mem_cons, List.not_mem_nil, or_false] at hx; rcases hx with q | q | q <;> subst q <;> omega⟩, (by simp : ([a, 1, c] : List Int) ≠ [0, 0, 0])⟩
    · exact ⟨⟨rfl, fun x (hx : x ∈ [a, b, 1]) => by simp only [List.mem_cons, List.not_mem_nil, or_false] at hx; rcases hx with q | q | q <;> subst q <;> omega⟩, (by simp : ([a, b, 1] : List Int) ≠ [0, 0, 0])⟩
theorem dra_okn {P : Program} {w : World} {K : PySem.W.Frag} {mg : Str → Option Value} {base : Heap} {i : Md P w K mg base} (h : i.M.o.1 = 0) {v : List Int} (hv : Vz v) {z : Int} (hz : z ∈ v) : i.S.okn z := i.okQ h (by have := hv.2 z hz; omega) (by have := hv.2 z hz; omega)
theorem dra_okn2 {P : Program} {w : World} {K : PySem.W.Frag} {mg : Str → Option Value} {base : Heap} {i : Md P w K mg base} {v : List Int} {z : Int} (hz : z ∈ v) (h : i.M.o.1 = 0) (hv : Vz v) : i.S.okn z := dra_okn h hv hz
theorem dra_row {P : Program} {w : World} {K : PySem.W.Frag} {mg : Str → Option Value} {base : Heap} {i : Md P w K mg base} (h : i.M.o.1 = 0) {v : List Int} (hv : Vz v ∧ v ≠ [0, 0, 0]) :
    i.S.m.b3 4 0 (ix (List.map (fun (z : Int) => (i.M.of z)) v) 0, ix (List.map (fun (z : Int) => (i.M.of z)) v) 1, ix (List.map (fun (z : Int) => (i.M.of z)) v) 2) ∧ (ix (List.map (fun (z : Int) => (i.M.of z)) v) 0, ix (List.map (fun (z : Int) => (i.M.of z)) v) 1, ix (List.map (fun (z : Int) => (i.M.of z)) v) 2) ≠ ((0, 0, 0) : V3 i.M.A) := by
  obtain ⟨hv, hn⟩ := hv
  match v, hv with
  | [a, b, c], hv =>
    have k : ∀ z ∈ [a, b, c], i.S.m.bd 4 0 (i.M.of z) := fun z hz => i.S.bdn (dra_okn h hv hz)
    refine ⟨⟨k a (by simp), k b (by simp), k c (by simp)⟩, fun q => ?_⟩
    have q1 : i.M.of a = 0 := congrArg (fun v : V3 i.M.A => v.1) q
    have q2 : i.M.of b = 0 := congrArg (fun v : V3 i.M.A => v.2.1) q
    have q3 : i.M.of c = 0 := congrArg (fun v : V3 i.M.A => v.2.2) q
    exact hn (by rw [i.M.of_q h q1, i.M.of_q h q2, i.M.of_q h q3])


theorem ok_law_drawn_g (T : Tx P K mg) : ClX P w K mg base 3 "_law_drawn" (fun i : Md P w K mg base => (spP (fun (p : Addr) (a : List Int) => [.val (yV (.ref p)) (), .val (yH3 yI yI (yL (yL yI))) i.M.o]) (fun a => cL yI a) (fun s => cL yI s) (fun a : List Int => PlB 9000 a) (yH3 i.S.t i.S.t i.S.t) (fun a => m_law_drawn_g i.M a))) := by
  obtain ⟨f, fd, hg, FD⟩ := T.g_law_drawn
  refine ⟨f, fd, ["pool", "own"], fun i => ?_, hg, FD.kp, FD.bindsN fun _ _ _ _ _ _ us hl => match us, hl with | [_, _], _ => rfl⟩
  refine TL.FunD.okC (N := ["pool", "own", "v", "k"]) FD sc_law_drawn (lenP fun _ _ => rfl) fun cdv A outer s H E hr => ?_
  refine ⟨_, (pss_cons (ps_if (pt_cmpR op_gt (pe_ix (ixL_K (K := K) rfl) (pv 1) pe_int (fun _ _ => rfl)) pe_int (nomark _)) (pss_cons (ps_ret (pe_cl (ok_law_vector T) hr (by decide) (by rfl) passL (pa_cons (pv 0) (pa_cons (pe_ix (ixL_K (K := K) rfl) (pv 1) pe_int (fun _ _ => rfl)) pa_nil)))) pss_nil) pss_nil) (pss_cons (ps_setLc (i := 2) (own := [("k", 3)]) (tt := tYes) rfl sc_law_drawn.nd rfl rfl (sw_true rfl rfl rfl (by decide +kernel)) (pi_range1 (by rfl) T.b_range (pa_cons pe_int pa_nil)) (by first | exact blkOk_by (N := ["pool", "own", "v", "k"]) (sc := defScope s_law_drawn) (by decide +kernel) | exact blkOk_by rfl) (fun _ _ _ _ _ => (pg_name (i := 3) sc_law_drawn.nd (by rfl) (by first | exact .inl rfl | exact .inr rfl))) (fun _ _ _ _ _ => pts_nil) (fun _ _ _ _ _ => (pe_op op_sub (pe_cl (ok_law_draw T) hr (by decide) (by rfl) passL (pa_cons (pv 0) (pa_cons pe_int pa_nil))) pe_int))) (pss_cons (ps_if (pt_cmpR (op_eqK (K := K) rfl hr.units) (pv 2) (pe_lst (pa_cons pe_int (pa_cons pe_int (pa_cons pe_int pa_nil)))) (nomark _)) (pss_cons (ps_asg pe_int (pg_sub (pv 2) (pe_cl (ok_law_draw T) hr (by decide) (by rfl) passL (pa_cons (pv 0) (pa_cons pe_int pa_nil))) set_list)) pss_nil) pss_nil) (pss_cons (ps_ret (pv 2)) pss_nil)))), fun vs Q h => run_P (fun F p a rt hpre => ?_) vs H Q E h⟩
  have hq2 := i.S.q2
  show Bd _ _ _ _ _ _ (m_law_drawn_g i.M a)
  unfold m_law_drawn_g
  refine b_seq (b_if (tt_d (ev_gt (ev_h3a (x := i.M.o) ev_var) ev_int)) (fun h_1 => ?_) (fun h_1 => ?_))
  · refine b_gen fun yy_1 hyy_1 => ?_
    have qyy_1 : PlB 10000 a ∧ 2 ≤ i.M.o.2.1 ∧ i.M.o.2.1 ≤ 997 := (by exact ⟨by decreasing_trivial_pre_omega, by omega, by omega⟩)
    have pyy_1 := p_vector qyy_1 hyy_1
    exact b_seq (b_ret (ev_cv (ev_callP 0 (a, i.M.o.2.1) hyy_1 (ea_cons ev_var (ea_cons (ev_h3b (x := i.M.o) ev_var) ea_nil)) rfl rfl rfl qyy_1) (fun h => (rp_LH3 (by first | rfl | (rw [List.length_map]; exact pyy_1.1.1.1))) ((rp_L (f := fun (z_1 : Int) => (i.M.of z_1)) (fun z_1 hz_1 => (i.S.rof (by exact i.S.ok_of (pyy_1.1.1.2 _ ‹_›).1 (pyy_1.1.1.2 _ ‹_›).2)))) h))) (fun h => h _))
  · refine b_fall ?_
    refine b_gen fun yy_4 hyy_4 => ?_
    have pyy_4 := dra_post hpre hyy_4
    refine b_letO (lc_stY (y := yy_4) hyy_4 (fun (s_1 : List Int) => [(p, cL yI s_1)]) (fun pre s => Pl2 a s (pre.length : Nat)) (iv_rng1 ev_int (by first | omega | decreasing_trivial_pre_omega) (by first | omega | decreasing_trivial_pre_omega)) (tg_name 3) (by decide) rfl (by exact rng_line (by decide)) (pl2_refl (plb_ok hpre) (by decide)) (fun pre x post s e hj => dra_step hpre e hj) (fun D gs pre x_1 post s_1 he hj => (ev_sub (ev_callP (y := (m_law_draw s_1 (19 : Int))) 0 (s_1, (19 : Int)) rfl (ea_cons ev_var (ea_cons ev_int ea_nil)) rfl rfl rfl (by first | exact dra_pre hpre he hj | exact ⟨by decreasing_trivial_pre_omega, by omega, sz_lit (by decide +kernel)⟩)) ev_int))) fun p_1 v_1 hv_1 => ?_
    refine b_seq (b_if (tt_d (ev_bor (bw_at (t := yI) (xs := v_1) 2 1 bw_all) (ev_eqD ev_var (ev_l (evl_lst (t := yI) (xs := [(0 : Int), (0 : Int), (0 : Int)]) (ea_cons ev_int (ea_cons ev_int (ea_cons ev_int ea_nil))) rfl (lit_len 3 rfl (by decide))))))) (fun h_2 => ?_) (fun h_2 => ?_))
    · refine b_gen fun yy_5 hyy_5 => ?_
      have qyy_5 : PlOk yy_4.2 ∧ 0 < (3 : Int) ∧ Sz 200 (3 : Int) := (by first | exact dra_pre hpre he hj | exact ⟨by decreasing_trivial_pre_omega, by omega, sz_lit (by decide +kernel)⟩)
      have pyy_5 := p_draw qyy_5 hyy_5
      refine b_setI (t := yI) (xs := v_1) 1 ev_int ev_var (ev_callP 0 (yy_4.2, (3 : Int)) hyy_5 (ea_cons ev_var (ea_cons ev_int ea_nil)) rfl rfl rfl qyy_5) (by rw [hv_1]; exact dra_inb pyy_4.1 pyy_5.1 pyy_5.2.1) rfl ?_
      refine b_fall ?_
      exact b_seq (b_ret (ev_cv (ev_frz (t := yI) (xs := (setI v_1 yy_5.1 (1 : Int))) 1 ev_var) (fun h => (rp_LH3 (by first | rfl | (rw [List.length_map]; first | (rw [setI_len', hv_1]; exact pyy_4.1.1) | (rw [hv_1]; exact pyy_4.1.1)))) ((rp_L (f := fun (z_2 : Int) => (i.M.of z_2)) (fun z_2 hz_2 => (i.S.rof (by have hpz := i.M.p0; refine dra_okn2 (i := i) ‹_› (by omega) ?_; rw [hv_1]; first | exact (dra_set pyy_4.1 pyy_5.1 pyy_5.2.1).1 | exact pyy_4.1)))) h))) (fun h => h _))
    · refine b_fall ?_
      exact b_seq (b_ret (ev_cv (ev_frz (t := yI) (xs := v_1) 1 ev_var) (fun h => (rp_LH3 (by first | rfl | (rw [List.length_map]; first | (rw [setI_len', hv_1]; exact pyy_4.1.1) | (rw [hv_1]; exact pyy_4.1.1)))) ((rp_L (f := fun (z_3 : Int) => (i.M.of z_3)) (fun z_3 hz_3 => (i.S.rof (by have hpz := i.M.p0; refine dra_okn2 (i := i) ‹_› (by omega) ?_; rw [hv_1]; first | exact (dra_set pyy_4.1 pyy_5.1 pyy_5.2.1).1 | exact pyy_4.1)))) h))) (fun h => h _))

theorem p_drawn {P : Program} {w : World} {K : PySem.W.Frag} {mg : Str → Option Value} {base : Heap} {i : Md P w K mg base} {pool : List Int} (hp : PlB 9000 pool) {y : V3 i.M.A × List Int} (hy : y = m_law_drawn_g i.M pool) : (i.S.m.b3 4 0 y.1 ∧ y.1 ≠ (0, 0, 0)) ∧ Pl2 pool y.2 4 := by
  subst hy
  have hq2 := i.S.q2
  unfold m_law_drawn_g
  split
  · simp only [bnd]
    have v1 := p_vector (pool := pool) (q := i.M.o.2.1) ⟨by decreasing_trivial_pre_omega, by omega, by omega⟩ rfl
    generalize m_law_vector pool i.M.o.2.1 = d1 at *
    have h := sp_row (i := i.og) v1
    exact ⟨⟨h.2, h.1⟩, by decreasing_trivial_pre_omega⟩
  · rename_i hz
    have hpz := i.M.p0
    have h0 : i.M.o.1 = 0 := by omega
    have hv := fun y hy => dra_post (y := y) hp hy
    generalize mapS (fun (s_1 : List Int) (x_1 : Int) => bnd (m_law_draw s_1 19) fun yy_2 => ((yy_2.1 - (9 : Int)), yy_2.2)) (rng 0 (Int.toNat (3 : Int))) pool = y at hv ⊢
    obtain ⟨h1, h2⟩ := hv _ rfl
    simp only [bnd]
    split
    · have h3 := p_draw (pool := y.2) (most := 3) ⟨by decreasing_trivial_pre_omega, by omega, sz_lit (by decide +kernel)⟩ rfl
      generalize m_law_draw y.2 3 = d at *
      exact ⟨dra_row h0 (dra_set h1 h3.1 h3.2.1), by decreasing_trivial_pre_omega⟩
    · rename_i h3
      exact ⟨dra_row h0 ⟨h1, h3⟩, by decreasing_trivial_pre_omega⟩

theorem sc_law_given : FnScope ["own", "rows", "row", "x"] ["own", "rows"] (defScope s_law_given) := ⟨rfl, rfl, rfl, by decide +kernel, rfl, by decide +kernel, by decide +kernel⟩
def m_law_given_g (i : Mm) (a_rows : (List (i.A × i.A × i.A))) : (List (i.E × i.E × i.E)) :=
  (if ((0 : Int) < i.o.1) then
  (List.map (fun (row_1 : (i.A × i.A × i.A)) => (ix (List.map (fun (z_1 : i.A) => (i.φ z_1)) [row_1.1, row_1.2.1, row_1.2.2]) 0, ix (List.map (fun (z_1 : i.A) => (i.φ z_1)) [row_1.1, row_1.2.1, row_1.2.2]) 1, ix (List.map (fun (z_1 : i.A) => (i.φ z_1)) [row_1.1, row_1.2.1, row_1.2.2]) 2)) a_rows)
  else
  (List.map (fun (row_2 : (i.A × i.A × i.A)) => (ix (List.map (fun (x_1 : i.A) => (i.φ ((x_1, (1 : Int))).1)) [row_2.1, row_2.2.1, row_2.2.2]) 0, ix (List.map (fun (x_1 : i.A) => (i.φ ((x_1, (1 : Int))).1)) [row_2.1, row_2.2.1, row_2.2.2]) 1, ix (List.map (fun (x_1 : i.A) => (i.φ ((x_1, (1 : Int))).1)) [row_2.1, row_2.2.1, row_2.2.2]) 2)) a_rows))

theorem ok_law_given_g (T : Tx P K mg) : ClX P w K mg base 1 "_law_given" (fun i : Md P w K mg base => (spF (fun a : (List (i.M.A × i.M.A × i.M.A)) => [.val (yH3 yI yI (yL (yL yI))) i.M.o, .val (yL (yH3 i.S.t i.S.t i.S.t)) a]) (fun a : (List (i.M.A × i.M.A × i.M.A)) => a.length ≤ 100) (yL (yH3 i.R.t i.R.t i.R.t)) (fun a => m_law_given_g i.M a))) := by
  obtain ⟨f, fd, hg, FD⟩ := T.g_law_given
  refine ⟨f, fd, ["own", "rows"], fun i => ?_, hg, FD.kp, FD.bindsN fun _ _ _ _ _ _ us hl => match us, hl with | [_, _], _ => rfl⟩
  refine TL.FunD.okC (N := ["own", "rows", "row", "x"]) FD sc_law_given (lenF fun _ => rfl) fun cdv A outer s H E hr => ?_
  refine ⟨_, (pss_cons (ps_if (pt_cmpR op_gt (pe_ix (ixL_K (K := K) rfl) (pv 0) pe_int (fun _ _ => rfl)) pe_int (nomark _)) (pss_cons (ps_ret (pe_lc (own := [("row", 2)]) (tt := tYes) rfl sc_law_given.nd (pi_listK (K := K) rfl (pv 1)) (by first | exact blkOk_by (N := ["own", "rows", "row", "x"]) (sc := defScope s_law_given) (by decide +kernel) | exact blkOk_by rfl) (fun _ _ _ _ _ => (pg_name (i := 2) sc_law_given.nd (by rfl) (by first | exact .inl rfl | exact .inr rfl))) (fun _ _ _ _ _ => pts_nil) (fun _ _ _ _ _ => (pe_callTy (call_list_K (K := K) rfl) (by rfl) T.b_list (by decide +kernel) (pa_cons (pv 2) pa_nil))))) pss_nil) pss_nil) (pss_cons (ps_ret (pe_lc (own := [("row", 2)]) (tt := tYes) rfl sc_law_given.nd (pi_listK (K := K) rfl (pv 1)) (by first | exact blkOk_by (N := ["own", "rows", "row", "x"]) (sc := defScope s_law_given) (by decide +kernel) | exact blkOk_by rfl) (fun _ _ _ _ _ => (pg_name (i := 2) sc_law_given.nd (by rfl) (by first | exact .inl rfl | exact .inr rfl))) (fun _ _ _ _ _ => pts_nil) (fun _ _ _ _ _ => (pe_lc (own := [("x", 3)]) (tt := tYes) rfl sc_law_given.nd (pi_listK (K := K) rfl (pv 2)) (by first | exact blkOk_by (N := ["own", "rows", "row", "x"]) (sc := defScope s_law_given) (by decide +kernel) | exact blkOk_by rfl) (fun _ _ _ _ _ => (pg_name (i := 3) sc_law_given.nd (by rfl) (by first | exact .inl rfl | exact .inr rfl))) (fun _ _ _ _ _ => pts_nil) (fun _ _ _ _ _ => (pe_tup (pa_cons (pv 3) (pa_cons pe_int pa_nil)))))))) pss_nil)), fun vs Q h => run_F (fun F a rt hpre => ?_) vs H Q E h⟩
  have hp1 := hpre
  show Bd _ _ _ _ _ _ (m_law_given_g i.M a)
  unfold m_law_given_g
  refine b_seq (b_if (tt_d (ev_gt (ev_h3a (x := i.M.o) ev_var) ev_int)) (fun h_1 => ?_) (fun h_1 => ?_))
  · exact b_seq (b_ret (ev_l (lc_map (fun (row_1 : (i.M.A × i.M.A × i.M.A)) => (ix (List.map (fun (z_1 : i.M.A) => (i.M.φ z_1)) [row_1.1, row_1.2.1, row_1.2.2]) 0, ix (List.map (fun (z_1 : i.M.A) => (i.M.φ z_1)) [row_1.1, row_1.2.1, row_1.2.2]) 1, ix (List.map (fun (z_1 : i.M.A) => (i.M.φ z_1)) [row_1.1, row_1.2.1, row_1.2.2]) 2)) (iv_list ev_var) (tg_name 2) (by decide) (by first | assumption | exact Nat.le_trans hp1 (by decide)) (fun D gs row_1 hm_1 => (ev_cv (ev_l (evl_listL (ev_cv ev_var (fun h => rp_H3L ((fun h => h) h))))) (fun h => (rp_LH3 (by first | rfl | (first | assumption | exact Nat.le_trans hp1 (by decide)))) ((rp_L (f := fun (z_1 : i.M.A) => (i.M.φ z_1)) (fun z_1 hz_1 => (i.aeF (by first | assumption | (have hpz := i.M.p0; omega))))) h)))))) (fun h => h _))
  · refine b_fall ?_
    exact b_seq (b_ret (ev_l (lc_map (fun (row_2 : (i.M.A × i.M.A × i.M.A)) => (ix (List.map (fun (x_1 : i.M.A) => (i.M.φ ((x_1, (1 : Int))).1)) [row_2.1, row_2.2.1, row_2.2.2]) 0, ix (List.map (fun (x_1 : i.M.A) => (i.M.φ ((x_1, (1 : Int))).1)) [row_2.1, row_2.2.1, row_2.2.2]) 1, ix (List.map (fun (x_1 : i.M.A) => (i.M.φ ((x_1, (1 : Int))).1)) [row_2.1, row_2.2.1, row_2.2.2]) 2)) (iv_list ev_var) (tg_name 2) (by decide) (by first | assumption | exact Nat.le_trans hp1 (by decide)) (fun D gs row_2 hm_3 => (ev_cv (ev_l (lc_map (fun (x_1 : i.M.A) => (i.M.φ ((x_1, (1 : Int))).1)) (iv_list (ev_cv ev_var (fun h => rp_H3L ((fun h => h) h)))) (tg_name 3) (by decide) (by show (3 : Nat) ≤ sizeLine; decide) (fun D gs x_1 hm_2 => (ev_cv (ev_pair (ea_cons ev_var (ea_cons ev_int ea_nil))) (i.aeQ' (by first | assumption | (have hpz := i.M.p0; omega)) (by rfl)))))) (fun h => (rp_LH3 (by first | rfl | (first | assumption | exact Nat.le_trans hp1 (by decide)))) ((fun h => h) h)))))) (fun h => h _))

theorem g_given {i : Mm} {rows : List (V3 i.A)} : m_law_given_g i rows = rows.map i.v := by
  unfold m_law_given_g
  split
  · rfl
  · rfl

theorem sc_law_same : FnScope ["told", "due", "k"] ["told", "due"] (defScope s_law_same) := ⟨rfl, rfl, rfl, by decide +kernel, rfl, by decide +kernel, by decide +kernel⟩
def m_law_same_g (i : Mm) (a_told : (List i.E)) (a_due : (List i.E)) : Bool :=
  (if (false = true) then
  (false && ((!false) && (decide (a_told = a_due))))
  else
  (if ((true = true) ∧ (¬ (true = true))) then
  false
  else
  (if ((false = true) ∧ (¬ (false = true))) then
  false
  else
  (if (¬ (a_told.length : Int) = (a_due.length : Int)) then
  false
  else
  ((forL (fun (s_1 : Unit) k_1 =>
  (if (¬ ((decide ((ix a_told k_1) = (ix a_due k_1))) = true)) then
  .ret (false)
  else
  .go ())) (rng 0 (Int.toNat (a_due.length : Int))) ()).out fun s_1 =>
  true)))))

theorem ok_law_same_g (T : Tx P K mg) : ClX P w K mg base 13 "_law_same" (fun i : Md P w K mg base => (spF (fun a : (List i.M.E) × (List i.M.E) => [.val (yT i.R.t) a.1, .val (yT i.R.t) a.2]) (fun a : (List i.M.E) × (List i.M.E) => a.2.length ≤ 1000) yB (fun a => m_law_same_g i.M a.1 a.2))) := by
  obtain ⟨f, fd, hg, FD⟩ := T.g_law_same
  refine ⟨f, fd, ["told", "due"], fun i => ?_, hg, FD.kp, FD.bindsN fun _ _ _ _ _ _ us hl => match us, hl with | [_, _], _ => rfl⟩
  refine TL.FunD.okC (N := ["told", "due", "k"]) FD sc_law_same (lenF fun _ => rfl) fun cdv A outer s H E hr => ?_
  refine ⟨_, (pss_cons (ps_if (pt_val (pe_callB call_isi (by rfl) T.b_isinstance (by decide +kernel) (pa_cons (pv 1) (pa_cons (pe_bltn (v := .ty "int") (by rfl) T.b_int (by decide +kernel) rfl) pa_nil)))) (pss_cons (ps_ret (pe_and (pe_callB call_isi (by rfl) T.b_isinstance (by decide +kernel) (pa_cons (pv 0) (pa_cons (pe_bltn (v := .ty "int") (by rfl) T.b_int (by decide +kernel) rfl) pa_nil))) (pe_and (pe_not (pe_callB call_isi (by rfl) T.b_isinstance (by decide +kernel) (pa_cons (pv 0) (pa_cons (pe_bltn (v := .ty "bool") (by rfl) T.b_bool (by decide +kernel) rfl) pa_nil)))) (pe_one (pe_cmpR (op_eqK (K := K) rfl hr.units) (pv 0) (pv 1) (nomark _)))))) pss_nil) pss_nil) (pss_cons (ps_if (PW.pt (pw_and (pt_val (pe_callB call_isi (by rfl) T.b_isinstance (by decide +kernel) (pa_cons (pv 1) (pa_cons (pe_bltn (v := .ty "tuple") (by rfl) T.b_tuple (by decide +kernel) rfl) pa_nil)))) (pw_and1 (pt_not (pt_val (pe_callB call_isi (by rfl) T.b_isinstance (by decide +kernel) (pa_cons (pv 0) (pa_cons (pe_bltn (v := .ty "tuple") (by rfl) T.b_tuple (by decide +kernel) rfl) pa_nil)))))))) (pss_cons (ps_ret pe_bl) pss_nil) pss_nil) (pss_cons (ps_if (PW.pt (pw_and (pt_val (pe_callB call_isi (by rfl) T.b_isinstance (by decide +kernel) (pa_cons (pv 1) (pa_cons (pe_bltn (v := .ty "list") (by rfl) T.b_list (by decide +kernel) rfl) pa_nil)))) (pw_and1 (pt_not (pt_val (pe_callB call_isi (by rfl) T.b_isinstance (by decide +kernel) (pa_cons (pv 0) (pa_cons (pe_bltn (v := .ty "list") (by rfl) T.b_list (by decide +kernel) rfl) pa_nil)))))))) (pss_cons (ps_ret pe_bl) pss_nil) pss_nil) (pss_cons (ps_if (pt_cmpR op_ne (pe_callB call_len_seq (by rfl) T.b_len (by decide +kernel) (pa_cons (pv 0) pa_nil)) (pe_callB call_len_seq (by rfl) T.b_len (by decide +kernel) (pa_cons (pv 1) pa_nil)) (nomark _)) (pss_cons (ps_ret pe_bl) pss_nil) pss_nil) (pss_cons (ps_for (passes_of rfl) rfl (pi_range1 (by rfl) T.b_range (pa_cons (pe_callB call_len_seq (by rfl) T.b_len (by decide +kernel) (pa_cons (pv 1) pa_nil)) pa_nil)) (pg_name (i := 2) sc_law_same.nd (by rfl) (by first | exact .inl rfl | exact .inr rfl)) (pss_cons (ps_if (pt_not (pt_val (pe_cl i.sameE hr (by decide) (by rfl) passL (pa_cons (pe_ix (ixT_K (K := K) rfl) (pv 0) (pv 2) (fun _ _ => rfl)) (pa_cons (pe_ix (ixT_K (K := K) rfl) (pv 1) (pv 2) (fun _ _ => rfl)) pa_nil))))) (pss_cons (ps_ret pe_bl) pss_nil) pss_nil) pss_nil)) (pss_cons (ps_ret pe_bl) pss_nil)))))), fun vs Q h => run_F (fun F a rt hpre => ?_) vs H Q E h⟩
  show Bd _ _ _ _ _ _ (m_law_same_g i.M a.1 a.2)
  unfold m_law_same_g
  refine b_seq (b_if (tt_b (ev_isi (ct := .type "tuple") (bb := false) ev_var (kit_ty (by decide +kernel)))) (fun h_1 => ?_) (fun h_1 => ?_))
  · exact b_seq (b_ret (ev_andV (ev_isi (ct := .type "tuple") (bb := false) ev_var (kit_ty (by decide +kernel))) fun hb_2 => (ev_andV (ev_notV (ev_isi (ct := .type "tuple") (bb := false) ev_var (kit_ty (by decide +kernel)))) fun hb_1 => (ev_eqD ev_var ev_var))) (fun h => h _))
  · refine b_fall ?_
    refine b_seq (b_if (tt_and (tt_b (ev_isi (ct := .type "tuple") (bb := true) ev_var (kit_ty (by decide +kernel)))) fun hb_3 => (tt_not (tt_b (ev_isi (ct := .type "tuple") (bb := true) ev_var (kit_ty (by decide +kernel)))))) (fun h_2 => ?_) (fun h_2 => ?_))
    · exact b_seq (b_ret ev_bl (fun h => h _))
    · refine b_fall ?_
      refine b_seq (b_if (tt_and (tt_b (ev_isi (ct := .type "tuple") (bb := false) ev_var (kit_ty (by decide +kernel)))) fun hb_4 => (tt_not (tt_b (ev_isi (ct := .type "tuple") (bb := false) ev_var (kit_ty (by decide +kernel)))))) (fun h_3 => ?_) (fun h_3 => ?_))
      · exact b_seq (b_ret ev_bl (fun h => h _))
      · refine b_fall ?_
        refine b_seq (b_if (tt_n (ev_ne (ev_lenT ev_var) (ev_lenT ev_var))) (fun h_4 => ?_) (fun h_4 => ?_))
        · exact b_seq (b_ret ev_bl (fun h => h _))
        · refine b_fall ?_
          refine b_for _ (fun (s_1 : Unit) => ([] : Own)) (fun (s_1 : Unit) => (⟨[.val (yT i.R.t) a.1, .val (yT i.R.t) a.2, .any], []⟩ : Lc)) (fun _ _ => True) () (iv_rng1 (ev_lenT ev_var) (by omega) (by omega)) (tg_name 2) rfl ⟨(.cons (.inl rfl) (.cons (.inl rfl) (.cons (.inr rfl) .nil))), rfl⟩ trivial (fun _ _ _ _ _ _ _ _ => trivial) (fun gs_1 pre k_1 post s_1 he_1 hj_1 N B P' hgo_1 hret_1 => ?_) (fun s_1 hj_2 => ?_)
          · have hmk_1 : k_1 ∈ (rng 0 (Int.toNat (a.2.length : Int))) := by rw [he_1]; exact List.mem_append_right _ List.mem_cons_self
            refine b_seq (b_if (tt_not (tt_b (ev_call ((ix a.1 k_1), (ix a.2 k_1)) (ea_cons (ev_ixT ev_var ev_var (by have hm := mem_rng hmk_1; have hl := Decidable.of_not_not ‹¬ ¬ ((_ : Int) = _)›; unfold Inb; omega)) (ea_cons (ev_ixT ev_var ev_var (by have hm := mem_rng hmk_1; unfold Inb; omega)) ea_nil)) rfl trivial))) (fun h_5 => ?_) (fun h_5 => ?_))
            · exact b_seq (b_ret ev_bl (fun h => (hret_1 _ h) _))
            · refine b_fall ?_
              exact b_next fun h => nx_wk (hgo_1 _ h) ⟨(.cons (.inl rfl) (.cons (.inl rfl) (.cons (.inr rfl) .nil))), rfl⟩
          · exact b_seq (b_ret ev_bl (fun h => h _))

def m_law_same_s (i : Mm) (a_told : (Unit ⊕ (List i.E))) (a_due : (List i.E)) : Bool :=
  (if (false = true) then
  (false && ((!false) && (decide ((our a_told) = a_due))))
  else
  (if ((true = true) ∧ (¬ ((!Sum.isLeft a_told) = true))) then
  false
  else
  (if ((false = true) ∧ (¬ (false = true))) then
  false
  else
  (if (¬ ((our a_told).length : Int) = (a_due.length : Int)) then
  false
  else
  ((forL (fun (s_1 : Unit) k_1 =>
  (if (¬ ((decide ((ix (our a_told) k_1) = (ix a_due k_1))) = true)) then
  .ret (false)
  else
  .go ())) (rng 0 (Int.toNat (a_due.length : Int))) ()).out fun s_1 =>
  true)))))
theorem sm_right {α : Type} {x : Unit ⊕ α} (h : ¬ (true = true ∧ ¬ (!x.isLeft) = true)) : x.isLeft = false := by
  cases x with
  | inl a => exact absurd ⟨rfl, by simp⟩ h
  | inr b => rfl


theorem ok_law_same_s (T : Tx P K mg) : ClX P w K mg base 13 "_law_same" (fun i : Md P w K mg base => (spF (fun a : (Unit ⊕ (List i.M.E)) × (List i.M.E) => [.val (ySum yN (yT i.R.t)) a.1, .val (yT i.R.t) a.2]) (fun a : (Unit ⊕ (List i.M.E)) × (List i.M.E) => a.2.length ≤ 1000) yB (fun a => m_law_same_s i.M a.1 a.2))) := by
  obtain ⟨f, fd, hg, FD⟩ := T.g_law_same
  refine ⟨f, fd, ["told", "due"], fun i => ?_, hg, FD.kp, FD.bindsN fun _ _ _ _ _ _ us hl => match us, hl with | [_, _], _ => rfl⟩
  refine TL.FunD.okC (N := ["told", "due", "k"]) FD sc_law_same (lenF fun _ => rfl) fun cdv A outer s H E hr => ?_
  refine ⟨_, (pss_cons (ps_if (pt_val (pe_callB call_isi (by rfl) T.b_isinstance (by decide +kernel) (pa_cons (pv 1) (pa_cons (pe_bltn (v := .ty "int") (by rfl) T.b_int (by decide +kernel) rfl) pa_nil)))) (pss_cons (ps_ret (pe_and (pe_callB call_isi (by rfl) T.b_isinstance (by decide +kernel) (pa_cons (pv 0) (pa_cons (pe_bltn (v := .ty "int") (by rfl) T.b_int (by decide +kernel) rfl) pa_nil))) (pe_and (pe_not (pe_callB call_isi (by rfl) T.b_isinstance (by decide +kernel) (pa_cons (pv 0) (pa_cons (pe_bltn (v := .ty "bool") (by rfl) T.b_bool (by decide +kernel) rfl) pa_nil)))) (pe_one (pe_cmpR (op_eqK (K := K) rfl hr.units) (pv 0) (pv 1) (nomark _)))))) pss_nil) pss_nil) (pss_cons (ps_if (PW.pt (pw_and (pt_val (pe_callB call_isi (by rfl) T.b_isinstance (by decide +kernel) (pa_cons (pv 1) (pa_cons (pe_bltn (v := .ty "tuple") (by rfl) T.b_tuple (by decide +kernel) rfl) pa_nil)))) (pw_and1 (pt_not (pt_val (pe_callB call_isi (by rfl) T.b_isinstance (by decide +kernel) (pa_cons (pv 0) (pa_cons (pe_bltn (v := .ty "tuple") (by rfl) T.b_tuple (by decide +kernel) rfl) pa_nil)))))))) (pss_cons (ps_ret pe_bl) pss_nil) pss_nil) (pss_cons (ps_if (PW.pt (pw_and (pt_val (pe_callB call_isi (by rfl) T.b_isinstance (by decide +kernel) (pa_cons (pv 1) (pa_cons (pe_bltn (v := .ty "list") (by rfl) T.b_list (by decide +kernel) rfl) pa_nil)))) (pw_and1 (pt_not (pt_val (pe_callB call_isi (by rfl) T.b_isinstance (by decide +kernel) (pa_cons (pv 0) (pa_cons (pe_bltn (v := .ty "list") (by rfl) T.b_list (by decide +kernel) rfl) pa_nil)))))))) (pss_cons (ps_ret pe_bl) pss_nil) pss_nil) (pss_cons (ps_if (pt_cmpR op_ne (pe_callB call_len_seq (by rfl) T.b_len (by decide +kernel) (pa_cons (pv 0) pa_nil)) (pe_callB call_len_seq (by rfl) T.b_len (by decide +kernel) (pa_cons (pv 1) pa_nil)) (nomark _)) (pss_cons (ps_ret pe_bl) pss_nil) pss_nil) (pss_cons (ps_for (passes_of rfl) rfl (pi_range1 (by rfl) T.b_range (pa_cons (pe_callB call_len_seq (by rfl) T.b_len (by decide +kernel) (pa_cons (pv 1) pa_nil)) pa_nil)) (pg_name (i := 2) sc_law_same.nd (by rfl) (by first | exact .inl rfl | exact .inr rfl)) (pss_cons (ps_if (pt_not (pt_val (pe_cl i.sameE hr (by decide) (by rfl) passL (pa_cons (pe_ix (ixT_K (K := K) rfl) (pv 0) (pv 2) (fun _ _ => rfl)) (pa_cons (pe_ix (ixT_K (K := K) rfl) (pv 1) (pv 2) (fun _ _ => rfl)) pa_nil))))) (pss_cons (ps_ret pe_bl) pss_nil) pss_nil) pss_nil)) (pss_cons (ps_ret pe_bl) pss_nil)))))), fun vs Q h => run_F (fun F a rt hpre => ?_) vs H Q E h⟩
  show Bd _ _ _ _ _ _ (m_law_same_s i.M a.1 a.2)
  unfold m_law_same_s
  refine b_seq (b_if (tt_b (ev_isi (ct := .type "tuple") (bb := false) ev_var (kit_ty (by decide +kernel)))) (fun h_1 => ?_) (fun h_1 => ?_))
  · exact b_seq (b_ret (ev_andV (ev_isiSF (ct := .type "tuple") ev_var (kit_ty (by decide +kernel)) (kit_ty (by decide +kernel))) fun hb_2 => (ev_andV (ev_notV (ev_isiSF (ct := .type "tuple") ev_var (kit_ty (by decide +kernel)) (kit_ty (by decide +kernel)))) fun hb_1 => (ev_eqD (ev_outr ev_var (by first | exact sm_right ‹_› | exact absurd ‹false = true› Bool.false_ne_true)) ev_var))) (fun h => h _))
  · refine b_fall ?_
    refine b_seq (b_if (tt_and (tt_b (ev_isi (ct := .type "tuple") (bb := true) ev_var (kit_ty (by decide +kernel)))) fun hb_3 => (tt_not (tt_b (ev_isiS (ct := .type "tuple") ev_var (kit_ty (by decide +kernel)) (kit_ty (by decide +kernel)))))) (fun h_2 => ?_) (fun h_2 => ?_))
    · exact b_seq (b_ret ev_bl (fun h => h _))
    · refine b_fall ?_
      refine b_seq (b_if (tt_and (tt_b (ev_isi (ct := .type "tuple") (bb := false) ev_var (kit_ty (by decide +kernel)))) fun hb_4 => (tt_not (tt_b (ev_isiSF (ct := .type "tuple") ev_var (kit_ty (by decide +kernel)) (kit_ty (by decide +kernel)))))) (fun h_3 => ?_) (fun h_3 => ?_))
      · exact b_seq (b_ret ev_bl (fun h => h _))
      · refine b_fall ?_
        refine b_seq (b_if (tt_n (ev_ne (ev_lenT (ev_outr ev_var (by first | exact sm_right ‹_› | exact absurd ‹false = true› Bool.false_ne_true))) (ev_lenT ev_var))) (fun h_4 => ?_) (fun h_4 => ?_))
        · exact b_seq (b_ret ev_bl (fun h => h _))
        · refine b_fall ?_
          refine b_for _ (fun (s_1 : Unit) => ([] : Own)) (fun (s_1 : Unit) => (⟨[.val (ySum yN (yT i.R.t)) a.1, .val (yT i.R.t) a.2, .any], []⟩ : Lc)) (fun _ _ => True) () (iv_rng1 (ev_lenT ev_var) (by omega) (by omega)) (tg_name 2) rfl ⟨(.cons (.inl rfl) (.cons (.inl rfl) (.cons (.inr rfl) .nil))), rfl⟩ trivial (fun _ _ _ _ _ _ _ _ => trivial) (fun gs_1 pre k_1 post s_1 he_1 hj_1 N B P' hgo_1 hret_1 => ?_) (fun s_1 hj_2 => ?_)
          · have hmk_1 : k_1 ∈ (rng 0 (Int.toNat (a.2.length : Int))) := by rw [he_1]; exact List.mem_append_right _ List.mem_cons_self
            refine b_seq (b_if (tt_not (tt_b (ev_call ((ix (our a.1) k_1), (ix a.2 k_1)) (ea_cons (ev_ixT (ev_outr ev_var (by first | exact sm_right ‹_› | exact absurd ‹false = true› Bool.false_ne_true)) ev_var (by have hm := mem_rng hmk_1; have hl := Decidable.of_not_not ‹¬ ¬ ((_ : Int) = _)›; unfold Inb; omega)) (ea_cons (ev_ixT ev_var ev_var (by have hm := mem_rng hmk_1; unfold Inb; omega)) ea_nil)) rfl trivial))) (fun h_5 => ?_) (fun h_5 => ?_))
            · exact b_seq (b_ret ev_bl (fun h => (hret_1 _ h) _))
            · refine b_fall ?_
              exact b_next fun h => nx_wk (hgo_1 _ h) ⟨(.cons (.inl rfl) (.cons (.inl rfl) (.cons (.inr rfl) .nil))), rfl⟩
          · exact b_seq (b_ret ev_bl (fun h => h _))

theorem sc_law_products : FnScope ["own", "five", "a", "b", "c", "d", "o", "first", "last"] ["own", "five"] (defScope s_law_products) := ⟨rfl, rfl, rfl, by decide +kernel, rfl, by decide +kernel, by decide +kernel⟩
def m_law_products_g {A : Type} [Lean.Grind.CommRing A] [DecidableEq A] (iof : Int → A) (io : Int × Int × List (List Int)) (a_five : (List (A × A × A))) : (A × A) :=
  bnd a_five fun u_1 =>
  bnd (m_law_bracket_g iof io (ix u_1 0) (ix u_1 2) (ix u_1 4)) fun first_1 =>
  bnd (m_law_bracket_g iof io (ix u_1 0) (ix u_1 3) (ix u_1 4)) fun last_1 =>
  bnd (first_1 * (m_law_bracket_g iof io (ix u_1 1) (ix u_1 3) (ix u_1 4))) fun first_2 =>
  (first_2, (last_1 * (m_law_bracket_g iof io (ix u_1 1) (ix u_1 2) (ix u_1 4))))
theorem five_at {A : Type} [Lean.Grind.CommRing A] {m : Ms A} {n : Nat} {f : List (V3 A)} (h1 : f.length = 5) (h2 : ∀ v ∈ f, m.b3 n 0 v) {k : Int} (h : 0 ≤ k ∧ k < 5) : m.b3 n 0 (ix f k) := h2 _ (ix_mem ⟨by omega, by omega⟩)
theorem gp_pre {A : Type} [Lean.Grind.CommRing A] [DecidableEq A] {m : Ms A} {f u : List (V3 A)} (e : u = f) (h1 : f.length = 5) (h2 : ∀ v ∈ f, m.b3 400 0 v) {j k l : Int} (hj : 0 ≤ j ∧ j < 5) (hk : 0 ≤ k ∧ k < 5) (hl : 0 ≤ l ∧ l < 5) : m.b3 900 0 (ix u j) ∧ m.b3 400 0 (ix u k) ∧ m.b3 400 0 (ix u l) := by
  subst e
  exact ⟨b3_mono (five_at h1 h2 hj) (by decide) (by decide), five_at h1 h2 hk, five_at h1 h2 hl⟩
theorem gp_two {A : Type} [Lean.Grind.CommRing A] [DecidableEq A] {m : Ms A} {f : List (V3 A)} {g : Int → A} {o : Ow} (h1 : f.length = 5) (h2 : ∀ v ∈ f, m.b3 400 0 v) {j k l j' k' l' : Int} (hj : 0 ≤ j ∧ j < 5) (hk : 0 ≤ k ∧ k < 5) (hl : 0 ≤ l ∧ l < 5) (hj' : 0 ≤ j' ∧ j' < 5) (hk' : 0 ≤ k' ∧ k' < 5) (hl' : 0 ≤ l' ∧ l' < 5) :
    m.bd 3000 0 (m_law_bracket_g g o (ix f j) (ix f k) (ix f l)) ∧ m.bd 3000 0 (m_law_bracket_g g o (ix f j') (ix f k') (ix f l')) :=
  ⟨m.mono (bd_lbracket (five_at h1 h2 hj) (five_at h1 h2 hk) (five_at h1 h2 hl)) (by decide) (by decide), m.mono (bd_lbracket (five_at h1 h2 hj') (five_at h1 h2 hk') (five_at h1 h2 hl')) (by decide) (by decide)⟩


theorem ok_law_products_g (T : Tx P K mg) : ClX P w K mg base 15 "_law_products" (fun i : OgB P w K mg base => (spF (fun a : (List (i.A × i.A × i.A)) => [.val (yH3 yI yI (yL (yL yI))) i.o, .val (yL (yH3 i.S.t i.S.t i.S.t)) a]) (fun a : (List (i.A × i.A × i.A)) => a.length = 5 ∧ ∀ v ∈ a, i.S.m.b3 400 0 v) (yP i.S.t i.S.t) (fun a => m_law_products_g i.of i.o a))) := by
  obtain ⟨f, fd, hg, FD⟩ := T.g_law_products
  refine ⟨f, fd, ["own", "five"], fun i => ?_, hg, FD.kp, FD.bindsN fun _ _ _ _ _ _ us hl => match us, hl with | [_, _], _ => rfl⟩
  refine TL.FunD.okC (N := ["own", "five", "a", "b", "c", "d", "o", "first", "last"]) FD sc_law_products (lenF fun _ => rfl) fun cdv A outer s H E hr => ?_
  refine ⟨_, (pss_cons (ps_asg (pv 1) (pg_unlK (K := K) (n := 5) rfl (by rfl) (pgs_cons (pg_name (i := 2) sc_law_products.nd (by rfl) (by first | exact .inl rfl | exact .inr rfl)) (pgs_cons (pg_name (i := 3) sc_law_products.nd (by rfl) (by first | exact .inl rfl | exact .inr rfl)) (pgs_cons (pg_name (i := 4) sc_law_products.nd (by rfl) (by first | exact .inl rfl | exact .inr rfl)) (pgs_cons (pg_name (i := 5) sc_law_products.nd (by rfl) (by first | exact .inl rfl | exact .inr rfl)) (pgs_cons (pg_name (i := 6) sc_law_products.nd (by rfl) (by first | exact .inl rfl | exact .inr rfl)) pgs_nil))))))) (pss_cons (ps_set (i := 7) sc_law_products.nd rfl (by first | exact .inl rfl | exact .inr rfl) (pe_cl ((ok_law_bracket_g T).at i) hr (by decide) (by rfl) passL (pa_cons (pv 0) (pa_cons (pv 2) (pa_cons (pv 4) (pa_cons (pv 6) pa_nil)))))) (pss_cons (ps_set (i := 8) sc_law_products.nd rfl (by first | exact .inl rfl | exact .inr rfl) (pe_cl ((ok_law_bracket_g T).at i) hr (by decide) (by rfl) passL (pa_cons (pv 0) (pa_cons (pv 2) (pa_cons (pv 5) (pa_cons (pv 6) pa_nil)))))) (pss_cons (ps_set (i := 7) sc_law_products.nd rfl (by first | exact .inl rfl | exact .inr rfl) (pe_cl i.S.times hr (by decide) (by rfl) passL (pa_cons (pv 0) (pa_cons (pv 7) (pa_cons (pe_cl ((ok_law_bracket_g T).at i) hr (by decide) (by rfl) passL (pa_cons (pv 0) (pa_cons (pv 3) (pa_cons (pv 5) (pa_cons (pv 6) pa_nil))))) pa_nil))))) (pss_cons (ps_ret (pe_tup (pa_cons (pv 7) (pa_cons (pe_cl i.S.times hr (by decide) (by rfl) passL (pa_cons (pv 0) (pa_cons (pv 8) (pa_cons (pe_cl ((ok_law_bracket_g T).at i) hr (by decide) (by rfl) passL (pa_cons (pv 0) (pa_cons (pv 3) (pa_cons (pv 4) (pa_cons (pv 6) pa_nil))))) pa_nil)))) pa_nil)))) pss_nil))))), fun vs Q h => run_F (fun F a rt hpre => ?_) vs H Q E h⟩
  obtain ⟨hp1, hp2⟩ := id hpre
  show Bd _ _ _ _ _ _ (m_law_products_g i.of i.o a)
  unfold m_law_products_g
  refine b_unL5 (t := (yH3 i.S.t i.S.t i.S.t)) (i := 2) (j := 3) (m := 4) (i2 := 5) (j2 := 6) ev_var (by (first | omega | (refine gp_pre hu_1 hp1 hp2 ?_ ?_ ?_ <;> decide) | (subst_vars; exact gp_two hp1 hp2 (by decide) (by decide) (by decide) (by decide) (by decide) (by decide)))) (fun u_1 hu_1 => ?_)
  refine b_let (ev_call ((ix u_1 0), (ix u_1 2), (ix u_1 4)) (ea_cons ev_var (ea_cons (ev_cv ev_var (fun h => rp_H3X ((fun h => h) h))) (ea_cons (ev_cv ev_var (fun h => rp_H3X ((fun h => h) h))) (ea_cons (ev_cv ev_var (fun h => rp_H3X ((fun h => h) h))) ea_nil)))) rfl (by (first | omega | (refine gp_pre hu_1 hp1 hp2 ?_ ?_ ?_ <;> decide) | (subst_vars; exact gp_two hp1 hp2 (by decide) (by decide) (by decide) (by decide) (by decide) (by decide))))) fun first_1 hfirst_1 => ?_
  refine b_let (ev_call ((ix u_1 0), (ix u_1 3), (ix u_1 4)) (ea_cons ev_var (ea_cons (ev_cv ev_var (fun h => rp_H3X ((fun h => h) h))) (ea_cons (ev_cv ev_var (fun h => rp_H3X ((fun h => h) h))) (ea_cons (ev_cv ev_var (fun h => rp_H3X ((fun h => h) h))) ea_nil)))) rfl (by (first | omega | (refine gp_pre hu_1 hp1 hp2 ?_ ?_ ?_ <;> decide) | (subst_vars; exact gp_two hp1 hp2 (by decide) (by decide) (by decide) (by decide) (by decide) (by decide))))) fun last_1 hlast_1 => ?_
  refine b_let (ev_call (first_1, (m_law_bracket_g i.of i.o (ix u_1 1) (ix u_1 3) (ix u_1 4))) (ea_cons ev_var (ea_cons ev_var (ea_cons (ev_call ((ix u_1 1), (ix u_1 3), (ix u_1 4)) (ea_cons ev_var (ea_cons (ev_cv ev_var (fun h => rp_H3X ((fun h => h) h))) (ea_cons (ev_cv ev_var (fun h => rp_H3X ((fun h => h) h))) (ea_cons (ev_cv ev_var (fun h => rp_H3X ((fun h => h) h))) ea_nil)))) rfl (by (first | omega | (refine gp_pre hu_1 hp1 hp2 ?_ ?_ ?_ <;> decide) | (subst_vars; exact gp_two hp1 hp2 (by decide) (by decide) (by decide) (by decide) (by decide) (by decide))))) ea_nil))) rfl (by (first | omega | (refine gp_pre hu_1 hp1 hp2 ?_ ?_ ?_ <;> decide) | (subst_vars; exact gp_two hp1 hp2 (by decide) (by decide) (by decide) (by decide) (by decide) (by decide))))) fun first_2 hfirst_2 => ?_
  exact b_seq (b_ret (ev_pair (ea_cons ev_var (ea_cons (ev_call (last_1, (m_law_bracket_g i.of i.o (ix u_1 1) (ix u_1 2) (ix u_1 4))) (ea_cons ev_var (ea_cons ev_var (ea_cons (ev_call ((ix u_1 1), (ix u_1 2), (ix u_1 4)) (ea_cons ev_var (ea_cons (ev_cv ev_var (fun h => rp_H3X ((fun h => h) h))) (ea_cons (ev_cv ev_var (fun h => rp_H3X ((fun h => h) h))) (ea_cons (ev_cv ev_var (fun h => rp_H3X ((fun h => h) h))) ea_nil)))) rfl (by (first | omega | (refine gp_pre hu_1 hp1 hp2 ?_ ?_ ?_ <;> decide) | (subst_vars; exact gp_two hp1 hp2 (by decide) (by decide) (by decide) (by decide) (by decide) (by decide))))) ea_nil))) rfl (by (first | omega | (refine gp_pre hu_1 hp1 hp2 ?_ ?_ ?_ <;> decide) | (subst_vars; exact gp_two hp1 hp2 (by decide) (by decide) (by decide) (by decide) (by decide) (by decide))))) ea_nil))) (fun h => h _))

theorem bd_prods {A : Type} [Lean.Grind.CommRing A] [DecidableEq A] {m : Ms A} {f : List (V3 A)} {g : Int → A} {o : Ow} {n : Nat} (h1 : f.length = 5) (h2 : ∀ v ∈ f, m.b3 n 0 v) : m.bd (6 * n + 6) 0 (m_law_products_g g o f).1 ∧ m.bd (6 * n + 6) 0 (m_law_products_g g o f).2 := by
  have k : ∀ {a b c : Int}, 0 ≤ a ∧ a < 5 → 0 ≤ b ∧ b < 5 → 0 ≤ c ∧ c < 5 → m.bd (3 * n + 3) 0 (m_law_bracket_g g o (ix f a) (ix f b) (ix f c)) := fun ha hb hc => m.mono (bd_lbracket (five_at h1 h2 ha) (five_at h1 h2 hb) (five_at h1 h2 hc)) (by omega) (by omega)
  unfold m_law_products_g
  simp only [bnd]
  exact ⟨m.mono (m.mul (k (by decide) (by decide) (by decide)) (k (by decide) (by decide) (by decide))) (by omega) (by omega), m.mono (m.mul (k (by decide) (by decide) (by decide)) (k (by decide) (by decide) (by decide))) (by omega) (by omega)⟩

def m_law_same (a_told : Int) (a_due : Int) : Bool :=
  (true && ((!false) && (decide (a_told = a_due))))

theorem ok_law_same (T : Tx P K mg) : Cl P w K mg base 1 "_law_same" (spF (fun a : Int × Int => [.val yI a.1, .val yI a.2]) (fun _ : Int × Int => True) yB (fun a => m_law_same a.1 a.2)) := by
  obtain ⟨f, fd, hg, FD⟩ := T.g_law_same
  refine ⟨f, fd, ["told", "due"], ?_, hg, FD.kp, FD.bindsN fun _ _ _ _ _ _ us hl => match us, hl with | [_, _], _ => rfl⟩
  refine TL.FunD.okC (N := ["told", "due", "k"]) FD sc_law_same (lenF fun _ => rfl) fun cdv A outer s H E hr => ?_
  refine ⟨_, (pss_cons (ps_if (pt_val (pe_callB call_isi (by rfl) T.b_isinstance (by decide +kernel) (pa_cons (pv 1) (pa_cons (pe_bltn (v := .ty "int") (by rfl) T.b_int (by decide +kernel) rfl) pa_nil)))) (pss_cons (ps_ret (pe_and (pe_callB call_isi (by rfl) T.b_isinstance (by decide +kernel) (pa_cons (pv 0) (pa_cons (pe_bltn (v := .ty "int") (by rfl) T.b_int (by decide +kernel) rfl) pa_nil))) (pe_and (pe_not (pe_callB call_isi (by rfl) T.b_isinstance (by decide +kernel) (pa_cons (pv 0) (pa_cons (pe_bltn (v := .ty "bool") (by rfl) T.b_bool (by decide +kernel) rfl) pa_nil)))) (pe_one (pe_cmpR op_eq (pv 0) (pv 1) (nomark _)))))) pss_nil) pss_nil) pss_dead), fun vs Q h => run_F (fun F a rt hpre => ?_) vs H Q E h⟩
  show Bd _ _ _ _ _ _ (m_law_same a.1 a.2)
  unfold m_law_same
  refine b_seq (b_ifT (tt_b (ev_isi (ct := .type "int") (bb := true) ev_var (kit_ty (by decide +kernel)))) (by rfl) ?_)
  exact b_seq (b_ret (ev_andV (ev_isi (ct := .type "int") (bb := true) ev_var (kit_ty (by decide +kernel))) fun hb_2 => (ev_andV (ev_notV (ev_isi (ct := .type "int") (bb := false) ev_var (kit_ty (by decide +kernel)))) fun hb_1 => (ev_eq ev_var ev_var))) (fun h => h _))

def m_law_same_t (a_told : (List Int)) (a_due : (List Int)) : Bool :=
  (if (false = true) then
  (false && ((!false) && (decide (a_told = a_due))))
  else
  (if ((true = true) ∧ (¬ (true = true))) then
  false
  else
  (if ((false = true) ∧ (¬ (false = true))) then
  false
  else
  (if (¬ (a_told.length : Int) = (a_due.length : Int)) then
  false
  else
  ((forL (fun (s_1 : Unit) k_1 =>
  (if (¬ ((m_law_same (ix a_told k_1) (ix a_due k_1)) = true)) then
  .ret (false)
  else
  .go ())) (rng 0 (Int.toNat (a_due.length : Int))) ()).out fun s_1 =>
  true)))))

theorem ok_law_same_t (T : Tx P K mg) : Cl P w K mg base 2 "_law_same" (spF (fun a : (List Int) × (List Int) => [.val (yT yI) a.1, .val (yT yI) a.2]) (fun a : (List Int) × (List Int) => a.2.length ≤ 1000) yB (fun a => m_law_same_t a.1 a.2)) := by
  obtain ⟨f, fd, hg, FD⟩ := T.g_law_same
  refine ⟨f, fd, ["told", "due"], ?_, hg, FD.kp, FD.bindsN fun _ _ _ _ _ _ us hl => match us, hl with | [_, _], _ => rfl⟩
  refine TL.FunD.okC (N := ["told", "due", "k"]) FD sc_law_same (lenF fun _ => rfl) fun cdv A outer s H E hr => ?_
  refine ⟨_, (pss_cons (ps_if (pt_val (pe_callB call_isi (by rfl) T.b_isinstance (by decide +kernel) (pa_cons (pv 1) (pa_cons (pe_bltn (v := .ty "int") (by rfl) T.b_int (by decide +kernel) rfl) pa_nil)))) (pss_cons (ps_ret (pe_and (pe_callB call_isi (by rfl) T.b_isinstance (by decide +kernel) (pa_cons (pv 0) (pa_cons (pe_bltn (v := .ty "int") (by rfl) T.b_int (by decide +kernel) rfl) pa_nil))) (pe_and (pe_not (pe_callB call_isi (by rfl) T.b_isinstance (by decide +kernel) (pa_cons (pv 0) (pa_cons (pe_bltn (v := .ty "bool") (by rfl) T.b_bool (by decide +kernel) rfl) pa_nil)))) (pe_one (pe_cmpR (op_eqK (K := K) rfl hr.units) (pv 0) (pv 1) (nomark _)))))) pss_nil) pss_nil) (pss_cons (ps_if (PW.pt (pw_and (pt_val (pe_callB call_isi (by rfl) T.b_isinstance (by decide +kernel) (pa_cons (pv 1) (pa_cons (pe_bltn (v := .ty "tuple") (by rfl) T.b_tuple (by decide +kernel) rfl) pa_nil)))) (pw_and1 (pt_not (pt_val (pe_callB call_isi (by rfl) T.b_isinstance (by decide +kernel) (pa_cons (pv 0) (pa_cons (pe_bltn (v := .ty "tuple") (by rfl) T.b_tuple (by decide +kernel) rfl) pa_nil)))))))) (pss_cons (ps_ret pe_bl) pss_nil) pss_nil) (pss_cons (ps_if (PW.pt (pw_and (pt_val (pe_callB call_isi (by rfl) T.b_isinstance (by decide +kernel) (pa_cons (pv 1) (pa_cons (pe_bltn (v := .ty "list") (by rfl) T.b_list (by decide +kernel) rfl) pa_nil)))) (pw_and1 (pt_not (pt_val (pe_callB call_isi (by rfl) T.b_isinstance (by decide +kernel) (pa_cons (pv 0) (pa_cons (pe_bltn (v := .ty "list") (by rfl) T.b_list (by decide +kernel) rfl) pa_nil)))))))) (pss_cons (ps_ret pe_bl) pss_nil) pss_nil) (pss_cons (ps_if (pt_cmpR op_ne (pe_callB call_len_seq (by rfl) T.b_len (by decide +kernel) (pa_cons (pv 0) pa_nil)) (pe_callB call_len_seq (by rfl) T.b_len (by decide +kernel) (pa_cons (pv 1) pa_nil)) (nomark _)) (pss_cons (ps_ret pe_bl) pss_nil) pss_nil) (pss_cons (ps_for (passes_of rfl) rfl (pi_range1 (by rfl) T.b_range (pa_cons (pe_callB call_len_seq (by rfl) T.b_len (by decide +kernel) (pa_cons (pv 1) pa_nil)) pa_nil)) (pg_name (i := 2) sc_law_same.nd (by rfl) (by first | exact .inl rfl | exact .inr rfl)) (pss_cons (ps_if (pt_not (pt_val (pe_cl (ok_law_same T) hr (by decide) (by rfl) passL (pa_cons (pe_ix (ixT_K (K := K) rfl) (pv 0) (pv 2) (fun _ _ => rfl)) (pa_cons (pe_ix (ixT_K (K := K) rfl) (pv 1) (pv 2) (fun _ _ => rfl)) pa_nil))))) (pss_cons (ps_ret pe_bl) pss_nil) pss_nil) pss_nil)) (pss_cons (ps_ret pe_bl) pss_nil)))))), fun vs Q h => run_F (fun F a rt hpre => ?_) vs H Q E h⟩
  show Bd _ _ _ _ _ _ (m_law_same_t a.1 a.2)
  unfold m_law_same_t
  refine b_seq (b_if (tt_b (ev_isi (ct := .type "tuple") (bb := false) ev_var (kit_ty (by decide +kernel)))) (fun h_1 => ?_) (fun h_1 => ?_))
  · exact b_seq (b_ret (ev_andV (ev_isi (ct := .type "tuple") (bb := false) ev_var (kit_ty (by decide +kernel))) fun hb_2 => (ev_andV (ev_notV (ev_isi (ct := .type "tuple") (bb := false) ev_var (kit_ty (by decide +kernel)))) fun hb_1 => (ev_eqD ev_var ev_var))) (fun h => h _))
  · refine b_fall ?_
    refine b_seq (b_if (tt_and (tt_b (ev_isi (ct := .type "tuple") (bb := true) ev_var (kit_ty (by decide +kernel)))) fun hb_3 => (tt_not (tt_b (ev_isi (ct := .type "tuple") (bb := true) ev_var (kit_ty (by decide +kernel)))))) (fun h_2 => ?_) (fun h_2 => ?_))
    · exact b_seq (b_ret ev_bl (fun h => h _))
    · refine b_fall ?_
      refine b_seq (b_if (tt_and (tt_b (ev_isi (ct := .type "tuple") (bb := false) ev_var (kit_ty (by decide +kernel)))) fun hb_4 => (tt_not (tt_b (ev_isi (ct := .type "tuple") (bb := false) ev_var (kit_ty (by decide +kernel)))))) (fun h_3 => ?_) (fun h_3 => ?_))
      · exact b_seq (b_ret ev_bl (fun h => h _))
      · refine b_fall ?_
        refine b_seq (b_if (tt_n (ev_ne (ev_lenT ev_var) (ev_lenT ev_var))) (fun h_4 => ?_) (fun h_4 => ?_))
        · exact b_seq (b_ret ev_bl (fun h => h _))
        · refine b_fall ?_
          refine b_for _ (fun (s_1 : Unit) => ([] : Own)) (fun (s_1 : Unit) => (⟨[.val (yT yI) a.1, .val (yT yI) a.2, .any], []⟩ : Lc)) (fun _ _ => True) () (iv_rng1 (ev_lenT ev_var) (by omega) (by omega)) (tg_name 2) rfl ⟨(.cons (.inl rfl) (.cons (.inl rfl) (.cons (.inr rfl) .nil))), rfl⟩ trivial (fun _ _ _ _ _ _ _ _ => trivial) (fun gs_1 pre k_1 post s_1 he_1 hj_1 N B P' hgo_1 hret_1 => ?_) (fun s_1 hj_2 => ?_)
          · have hmk_1 : k_1 ∈ (rng 0 (Int.toNat (a.2.length : Int))) := by rw [he_1]; exact List.mem_append_right _ List.mem_cons_self
            refine b_seq (b_if (tt_not (tt_b (ev_call ((ix a.1 k_1), (ix a.2 k_1)) (ea_cons (ev_ixT ev_var ev_var (by have hm := mem_rng hmk_1; have hl := Decidable.of_not_not ‹¬ ¬ ((_ : Int) = _)›; unfold Inb; omega)) (ea_cons (ev_ixT ev_var ev_var (by have hm := mem_rng hmk_1; unfold Inb; omega)) ea_nil)) rfl trivial))) (fun h_5 => ?_) (fun h_5 => ?_))
            · exact b_seq (b_ret ev_bl (fun h => (hret_1 _ h) _))
            · refine b_fall ?_
              exact b_next fun h => nx_wk (hgo_1 _ h) ⟨(.cons (.inl rfl) (.cons (.inl rfl) (.cons (.inr rfl) .nil))), rfl⟩
          · exact b_seq (b_ret ev_bl (fun h => h _))

def m_law_times_z (a_own : (Int × Int × (List (List Int)))) (a_a : Int) (a_b : Int) : Int :=
  (a_a * a_b)

theorem ok_law_times_z (T : Tx P K mg) : Cl P w K mg base 1 "_law_times" (spF (fun a : (Int × Int × (List (List Int))) × Int × Int => [.val (yH3 yI yI (yL (yL yI))) a.1, .val yI a.2.1, .val yI a.2.2]) (fun a : (Int × Int × (List (List Int))) × Int × Int => a.1.1 = 0 ∧ Sz 4000 a.2.1 ∧ Sz 4000 a.2.2) yI (fun a => m_law_times_z a.1 a.2.1 a.2.2)) := by
  obtain ⟨f, fd, hg, FD⟩ := T.g_law_times
  refine ⟨f, fd, ["own", "a", "b"], ?_, hg, FD.kp, FD.bindsN fun _ _ _ _ _ _ us hl => match us, hl with | [_, _, _], _ => rfl⟩
  refine TL.FunD.okC (N := ["own", "a", "b"]) FD sc_law_times (lenF fun _ => rfl) fun cdv A outer s H E hr => ?_
  refine ⟨_, (pss_cons (ps_if (pt_cmpR op_eq (pe_ix (ixL_K (K := K) rfl) (pv 0) pe_int (fun _ _ => rfl)) pe_int (nomark _)) (pss_cons (ps_ret (pe_op op_mulW (pv 1) (pv 2))) pss_nil) pss_nil) pss_dead), fun vs Q h => run_F (fun F a rt hpre => ?_) vs H Q E h⟩
  show Bd _ _ _ _ _ _ (m_law_times_z a.1 a.2.1 a.2.2)
  unfold m_law_times_z
  refine b_seq (b_ifT (tt_d (ev_eq (ev_h3a (x := a.1) ev_var) ev_int)) (by exact hpre.1) ?_)
  exact b_seq (b_ret (ev_mul ev_var ev_var (by exact sz_mulW hpre.2.1 hpre.2.2)) (fun h => h _))

theorem sc_law_gcd : FnScope ["a", "b"] ["a", "b"] (defScope s_law_gcd) := ⟨rfl, rfl, rfl, by decide +kernel, rfl, by decide +kernel, by decide +kernel⟩
def m_law_gcd (a_a : Int) (a_b : Int) : Int :=
  ((whileL (fun s_1 : Int × Int => (¬ s_1.2 = (0 : Int))) (fun s_1 =>
  bnd (s_1.2, (Int.fmod s_1.1 s_1.2)) fun x_1 =>
  .go (x_1.1, x_1.2)) ((fun s => s.2.natAbs) (a_a, a_b) + 1) (a_a, a_b)).out fun s_1 =>
  ((Int.natAbs s_1.1 : Nat) : Int))

theorem ok_law_gcd (T : Tx P K mg) : Cl P w K mg base 1 "_law_gcd" (spF (fun a : Int × Int => [.val yI a.1, .val yI a.2]) (fun _ : Int × Int => True) yI (fun a => m_law_gcd a.1 a.2)) := by
  obtain ⟨f, fd, hg, FD⟩ := T.g_law_gcd
  refine ⟨f, fd, ["a", "b"], ?_, hg, FD.kp, FD.bindsN fun _ _ _ _ _ _ us hl => match us, hl with | [_, _], _ => rfl⟩
  refine TL.FunD.okC (N := ["a", "b"]) FD sc_law_gcd (lenF fun _ => rfl) fun cdv A outer s H E hr => ?_
  refine ⟨_, (pss_cons (ps_while (passes_of rfl) (pt_cmpR op_ne (pv 1) pe_int (nomark _)) (pss_cons (ps_par (i := 0) (j := 1) rfl sc_law_gcd.nd rfl rfl (by decide) rfl rfl (pa_cons (pv 1) (pa_cons (pe_op op_modN (pe_callTy call_int1 (by rfl) T.b_int (by decide +kernel) (pa_cons (pv 0) pa_nil)) (pv 1)) pa_nil)) (by rfl)) pss_nil)) (pss_cons (ps_ret (pe_callB call_abs (by rfl) T.b_abs (by decide +kernel) (pa_cons (pv 0) pa_nil))) pss_nil)), fun vs Q h => run_F (fun F a rt hpre => ?_) vs H Q E h⟩
  show Bd _ _ _ _ _ _ (m_law_gcd a.1 a.2)
  unfold m_law_gcd
  refine b_while _ _ (fun (s_1 : Int × Int) => ([] : Own)) (fun (s_1 : Int × Int) => (⟨[.val yI s_1.1, .val yI s_1.2], []⟩ : Lc)) (fun _ => True) (fun s => s.2.natAbs) (a.1, a.2) rfl ⟨(.cons (.inl rfl) (.cons (.inl rfl) .nil)), rfl⟩ trivial (fun s_1 hj_1 => (tt_n (ev_ne ev_var ev_int))) (fun s s' _ hc e => ⟨trivial, gcd_mu hc e⟩) (fun s_1 hj_1 hc_1 N B P' hgo_1 hret_1 => ?_) (fun s_1 hj_1 hc_2 => ?_)
  · refine b_letP (ea_cons ev_var (ea_cons (ev_modN (ev_intI ev_var) ev_var (by first | omega | assumption | decide | exact ⟨by omega, by omega⟩)) ea_nil)) fun x_1 hx_1 => ?_
    exact b_next fun h => nx_wk (hgo_1 _ h) ⟨(.cons (.inl rfl) (.cons (.inl rfl) .nil)), rfl⟩
  · exact b_seq (b_ret (ev_abs ev_var) (fun h => h _))

theorem sc_law_fraction : FnScope ["num", "den", "shared"] ["num", "den"] (defScope s_law_fraction) := ⟨rfl, rfl, rfl, by decide +kernel, rfl, by decide +kernel, by decide +kernel⟩
def m_law_fraction (a_num : Int) (a_den : Int) : (Int × Int) :=
  bnd (m_law_gcd a_num a_den) fun shared_1 =>
  bnd (if (a_den < (0 : Int)) then (-shared_1) else shared_1) fun shared_2 =>
  ((Int.fdiv a_num shared_2), (Int.fdiv a_den shared_2))
theorem law_gcd_eq (a b : Int) : m_law_gcd a b = (Int.gcd a b : Int) := by
  unfold m_law_gcd
  obtain ⟨g, e, h, _⟩ := gcd_loop (ρ := Int) (f := fun s1 => bnd (s1.2, (Int.fmod s1.1 s1.2)) fun x6 => .go (x6.1, x6.2)) (fun s => rfl) a b (b.natAbs + 1) (Nat.lt_succ_self _)
  show (whileL _ _ (b.natAbs + 1) (a, b)).out _ = _
  rw [e]
  show ((Int.natAbs g : Nat) : Int) = _
  rw [h]
theorem lfr_div {n d s t x : Int} (h1 : d ≠ 0) (hp : Sz 9000 d) (e1 : s = m_law_gcd n d) (e2 : t = if d < 0 then -s else s) : CDivZ x t := by
  rw [law_gcd_eq] at e1
  have hg : t.natAbs = Int.gcd n d := by
    rw [e2, e1]
    split <;> simp
  have h0 : Int.gcd n d ≠ 0 := fun z => h1 (Int.gcd_eq_zero_iff.mp z).2
  refine sz_divZ (sz_le hp ?_) fun z => h0 (by rw [← hg, z]; rfl)
  rw [hg]
  exact Nat.le_of_dvd (by omega) (Int.natAbs_dvd_natAbs.mpr (Int.gcd_dvd_right n d))


theorem ok_law_fraction (T : Tx P K mg) : Cl P w K mg base 2 "_law_fraction" (spF (fun a : Int × Int => [.val yI a.1, .val yI a.2]) (fun a : Int × Int => a.2 ≠ 0 ∧ Sz 9000 a.2) (yP yI yI) (fun a => m_law_fraction a.1 a.2)) := by
  obtain ⟨f, fd, hg, FD⟩ := T.g_law_fraction
  refine ⟨f, fd, ["num", "den"], ?_, hg, FD.kp, FD.bindsN fun _ _ _ _ _ _ us hl => match us, hl with | [_, _], _ => rfl⟩
  refine TL.FunD.okC (N := ["num", "den", "shared"]) FD sc_law_fraction (lenF fun _ => rfl) fun cdv A outer s H E hr => ?_
  refine ⟨_, (pss_cons (ps_set (i := 2) sc_law_fraction.nd rfl (by first | exact .inl rfl | exact .inr rfl) (pe_cl (ok_law_gcd T) hr (by decide) (by rfl) passL (pa_cons (pv 0) (pa_cons (pv 1) pa_nil)))) (pss_cons (ps_if (pt_cmpR op_lt (pv 1) pe_int (nomark _)) (pss_cons (ps_set (i := 2) sc_law_fraction.nd rfl (by first | exact .inl rfl | exact .inr rfl) (pe_un un_neg (pv 2))) pss_nil) pss_nil) (pss_cons (ps_ret (pe_tup (pa_cons (pe_op op_fdivZ (pv 0) (pv 2)) (pa_cons (pe_op op_fdivZ (pv 1) (pv 2)) pa_nil)))) pss_nil))), fun vs Q h => run_F (fun F a rt hpre => ?_) vs H Q E h⟩
  show Bd _ _ _ _ _ _ (m_law_fraction a.1 a.2)
  unfold m_law_fraction
  refine b_let (ev_call (a.1, a.2) (ea_cons ev_var (ea_cons ev_var ea_nil)) rfl trivial) fun shared_1 hshared_1 => ?_
  refine b_join (fun (shared_2 : Int) => (⟨[.val yI a.1, .val yI a.2, .val yI shared_2], []⟩ : Lc)) (fun (shared_2 : Int) => ([] : Own)) (tt_d (ev_lt ev_var ev_int)) (x1 := (-shared_1)) (x2 := shared_1) (fun h_1 => (sx_set (ev_neg ev_var) (sx_wk sx_next ⟨(.cons (.inl rfl) (.cons (.inl rfl) (.cons (.inl rfl) .nil))), rfl⟩))) (fun h_1 => (sx_wk sx_next ⟨(.cons (.inl rfl) (.cons (.inl rfl) (.cons (.inl rfl) .nil))), rfl⟩)) fun shared_2 hshared_2 => ?_
  exact b_seq (b_ret (ev_pair (ea_cons (ev_divN ev_var ev_var (by exact lfr_div hpre.1 hpre.2 hshared_1 hshared_2)) (ea_cons (ev_divN ev_var ev_var (by exact lfr_div hpre.1 hpre.2 hshared_1 hshared_2)) ea_nil))) (fun h => h _))

theorem law_fraction_val (n d : Int) (h : d ≠ 0) : m_law_fraction n d = fr (Rat.divInt n d) := by
  unfold m_law_fraction
  simp only [bnd, law_gcd_eq]
  exact fr_frac n d h

theorem sc_law_ratio : FnScope ["own", "pair", "first", "last"] ["own", "pair"] (defScope s_law_ratio) := ⟨rfl, rfl, rfl, by decide +kernel, rfl, by decide +kernel, by decide +kernel⟩
def m_law_ratio_f (a_own : (Int × Int × (List (List Int)))) (a_pair : (Int × Int)) : (Unit ⊕ (List Int)) :=
  bnd a_pair fun x_1 =>
  (if ((x_1.1 = (0 : Int)) ∧ (x_1.2 = (0 : Int))) then
  (Sum.inl ())
  else
  (if (x_1.2 = (0 : Int)) then
  (Sum.inr [(1 : Int), (0 : Int)])
  else
  (Sum.inr [(m_law_times a_own x_1.1 (m_law_inverse a_own x_1.2)), (1 : Int)])))

theorem ok_law_ratio_f (T : Tx P K mg) : Cl P w K mg base 13 "_law_ratio" (spF (fun a : (Int × Int × (List (List Int))) × (Int × Int) => [.val (yH3 yI yI (yL (yL yI))) a.1, .val (yP yI yI) a.2]) (fun a : (Int × Int × (List (List Int))) × (Int × Int) => OwK a.1 ∧ Eo a.1.2.1 a.2.1 ∧ Eo a.1.2.1 a.2.2) (ySum yN (yT yI)) (fun a => m_law_ratio_f a.1 a.2)) := by
  obtain ⟨f, fd, hg, FD⟩ := T.g_law_ratio
  refine ⟨f, fd, ["own", "pair"], ?_, hg, FD.kp, FD.bindsN fun _ _ _ _ _ _ us hl => match us, hl with | [_, _], _ => rfl⟩
  refine TL.FunD.okC (N := ["own", "pair", "first", "last"]) FD sc_law_ratio (lenF fun _ => rfl) fun cdv A outer s H E hr => ?_
  refine ⟨_, (pss_cons (ps_asg (pv 1) (pg_tupK (K := K) (n := 2) rfl (by rfl) (pgs_cons (pg_name (i := 2) sc_law_ratio.nd (by rfl) (by first | exact .inl rfl | exact .inr rfl)) (pgs_cons (pg_name (i := 3) sc_law_ratio.nd (by rfl) (by first | exact .inl rfl | exact .inr rfl)) pgs_nil)))) (pss_cons (ps_if (PW.pt (pw_and (pt_cmpR op_eq (pv 2) pe_int (nomark _)) (pw_and1 (pt_cmpR op_eq (pv 3) pe_int (nomark _))))) (pss_cons (ps_ret pe_non) pss_nil) pss_nil) (pss_cons (ps_if (pt_cmpR op_eq (pe_ix (ixL_K (K := K) rfl) (pv 0) pe_int (fun _ _ => rfl)) pe_int (nomark _)) pss_dead pss_nil) (pss_cons (ps_if (pt_cmpR op_eq (pv 3) pe_int (nomark _)) (pss_cons (ps_ret (pe_tup (pa_cons pe_int (pa_cons pe_int pa_nil)))) pss_nil) pss_nil) (pss_cons (ps_ret (pe_tup (pa_cons (pe_cl (ok_law_times T) hr (by decide) (by rfl) passL (pa_cons (pv 0) (pa_cons (pv 2) (pa_cons (pe_cl (ok_law_inverse T) hr (by decide) (by rfl) passL (pa_cons (pv 0) (pa_cons (pv 3) pa_nil))) pa_nil)))) (pa_cons pe_int pa_nil)))) pss_nil))))), fun vs Q h => run_F (fun F a rt hpre => ?_) vs H Q E h⟩
  obtain ⟨hp1, hp2, hp3⟩ := id hpre
  show Bd _ _ _ _ _ _ (m_law_ratio_f a.1 a.2)
  unfold m_law_ratio_f
  refine b_letG ev_var (tg_pair (tg_name 2) (tg_name 3)) fun x_1 hx_1 => ?_
  refine b_seq (b_if (tt_and (tt_d (ev_eq ev_var ev_int)) fun hb_1 => (tt_d (ev_eq ev_var ev_int))) (fun h_1 => ?_) (fun h_1 => ?_))
  · exact b_seq (b_ret (ev_inl ev_non) (fun h => h _))
  · refine b_fall ?_
    refine b_seq (b_ifF (tt_d (ev_eq (ev_h3a (x := a.1) ev_var) ev_int)) (by have h6 := ow_p hp1; omega) ?_)
    refine b_fall ?_
    refine b_seq (b_if (tt_d (ev_eq ev_var ev_int)) (fun h_3 => ?_) (fun h_3 => ?_))
    · exact b_seq (b_ret (ev_inr (ev_tup (t := yI) (ea_cons ev_int (ea_cons ev_int ea_nil)) rfl (lit_len 2 rfl (by decide)))) (fun h => h _))
    · refine b_fall ?_
      exact b_seq (b_ret (ev_inr (ev_tup (t := yI) (ea_cons (ev_call (a.1, x_1.1, (m_law_inverse a.1 x_1.2)) (ea_cons ev_var (ea_cons ev_var (ea_cons (ev_call (a.1, x_1.2) (ea_cons ev_var (ea_cons ev_var ea_nil)) rfl (by rw [hx_1]; exact ⟨hp1, hp3⟩)) ea_nil))) rfl (by rw [hx_1]; exact ⟨hp1, hp2, ow_inv hp1 hp3⟩)) (ea_cons ev_int ea_nil)) rfl (lit_len 2 rfl (by decide)))) (fun h => h _))

def m_law_ratio_q (a_own : (Int × Int × (List (List Int)))) (a_pair : (Int × Int)) : (Unit ⊕ (List (Int × Int))) :=
  bnd a_pair fun x_1 =>
  (if ((x_1.1 = (0 : Int)) ∧ (x_1.2 = (0 : Int))) then
  (Sum.inl ())
  else
  (if (x_1.2 = (0 : Int)) then
  (Sum.inr [((1 : Int), (1 : Int)), ((0 : Int), (1 : Int))])
  else
  (Sum.inr [(m_law_fraction x_1.1 x_1.2), ((1 : Int), (1 : Int))])))

theorem ok_law_ratio_q (T : Tx P K mg) : Cl P w K mg base 13 "_law_ratio" (spF (fun a : (Int × Int × (List (List Int))) × (Int × Int) => [.val (yH3 yI yI (yL (yL yI))) a.1, .val (yP yI yI) a.2]) (fun a : (Int × Int × (List (List Int))) × (Int × Int) => a.1.1 = 0 ∧ Sz 4000 a.2.2) (ySum yN (yT (yP yI yI))) (fun a => m_law_ratio_q a.1 a.2)) := by
  obtain ⟨f, fd, hg, FD⟩ := T.g_law_ratio
  refine ⟨f, fd, ["own", "pair"], ?_, hg, FD.kp, FD.bindsN fun _ _ _ _ _ _ us hl => match us, hl with | [_, _], _ => rfl⟩
  refine TL.FunD.okC (N := ["own", "pair", "first", "last"]) FD sc_law_ratio (lenF fun _ => rfl) fun cdv A outer s H E hr => ?_
  refine ⟨_, (pss_cons (ps_asg (pv 1) (pg_tupK (K := K) (n := 2) rfl (by rfl) (pgs_cons (pg_name (i := 2) sc_law_ratio.nd (by rfl) (by first | exact .inl rfl | exact .inr rfl)) (pgs_cons (pg_name (i := 3) sc_law_ratio.nd (by rfl) (by first | exact .inl rfl | exact .inr rfl)) pgs_nil)))) (pss_cons (ps_if (PW.pt (pw_and (pt_cmpR op_eq (pv 2) pe_int (nomark _)) (pw_and1 (pt_cmpR op_eq (pv 3) pe_int (nomark _))))) (pss_cons (ps_ret pe_non) pss_nil) pss_nil) (pss_cons (ps_if (pt_cmpR op_eq (pe_ix (ixL_K (K := K) rfl) (pv 0) pe_int (fun _ _ => rfl)) pe_int (nomark _)) (pss_cons (ps_if (pt_cmpR op_eq (pv 3) pe_int (nomark _)) (pss_cons (ps_ret (pe_tup (pa_cons (pe_tup (pa_cons pe_int (pa_cons pe_int pa_nil))) (pa_cons (pe_tup (pa_cons pe_int (pa_cons pe_int pa_nil))) pa_nil)))) pss_nil) pss_nil) (pss_cons (ps_ret (pe_tup (pa_cons (pe_cl (ok_law_fraction T) hr (by decide) (by rfl) passL (pa_cons (pv 2) (pa_cons (pv 3) pa_nil))) (pa_cons (pe_tup (pa_cons pe_int (pa_cons pe_int pa_nil))) pa_nil)))) pss_nil)) pss_nil) pss_dead))), fun vs Q h => run_F (fun F a rt hpre => ?_) vs H Q E h⟩
  obtain ⟨hp1, hp2⟩ := id hpre
  show Bd _ _ _ _ _ _ (m_law_ratio_q a.1 a.2)
  unfold m_law_ratio_q
  refine b_letG ev_var (tg_pair (tg_name 2) (tg_name 3)) fun x_1 hx_1 => ?_
  refine b_seq (b_if (tt_and (tt_d (ev_eq ev_var ev_int)) fun hb_1 => (tt_d (ev_eq ev_var ev_int))) (fun h_1 => ?_) (fun h_1 => ?_))
  · exact b_seq (b_ret (ev_inl ev_non) (fun h => h _))
  · refine b_fall ?_
    refine b_seq (b_ifT (tt_d (ev_eq (ev_h3a (x := a.1) ev_var) ev_int)) (by exact hp1) ?_)
    refine b_seq (b_if (tt_d (ev_eq ev_var ev_int)) (fun h_3 => ?_) (fun h_3 => ?_))
    · exact b_seq (b_ret (ev_inr (ev_tup (t := (yP yI yI)) (ea_cons (ev_pair (ea_cons ev_int (ea_cons ev_int ea_nil))) (ea_cons (ev_pair (ea_cons ev_int (ea_cons ev_int ea_nil))) ea_nil)) rfl (lit_len 2 rfl (by decide)))) (fun h => h _))
    · refine b_fall ?_
      exact b_seq (b_ret (ev_inr (ev_tup (t := (yP yI yI)) (ea_cons (ev_call (x_1.1, x_1.2) (ea_cons ev_var (ea_cons ev_var ea_nil)) rfl (by rw [hx_1] at *; exact ⟨‹¬ _›, sz_mono hp2 (by decide)⟩)) (ea_cons (ev_pair (ea_cons ev_int (ea_cons ev_int ea_nil))) ea_nil)) rfl (lit_len 2 rfl (by decide)))) (fun h => h _))

theorem sc_law_answers : FnScope ["field", "own", "five", "pair", "handed", "a", "b", "c", "d", "o", "told", "due"] ["field", "own", "five", "pair"] (defScope s_law_answers) := ⟨rfl, rfl, rfl, by decide +kernel, rfl, by decide +kernel, by decide +kernel⟩
def m_law_answers_g (i : Mm) (a_five : (List (i.A × i.A × i.A))) (a_pair : (i.A × i.A)) : Bool :=
  bnd (m_law_given_g i a_five) fun handed_1 =>
  bnd handed_1 fun u_1 =>
  bnd (m_throw (ix u_1 0) (ix u_1 1) (ix u_1 2) (ix u_1 3) (ix u_1 4)) fun told_1 =>
  (if (¬ handed_1 = (m_law_given_g i a_five)) then
  false
  else
  bnd (i.ratio a_pair) fun due_1 =>
  (if (Sum.isLeft due_1 = true) then
  (Sum.isLeft told_1)
  else
  (m_law_same_s i told_1 (our due_1))))
theorem given_b3 {P : Program} {w : World} {K : PySem.W.Frag} {mg : Str → Option Value} {base : Heap} {i : Md P w K mg base} {n : Nat} {f u h : List (V3 _)} (h2 : ∀ v ∈ f, i.S.m.b3 n 0 v) (e : h = m_law_given_g i.M f) (e2 : u = h) (hl : f.length = 5) {k : Int} (hk : 0 ≤ k ∧ k < 5) : i.R.m.b3 n 0 (ix u k) := by
  have hm : ix u k ∈ u := ix_mem ⟨by omega, by rw [e2, e, g_given, List.length_map]; omega⟩
  rw [e2, e, g_given] at hm
  obtain ⟨v, hv, q⟩ := List.mem_map.mp hm
  rw [e2, e, g_given, ← q]
  have := h2 v hv
  exact ⟨i.bdφ this.1, i.bdφ this.2.1, i.bdφ this.2.2⟩
theorem given_b34 {P : Program} {w : World} {K : PySem.W.Frag} {mg : Str → Option Value} {base : Heap} {i : Md P w K mg base} {n : Nat} {f u : List (V3 _)} (h2 : ∀ v ∈ f, i.S.m.b3 n 0 v) (e : u = m_law_given_g i.M f) (hl : f.length = 4) {k : Int} (hk : 0 ≤ k ∧ k < 4) : i.R.m.b3 n 0 (ix u k) := by
  have hm : ix u k ∈ u := ix_mem ⟨by omega, by rw [e, g_given, List.length_map]; omega⟩
  rw [e, g_given] at hm
  obtain ⟨v, hv, q⟩ := List.mem_map.mp hm
  rw [e, g_given, ← q]
  have := h2 v hv
  exact ⟨i.bdφ this.1, i.bdφ this.2.1, i.bdφ this.2.2⟩
theorem ratio_len {M : Mm} {x : M.A × M.A} : (our (M.ratio x)).length ≤ 1000 := by
  unfold Mm.ratio ratioG
  split
  · exact Nat.zero_le _
  · split <;> exact (by decide : 2 ≤ 1000)
theorem ratio_right {M : Mm} {x : Unit ⊕ List M.E} (h : ¬ x.isLeft = true) : x.isLeft = false := by
  cases h2 : x.isLeft
  · rfl
  · exact absurd h2 h


theorem ok_law_answers_g (T : Tx P K mg) : ClX P w K mg base 21 "_law_answers" (fun i : MdR P w K mg base => (spF (fun a : (List (i.M.A × i.M.A × i.M.A)) × (i.M.A × i.M.A) => [.val i.R.r (), .val (yH3 yI yI (yL (yL yI))) i.M.o, .val (yL (yH3 i.S.t i.S.t i.S.t)) a.1, .val (yP i.S.t i.S.t) a.2]) (fun a : (List (i.M.A × i.M.A × i.M.A)) × (i.M.A × i.M.A) => (a.1.length = 5 ∧ ∀ v ∈ a.1, i.S.m.b3 90 0 v) ∧ i.S.m.bd 2000 0 a.2.1 ∧ i.S.m.bd 2000 0 a.2.2) yB (fun a => m_law_answers_g i.M a.1 a.2))) := by
  obtain ⟨f, fd, hg, FD⟩ := T.g_law_answers
  refine ⟨f, fd, ["field", "own", "five", "pair"], fun i => ?_, hg, FD.kp, FD.bindsN fun _ _ _ _ _ _ us hl => match us, hl with | [_, _, _, _], _ => rfl⟩
  refine TL.FunD.okC (N := ["field", "own", "five", "pair", "handed", "a", "b", "c", "d", "o", "told", "due"]) FD sc_law_answers (lenF fun _ => rfl) fun cdv A outer s H E hr => ?_
  refine ⟨_, (pss_cons (ps_set (i := 4) sc_law_answers.nd rfl (by first | exact .inl rfl | exact .inr rfl) (pe_cl ((ok_law_given_g T).at i.toMd) hr (by decide) (by rfl) passL (pa_cons (pv 1) (pa_cons (pv 2) pa_nil)))) (pss_cons (ps_asg (pv 4) (pg_unlK (K := K) (n := 5) rfl (by rfl) (pgs_cons (pg_name (i := 5) sc_law_answers.nd (by rfl) (by first | exact .inl rfl | exact .inr rfl)) (pgs_cons (pg_name (i := 6) sc_law_answers.nd (by rfl) (by first | exact .inl rfl | exact .inr rfl)) (pgs_cons (pg_name (i := 7) sc_law_answers.nd (by rfl) (by first | exact .inl rfl | exact .inr rfl)) (pgs_cons (pg_name (i := 8) sc_law_answers.nd (by rfl) (by first | exact .inl rfl | exact .inr rfl)) (pgs_cons (pg_name (i := 9) sc_law_answers.nd (by rfl) (by first | exact .inl rfl | exact .inr rfl)) pgs_nil))))))) (pss_cons (ps_set (i := 10) sc_law_answers.nd rfl (by first | exact .inl rfl | exact .inr rfl) (pe_cl ((ok_throw T).at i.fo) hr (by decide) (by rfl) passL (pa_cons (pv 0) (pa_cons (pv 5) (pa_cons (pv 6) (pa_cons (pv 7) (pa_cons (pv 8) (pa_cons (pv 9) pa_nil)))))))) (pss_cons (ps_if (pt_cmpR (op_neK (K := K) rfl hr.units) (pv 4) (pe_cl ((ok_law_given_g T).at i.toMd) hr (by decide) (by rfl) passL (pa_cons (pv 1) (pa_cons (pv 2) pa_nil))) (nomark _)) (pss_cons (ps_ret pe_bl) pss_nil) pss_nil) (pss_cons (ps_set (i := 11) sc_law_answers.nd rfl (by first | exact .inl rfl | exact .inr rfl) (pe_cl i.ratio hr (by decide) (by rfl) passL (pa_cons (pv 1) (pa_cons (pv 3) pa_nil)))) (pss_cons (ps_if (pt_cmpR op_isN (pv 11) pe_non (nomark _)) (pss_cons (ps_ret (pe_cmpR op_isN (pv 10) pe_non (nomark _))) pss_nil) pss_nil) (pss_cons (ps_ret (pe_cl ((ok_law_same_s T).at i.toMd) hr (by decide) (by rfl) passL (pa_cons (pv 10) (pa_cons (pv 11) pa_nil)))) pss_nil))))))), fun vs Q h => run_F (fun F a rt hpre => ?_) vs H Q E h⟩
  obtain ⟨⟨hp1, hp2⟩, hp3, hp4⟩ := id hpre
  show Bd _ _ _ _ _ _ (m_law_answers_g i.M a.1 a.2)
  unfold m_law_answers_g
  refine b_let (ev_call a.1 (ea_cons ev_var (ea_cons ev_var ea_nil)) rfl (by omega)) fun handed_1 hhanded_1 => ?_
  refine b_unL5 (t := (yH3 i.R.t i.R.t i.R.t)) (i := 5) (j := 6) (m := 7) (i2 := 8) (j2 := 9) ev_var (by rw [hhanded_1, g_given, List.length_map]; exact hp1) (fun u_1 hu_1 => ?_)
  refine b_let (ev_call ((ix u_1 0), (ix u_1 1), (ix u_1 2), (ix u_1 3), (ix u_1 4)) (ea_cons ev_var (ea_cons (ev_cv ev_var (fun h => rp_H3X ((fun h => h) h))) (ea_cons (ev_cv ev_var (fun h => rp_H3X ((fun h => h) h))) (ea_cons (ev_cv ev_var (fun h => rp_H3X ((fun h => h) h))) (ea_cons (ev_cv ev_var (fun h => rp_H3X ((fun h => h) h))) (ea_cons (ev_cv ev_var (fun h => rp_H3X ((fun h => h) h))) ea_nil)))))) rfl (by refine ⟨?_, ?_, ?_, ?_, ?_⟩ <;> exact b3_mono (given_b3 (i := i.toMd) hp2 hhanded_1 hu_1 hp1 (by decide)) (by decide) (by decide))) fun told_1 htold_1 => ?_
  refine b_seq (b_if (tt_n (ev_neD ev_var (ev_call a.1 (ea_cons ev_var (ea_cons ev_var ea_nil)) rfl (by omega)))) (fun h_1 => ?_) (fun h_1 => ?_))
  · exact b_seq (b_ret ev_bl (fun h => h _))
  · refine b_fall ?_
    refine b_let (ev_call a.2 (ea_cons ev_var (ea_cons ev_var ea_nil)) rfl (by exact ⟨hp3, hp4⟩)) fun due_1 hdue_1 => ?_
    refine b_seq (b_if (tt_b (ev_isN ev_var ev_non)) (fun h_2 => ?_) (fun h_2 => ?_))
    · exact b_seq (b_ret (ev_isN ev_var ev_non) (fun h => h _))
    · refine b_fall ?_
      exact b_seq (b_ret (ev_call (told_1, (our due_1)) (ea_cons ev_var (ea_cons (ev_outr ev_var (by exact ratio_right ‹_›)) ea_nil)) rfl (by rw [hdue_1]; exact ratio_len)) (fun h => h _))

theorem sc_law_asked : FnScope ["field", "own", "five", "pair", "a", "b", "c", "d", "o", "turned", "less", "rest"] ["field", "own", "five"] (defScope s_law_asked) := ⟨rfl, rfl, rfl, by decide +kernel, rfl, by decide +kernel, by decide +kernel⟩
def m_law_asked_g (i : Mm) (a_five : (List (i.A × i.A × i.A))) : Bool :=
  bnd (m_law_products_g i.of i.o a_five) fun pair_1 =>
  bnd a_five fun u_1 =>
  bnd (pair_1.2, pair_1.1) fun turned_1 =>
  bnd (-pair_1.2) fun less_1 =>
  bnd ((pair_1.1 + less_1), less_1) fun rest_1 =>
  (if (¬ ((m_law_answers_g i a_five pair_1) = true)) then
  false
  else
  (if (¬ ((m_law_answers_g i [(ix u_1 1), (ix u_1 0), (ix u_1 2), (ix u_1 3), (ix u_1 4)] turned_1) = true)) then
  false
  else
  (if (¬ ((m_law_answers_g i [(ix u_1 0), (ix u_1 1), (ix u_1 3), (ix u_1 2), (ix u_1 4)] turned_1) = true)) then
  false
  else
  (m_law_answers_g i [(ix u_1 0), (ix u_1 2), (ix u_1 1), (ix u_1 3), (ix u_1 4)] rest_1))))
theorem asked_turn {A : Type} [Lean.Grind.CommRing A] {m : Ms A} {n : Nat} {f u : List (V3 A)} (e : u = f) (h1 : f.length = 5) (h2 : ∀ v ∈ f, m.b3 n 0 v) {a b c d k : Int} (ha : 0 ≤ a ∧ a < 5) (hb : 0 ≤ b ∧ b < 5) (hc : 0 ≤ c ∧ c < 5) (hd : 0 ≤ d ∧ d < 5) (hk : 0 ≤ k ∧ k < 5) : ∀ v ∈ [ix u a, ix u b, ix u c, ix u d, ix u k], m.b3 n 0 v := by
  subst e
  intro v hv
  simp only [List.mem_cons, List.not_mem_nil, or_false] at hv
  rcases hv with h | h | h | h | h <;> rw [h] <;> exact five_at h1 h2 ‹_›


theorem ok_law_asked_g (T : Tx P K mg) : ClX P w K mg base 22 "_law_asked" (fun i : MdR P w K mg base => (spF (fun a : (List (i.M.A × i.M.A × i.M.A)) => [.val i.R.r (), .val (yH3 yI yI (yL (yL yI))) i.M.o, .val (yL (yH3 i.S.t i.S.t i.S.t)) a]) (fun a : (List (i.M.A × i.M.A × i.M.A)) => a.length = 5 ∧ ∀ v ∈ a, i.S.m.b3 90 0 v) yB (fun a => m_law_asked_g i.M a))) := by
  obtain ⟨f, fd, hg, FD⟩ := T.g_law_asked
  refine ⟨f, fd, ["field", "own", "five"], fun i => ?_, hg, FD.kp, FD.bindsN fun _ _ _ _ _ _ us hl => match us, hl with | [_, _, _], _ => rfl⟩
  refine TL.FunD.okC (N := ["field", "own", "five", "pair", "a", "b", "c", "d", "o", "turned", "less", "rest"]) FD sc_law_asked (lenF fun _ => rfl) fun cdv A outer s H E hr => ?_
  refine ⟨_, (pss_cons (ps_set (i := 3) sc_law_asked.nd rfl (by first | exact .inl rfl | exact .inr rfl) (pe_cl ((ok_law_products_g T).at i.og) hr (by decide) (by rfl) passL (pa_cons (pv 1) (pa_cons (pv 2) pa_nil)))) (pss_cons (ps_asg (pv 2) (pg_unlK (K := K) (n := 5) rfl (by rfl) (pgs_cons (pg_name (i := 4) sc_law_asked.nd (by rfl) (by first | exact .inl rfl | exact .inr rfl)) (pgs_cons (pg_name (i := 5) sc_law_asked.nd (by rfl) (by first | exact .inl rfl | exact .inr rfl)) (pgs_cons (pg_name (i := 6) sc_law_asked.nd (by rfl) (by first | exact .inl rfl | exact .inr rfl)) (pgs_cons (pg_name (i := 7) sc_law_asked.nd (by rfl) (by first | exact .inl rfl | exact .inr rfl)) (pgs_cons (pg_name (i := 8) sc_law_asked.nd (by rfl) (by first | exact .inl rfl | exact .inr rfl)) pgs_nil))))))) (pss_cons (ps_set (i := 9) sc_law_asked.nd rfl (by first | exact .inl rfl | exact .inr rfl) (pe_tup (pa_cons (pe_ix (ixT_K (K := K) rfl) (pv 3) pe_int (fun _ _ => rfl)) (pa_cons (pe_ix (ixT_K (K := K) rfl) (pv 3) pe_int (fun _ _ => rfl)) pa_nil)))) (pss_cons (ps_set (i := 10) sc_law_asked.nd rfl (by first | exact .inl rfl | exact .inr rfl) (pe_cl i.S.minus hr (by decide) (by rfl) passL (pa_cons (pe_ix (ixL_K (K := K) rfl) (pv 1) pe_int (fun _ _ => rfl)) (pa_cons (pe_ix (ixT_K (K := K) rfl) (pv 3) pe_int (fun _ _ => rfl)) pa_nil)))) (pss_cons (ps_set (i := 11) sc_law_asked.nd rfl (by first | exact .inl rfl | exact .inr rfl) (pe_tup (pa_cons (pe_cl i.S.plus hr (by decide) (by rfl) passL (pa_cons (pe_ix (ixL_K (K := K) rfl) (pv 1) pe_int (fun _ _ => rfl)) (pa_cons (pe_ix (ixT_K (K := K) rfl) (pv 3) pe_int (fun _ _ => rfl)) (pa_cons (pv 10) pa_nil)))) (pa_cons (pv 10) pa_nil)))) (pss_cons (ps_if (pt_not (pt_val (pe_cl ((ok_law_answers_g T).at i) hr (by decide) (by rfl) passL (pa_cons (pv 0) (pa_cons (pv 1) (pa_cons (pv 2) (pa_cons (pv 3) pa_nil))))))) (pss_cons (ps_ret pe_bl) pss_nil) pss_nil) (pss_cons (ps_if (pt_not (pt_val (pe_cl ((ok_law_answers_g T).at i) hr (by decide) (by rfl) passL (pa_cons (pv 0) (pa_cons (pv 1) (pa_cons (pe_lst (pa_cons (pv 5) (pa_cons (pv 4) (pa_cons (pv 6) (pa_cons (pv 7) (pa_cons (pv 8) pa_nil)))))) (pa_cons (pv 9) pa_nil))))))) (pss_cons (ps_ret pe_bl) pss_nil) pss_nil) (pss_cons (ps_if (pt_not (pt_val (pe_cl ((ok_law_answers_g T).at i) hr (by decide) (by rfl) passL (pa_cons (pv 0) (pa_cons (pv 1) (pa_cons (pe_lst (pa_cons (pv 4) (pa_cons (pv 5) (pa_cons (pv 7) (pa_cons (pv 6) (pa_cons (pv 8) pa_nil)))))) (pa_cons (pv 9) pa_nil))))))) (pss_cons (ps_ret pe_bl) pss_nil) pss_nil) (pss_cons (ps_ret (pe_cl ((ok_law_answers_g T).at i) hr (by decide) (by rfl) passL (pa_cons (pv 0) (pa_cons (pv 1) (pa_cons (pe_lst (pa_cons (pv 4) (pa_cons (pv 6) (pa_cons (pv 5) (pa_cons (pv 7) (pa_cons (pv 8) pa_nil)))))) (pa_cons (pv 11) pa_nil)))))) pss_nil))))))))), fun vs Q h => run_F (fun F a rt hpre => ?_) vs H Q E h⟩
  obtain ⟨hp1, hp2⟩ := id hpre
  show Bd _ _ _ _ _ _ (m_law_asked_g i.M a)
  unfold m_law_asked_g
  refine b_let (ev_call a (ea_cons ev_var (ea_cons ev_var ea_nil)) rfl (by exact ⟨hp1, fun v hv => b3_mono (hp2 v hv) (by decide) (by decide)⟩)) fun pair_1 hpair_1 => ?_
  have kp := bd_prods (g := i.M.of) (o := i.M.o) hp1 hp2
  rw [← hpair_1] at kp
  obtain ⟨kp1, kp2⟩ := kp
  refine b_unL5 (t := (yH3 i.S.t i.S.t i.S.t)) (i := 4) (j := 5) (m := 6) (i2 := 7) (j2 := 8) ev_var (by exact hp1) (fun u_1 hu_1 => ?_)
  refine b_let (ev_pair (ea_cons (ev_snd (x := pair_1) ev_var) (ea_cons (ev_fst (x := pair_1) ev_var) ea_nil))) fun turned_1 hturned_1 => ?_
  refine b_let (ev_call pair_1.2 (ea_cons (ev_h3a (x := i.M.o) ev_var) (ea_cons (ev_snd (x := pair_1) ev_var) ea_nil)) rfl (by first | omega | get_elem_tactic_trivial)) fun less_1 hless_1 => ?_
  have kl : i.S.m.bd 546 0 less_1 := by rw [hless_1]; exact i.S.m.neg kp2
  refine b_let (ev_pair (ea_cons (ev_call (pair_1.1, less_1) (ea_cons (ev_h3a (x := i.M.o) ev_var) (ea_cons (ev_fst (x := pair_1) ev_var) (ea_cons ev_var ea_nil))) rfl (by first | omega | get_elem_tactic_trivial)) (ea_cons ev_var ea_nil))) fun rest_1 hrest_1 => ?_
  refine b_seq (b_if (tt_not (tt_b (ev_call (a, pair_1) (ea_cons ev_var (ea_cons ev_var (ea_cons ev_var (ea_cons ev_var ea_nil)))) rfl (by exact ⟨⟨by first | exact hp1 | rfl, by first | exact hp2 | exact asked_turn hu_1 hp1 hp2 (by decide) (by decide) (by decide) (by decide) (by decide)⟩, by subst_vars; get_elem_tactic_trivial⟩)))) (fun h_1 => ?_) (fun h_1 => ?_))
  · exact b_seq (b_ret ev_bl (fun h => h _))
  · refine b_fall ?_
    refine b_seq (b_if (tt_not (tt_b (ev_call ([(ix u_1 1), (ix u_1 0), (ix u_1 2), (ix u_1 3), (ix u_1 4)], turned_1) (ea_cons ev_var (ea_cons ev_var (ea_cons (ev_l (evl_lst (t := (yH3 i.S.t i.S.t i.S.t)) (xs := [(ix u_1 1), (ix u_1 0), (ix u_1 2), (ix u_1 3), (ix u_1 4)]) (ea_cons ev_var (ea_cons ev_var (ea_cons ev_var (ea_cons ev_var (ea_cons ev_var ea_nil))))) rfl (lit_len 5 rfl (by decide)))) (ea_cons ev_var ea_nil)))) rfl (by exact ⟨⟨by first | exact hp1 | rfl, by first | exact hp2 | exact asked_turn hu_1 hp1 hp2 (by decide) (by decide) (by decide) (by decide) (by decide)⟩, by subst_vars; get_elem_tactic_trivial⟩)))) (fun h_2 => ?_) (fun h_2 => ?_))
    · exact b_seq (b_ret ev_bl (fun h => h _))
    · refine b_fall ?_
      refine b_seq (b_if (tt_not (tt_b (ev_call ([(ix u_1 0), (ix u_1 1), (ix u_1 3), (ix u_1 2), (ix u_1 4)], turned_1) (ea_cons ev_var (ea_cons ev_var (ea_cons (ev_l (evl_lst (t := (yH3 i.S.t i.S.t i.S.t)) (xs := [(ix u_1 0), (ix u_1 1), (ix u_1 3), (ix u_1 2), (ix u_1 4)]) (ea_cons ev_var (ea_cons ev_var (ea_cons ev_var (ea_cons ev_var (ea_cons ev_var ea_nil))))) rfl (lit_len 5 rfl (by decide)))) (ea_cons ev_var ea_nil)))) rfl (by exact ⟨⟨by first | exact hp1 | rfl, by first | exact hp2 | exact asked_turn hu_1 hp1 hp2 (by decide) (by decide) (by decide) (by decide) (by decide)⟩, by subst_vars; get_elem_tactic_trivial⟩)))) (fun h_3 => ?_) (fun h_3 => ?_))
      · exact b_seq (b_ret ev_bl (fun h => h _))
      · refine b_fall ?_
        exact b_seq (b_ret (ev_call ([(ix u_1 0), (ix u_1 2), (ix u_1 1), (ix u_1 3), (ix u_1 4)], rest_1) (ea_cons ev_var (ea_cons ev_var (ea_cons (ev_l (evl_lst (t := (yH3 i.S.t i.S.t i.S.t)) (xs := [(ix u_1 0), (ix u_1 2), (ix u_1 1), (ix u_1 3), (ix u_1 4)]) (ea_cons ev_var (ea_cons ev_var (ea_cons ev_var (ea_cons ev_var (ea_cons ev_var ea_nil))))) rfl (lit_len 5 rfl (by decide)))) (ea_cons ev_var ea_nil)))) rfl (by exact ⟨⟨by first | exact hp1 | rfl, by first | exact hp2 | exact asked_turn hu_1 hp1 hp2 (by decide) (by decide) (by decide) (by decide) (by decide)⟩, by subst_vars; get_elem_tactic_trivial⟩)) (fun h => h _))

theorem sc_law_share : FnScope ["pool", "field", "own", "four", "n", "a", "b", "c", "o", "p", "q", "r", "s", "number", "one", "told", "first", "last", "due"] ["pool", "field", "own", "four"] (defScope s_law_share) := ⟨rfl, rfl, rfl, by decide +kernel, rfl, by decide +kernel, by decide +kernel⟩
def m_law_share_g (i : Mm) (a_pool : List Int) (a_four : (List (i.A × i.A × i.A))) : Bool × List Int :=
  bnd (m_law_draw a_pool i.o.2.1) fun yy_1 =>
  bnd yy_1.1 fun n_1 =>
  bnd a_four fun u_1 =>
  bnd (m_law_given_g i a_four) fun u_2 =>
  bnd (n_1, (1 : Int)) fun x_1 =>
  (if (i.o.1 = (0 : Int)) then
  bnd ((n_1, (1 : Int)), ((1 : Int), (1 : Int))) fun x_2 =>
  bnd (m_share (ix u_2 0) (ix u_2 1) (ix u_2 2) (ix u_2 3) (i.φ (i.of (x_2.1).1))) fun told_1 =>
  bnd (m_law_bracket_g i.of i.o (ix u_1 0) (ix u_1 2) (ix u_1 3)) fun first_1 =>
  bnd ((i.of n_1) * (m_law_bracket_g i.of i.o (ix u_1 2) (ix u_1 1) (ix u_1 3))) fun last_1 =>
  bnd (m_law_mix_g i.of i.o [first_1, last_1] [(ix u_1 1), (ix u_1 0)]) fun due_1 =>
  (if (¬ ((m_law_same_g i [told_1.1, told_1.2.1, told_1.2.2] [(ix (m_law_given_g i [due_1]) (0 : Int)).1, (ix (m_law_given_g i [due_1]) (0 : Int)).2.1, (ix (m_law_given_g i [due_1]) (0 : Int)).2.2]) = true)) then
  (false, yy_1.2)
  else
  ((m_law_same_s i (m_throw (ix u_2 0) (ix u_2 1) (ix u_2 2) told_1 (ix u_2 3)) [(i.φ (i.of (x_2.1).1)), (i.φ (i.of (x_2.2).1))]), yy_1.2))
  else
  bnd (m_share (ix u_2 0) (ix u_2 1) (ix u_2 2) (ix u_2 3) (i.φ (i.of x_1.1))) fun told_2 =>
  bnd (m_law_bracket_g i.of i.o (ix u_1 0) (ix u_1 2) (ix u_1 3)) fun first_2 =>
  bnd ((i.of n_1) * (m_law_bracket_g i.of i.o (ix u_1 2) (ix u_1 1) (ix u_1 3))) fun last_2 =>
  bnd (m_law_mix_g i.of i.o [first_2, last_2] [(ix u_1 1), (ix u_1 0)]) fun due_2 =>
  (if (¬ ((m_law_same_g i [told_2.1, told_2.2.1, told_2.2.2] [(ix (m_law_given_g i [due_2]) (0 : Int)).1, (ix (m_law_given_g i [due_2]) (0 : Int)).2.1, (ix (m_law_given_g i [due_2]) (0 : Int)).2.2]) = true)) then
  (false, yy_1.2)
  else
  ((m_law_same_s i (m_throw (ix u_2 0) (ix u_2 1) (ix u_2 2) told_2 (ix u_2 3)) [(i.φ (i.of x_1.1)), (i.φ (i.of x_1.2))]), yy_1.2)))
theorem sh_pre {P : Program} {w : World} {K : PySem.W.Frag} {mg : Str → Option Value} {base : Heap} {i : Md P w K mg base} {f u : List (V3 _)} {x : i.M.A} (h1 : f.length = 4) (h2 : ∀ v ∈ f, i.S.m.b3 11 0 v) (e : u = m_law_given_g i.M f) (hx : i.S.m.bd 4 0 x) :
    i.R.m.b3 80 5 (ix u 0) ∧ i.R.m.b3 80 5 (ix u 1) ∧ i.R.m.b3 80 5 (ix u 2) ∧ i.R.m.b3 80 5 (ix u 3) ∧ i.R.m.bd 60 5 (i.M.φ x) := by
  refine ⟨?_, ?_, ?_, ?_, i.R.m.mono (i.bdφ hx) (by decide) (by decide)⟩ <;> exact b3_mono (given_b34 h2 e h1 (by decide)) (by decide) (by decide)
theorem sh_throw {P : Program} {w : World} {K : PySem.W.Frag} {mg : Str → Option Value} {base : Heap} {i : Md P w K mg base} {f u : List (V3 _)} {x : i.M.A} {t : V3 i.M.E} (h1 : f.length = 4) (h2 : ∀ v ∈ f, i.S.m.b3 11 0 v) (e : u = m_law_given_g i.M f) (hx : i.S.m.bd 4 0 x) (et : t = m_share (ix u 0) (ix u 1) (ix u 2) (ix u 3) (i.M.φ x)) :
    i.R.m.b3 140 5 (ix u 0) ∧ i.R.m.b3 140 5 (ix u 1) ∧ i.R.m.b3 140 5 (ix u 2) ∧ i.R.m.b3 140 5 t ∧ i.R.m.b3 140 5 (ix u 3) := by
  have k : ∀ j : Int, 0 ≤ j ∧ j < 4 → i.R.m.b3 11 0 (ix u j) := fun j hj => given_b34 h2 e h1 hj
  refine ⟨?_, ?_, ?_, ?_, ?_⟩
  · exact b3_mono (k 0 (by decide)) (by decide) (by decide)
  · exact b3_mono (k 1 (by decide)) (by decide) (by decide)
  · exact b3_mono (k 2 (by decide)) (by decide) (by decide)
  · rw [et]
    exact b3_mono (b3_share (k 0 (by decide)) (k 1 (by decide)) (k 2 (by decide)) (k 3 (by decide)) (i.bdφ hx)) (by decide) (by decide)
  · exact b3_mono (k 3 (by decide)) (by decide) (by decide)
theorem sh_two {P : Program} {w : World} {K : PySem.W.Frag} {mg : Str → Option Value} {base : Heap} {i : Md P w K mg base} {f u : List (V3 i.M.A)} {x p q : i.M.A} (h1 : f.length = 4) (h2 : ∀ v ∈ f, i.S.m.b3 11 0 v) (e : u = f) (hx : i.S.m.bd 4 0 x) (ep : p = m_law_bracket_g i.M.of i.M.o (ix u 0) (ix u 2) (ix u 3)) (eq : q = x * m_law_bracket_g i.M.of i.M.o (ix u 2) (ix u 1) (ix u 3)) :
    (∀ j : Int, 0 ≤ j ∧ j < 4 → i.S.m.b3 11 0 (ix u j)) ∧ i.S.m.bd 40 0 p ∧ i.S.m.bd 50 0 q := by
  subst e
  have k : ∀ j : Int, 0 ≤ j ∧ j < 4 → i.S.m.b3 11 0 (ix u j) := fun j hj => h2 _ (ix_mem ⟨by omega, by omega⟩)
  refine ⟨k, ?_, ?_⟩
  · rw [ep]
    exact i.S.m.mono (bd_lbracket (k 0 (by decide)) (k 2 (by decide)) (k 3 (by decide))) (by decide) (by decide)
  · rw [eq]
    exact i.S.m.mono (i.S.m.mul hx (bd_lbracket (k 2 (by decide)) (k 1 (by decide)) (k 3 (by decide)))) (by decide) (by decide)
theorem sh_mix {A : Type} [Lean.Grind.CommRing A] {m : Ms A} {u : List (V3 A)} {p q : A} (h : (∀ j : Int, 0 ≤ j ∧ j < 4 → m.b3 11 0 (ix u j)) ∧ m.bd 40 0 p ∧ m.bd 50 0 q) : (∀ x ∈ [p, q], m.bd 400 0 x) ∧ (∀ x ∈ [ix u 1, ix u 0], m.b3 400 0 x) ∧ [p, q].length ≤ 9 := by
  refine ⟨fun x hx => ?_, fun x hx => ?_, (by show 2 ≤ 9; decide)⟩
  · simp only [List.mem_cons, List.not_mem_nil, or_false] at hx
    rcases hx with e | e <;> rw [e]
    · exact m.mono h.2.1 (by decide) (by decide)
    · exact m.mono h.2.2 (by decide) (by decide)
  · simp only [List.mem_cons, List.not_mem_nil, or_false] at hx
    rcases hx with e | e <;> rw [e]
    · have := h.1 1 (by decide)
      exact ⟨m.mono this.1 (by decide) (by decide), m.mono this.2.1 (by decide) (by decide), m.mono this.2.2 (by decide) (by decide)⟩
    · have := h.1 0 (by decide)
      exact ⟨m.mono this.1 (by decide) (by decide), m.mono this.2.1 (by decide) (by decide), m.mono this.2.2 (by decide) (by decide)⟩


theorem ok_law_share_g (T : Tx P K mg) : ClX P w K mg base 17 "_law_share" (fun i : MdR P w K mg base => (spP (fun (p : Addr) (a : List Int × (List (i.M.A × i.M.A × i.M.A))) => [.val (yV (.ref p)) (), .val i.R.r (), .val (yH3 yI yI (yL (yL yI))) i.M.o, .val (yL (yH3 i.S.t i.S.t i.S.t)) a.2]) (fun a => cL yI a.1) (fun s => cL yI s) (fun a : List Int × (List (i.M.A × i.M.A × i.M.A)) => PlB 9000 a.1 ∧ a.2.length = 4 ∧ ∀ v ∈ a.2, i.S.m.b3 11 0 v) yB (fun a => m_law_share_g i.M a.1 a.2))) := by
  obtain ⟨f, fd, hg, FD⟩ := T.g_law_share
  refine ⟨f, fd, ["pool", "field", "own", "four"], fun i => ?_, hg, FD.kp, FD.bindsN fun _ _ _ _ _ _ us hl => match us, hl with | [_, _, _, _], _ => rfl⟩
  refine TL.FunD.okC (N := ["pool", "field", "own", "four", "n", "a", "b", "c", "o", "p", "q", "r", "s", "number", "one", "told", "first", "last", "due"]) FD sc_law_share (lenP fun _ _ => rfl) fun cdv A outer s H E hr => ?_
  refine ⟨_, (pss_cons (ps_set (i := 4) sc_law_share.nd rfl (by first | exact .inl rfl | exact .inr rfl) (pe_cl (ok_law_draw T) hr (by decide) (by rfl) passL (pa_cons (pv 0) (pa_cons (pe_ix (ixL_K (K := K) rfl) (pv 2) pe_int (fun _ _ => rfl)) pa_nil)))) (pss_cons (ps_asg (pv 3) (pg_unlK (K := K) (n := 4) rfl (by rfl) (pgs_cons (pg_name (i := 5) sc_law_share.nd (by rfl) (by first | exact .inl rfl | exact .inr rfl)) (pgs_cons (pg_name (i := 6) sc_law_share.nd (by rfl) (by first | exact .inl rfl | exact .inr rfl)) (pgs_cons (pg_name (i := 7) sc_law_share.nd (by rfl) (by first | exact .inl rfl | exact .inr rfl)) (pgs_cons (pg_name (i := 8) sc_law_share.nd (by rfl) (by first | exact .inl rfl | exact .inr rfl)) pgs_nil)))))) (pss_cons (ps_asg (pe_cl ((ok_law_given_g T).at i.toMd) hr (by decide) (by rfl) passL (pa_cons (pv 2) (pa_cons (pv 3) pa_nil))) (pg_unlK (K := K) (n := 4) rfl (by rfl) (pgs_cons (pg_name (i := 9) sc_law_share.nd (by rfl) (by first | exact .inl rfl | exact .inr rfl)) (pgs_cons (pg_name (i := 10) sc_law_share.nd (by rfl) (by first | exact .inl rfl | exact .inr rfl)) (pgs_cons (pg_name (i := 11) sc_law_share.nd (by rfl) (by first | exact .inl rfl | exact .inr rfl)) (pgs_cons (pg_name (i := 12) sc_law_share.nd (by rfl) (by first | exact .inl rfl | exact .inr rfl)) pgs_nil)))))) (pss_cons (ps_par (i := 13) (j := 14) rfl sc_law_share.nd rfl rfl (by decide) rfl rfl (pa_cons (pv 4) (pa_cons pe_int pa_nil)) (by rfl)) (pss_cons (ps_if (pt_cmpR op_eq (pe_ix (ixL_K (K := K) rfl) (pv 2) pe_int (fun _ _ => rfl)) pe_int (nomark _)) (pss_cons (ps_par (i := 13) (j := 14) rfl sc_law_share.nd rfl rfl (by decide) rfl rfl (pa_cons (pe_tup (pa_cons (pv 4) (pa_cons pe_int pa_nil))) (pa_cons (pe_tup (pa_cons pe_int (pa_cons pe_int pa_nil))) pa_nil)) (by rfl)) pss_nil) pss_nil) (pss_cons (ps_set (i := 15) sc_law_share.nd rfl (by first | exact .inl rfl | exact .inr rfl) (pe_cl ((ok_share T).at i.fg.rg) hr (by decide) (by rfl) passL (pa_cons (pv 1) (pa_cons (pv 9) (pa_cons (pv 10) (pa_cons (pv 11) (pa_cons (pv 12) (pa_cons (pv 13) pa_nil)))))))) (pss_cons (ps_set (i := 16) sc_law_share.nd rfl (by first | exact .inl rfl | exact .inr rfl) (pe_cl ((ok_law_bracket_g T).at i.og) hr (by decide) (by rfl) passL (pa_cons (pv 2) (pa_cons (pv 5) (pa_cons (pv 7) (pa_cons (pv 8) pa_nil)))))) (pss_cons (ps_set (i := 17) sc_law_share.nd rfl (by first | exact .inl rfl | exact .inr rfl) (pe_cl i.S.times hr (by decide) (by rfl) passL (pa_cons (pv 2) (pa_cons (pv 4) (pa_cons (pe_cl ((ok_law_bracket_g T).at i.og) hr (by decide) (by rfl) passL (pa_cons (pv 2) (pa_cons (pv 7) (pa_cons (pv 6) (pa_cons (pv 8) pa_nil))))) pa_nil))))) (pss_cons (ps_set (i := 18) sc_law_share.nd rfl (by first | exact .inl rfl | exact .inr rfl) (pe_cl ((ok_law_mix_g T).at i.og) hr (by decide) (by rfl) passL (pa_cons (pv 2) (pa_cons (pe_lst (pa_cons (pv 16) (pa_cons (pv 17) pa_nil))) (pa_cons (pe_lst (pa_cons (pv 6) (pa_cons (pv 5) pa_nil))) pa_nil))))) (pss_cons (ps_if (pt_not (pt_val (pe_cl ((ok_law_same_g T).at i.toMd) hr (by decide) (by rfl) passL (pa_cons (pv 15) (pa_cons (pe_callTy (call_tuple_K (K := K) rfl) (by rfl) T.b_tuple (by decide +kernel) (pa_cons (pe_ix (ixL_K (K := K) rfl) (pe_cl ((ok_law_given_g T).at i.toMd) hr (by decide) (by rfl) passL (pa_cons (pv 2) (pa_cons (pe_lst (pa_cons (pv 18) pa_nil)) pa_nil))) pe_int (fun _ _ => rfl)) pa_nil)) pa_nil))))) (pss_cons (ps_ret pe_bl) pss_nil) pss_nil) (pss_cons (ps_ret (pe_cl ((ok_law_same_s T).at i.toMd) hr (by decide) (by rfl) passL (pa_cons (pe_cl ((ok_throw T).at i.fo) hr (by decide) (by rfl) passL (pa_cons (pv 1) (pa_cons (pv 9) (pa_cons (pv 10) (pa_cons (pv 11) (pa_cons (pv 15) (pa_cons (pv 12) pa_nil))))))) (pa_cons (pe_tup (pa_cons (pv 13) (pa_cons (pv 14) pa_nil))) pa_nil)))) pss_nil))))))))))), fun vs Q h => run_P (fun F p a rt hpre => ?_) vs H Q E h⟩
  obtain ⟨hp0, hp1, hp2⟩ := id hpre
  have hq2 := i.S.q2
  show Bd _ _ _ _ _ _ (m_law_share_g i.M a.1 a.2)
  unfold m_law_share_g
  refine b_flat (l2 := ⟨[.val (yV (.ref p)) (), .val i.R.r (), .val (yH3 yI yI (yL (yL yI))) i.M.o, .val (yL (yH3 i.S.t i.S.t i.S.t)) a.2, .any, .any, .any, .any, .any, .any, .any, .any, .any, .any, .any, .any, .any, .any, .any], []⟩) rfl ?_
  refine b_gen fun yy_1 hyy_1 => ?_
  have qyy_1 : PlOk a.1 ∧ 0 < i.M.o.2.1 ∧ Sz 200 i.M.o.2.1 := (by exact ⟨by decreasing_trivial_pre_omega, by omega, by unfold Sz; omega⟩)
  have pyy_1 := p_draw qyy_1 hyy_1
  refine b_let (ev_callP 0 (a.1, i.M.o.2.1) hyy_1 (ea_cons ev_var (ea_cons (ev_h3b (x := i.M.o) ev_var) ea_nil)) rfl rfl rfl qyy_1) fun n_1 hn_1 => ?_
  have kn : i.S.okn n_1 := by rw [hn_1]; exact i.S.ok_of pyy_1.1 pyy_1.2.1
  have kb := i.S.bdn kn
  have kf : ∀ k : Int, 0 ≤ k ∧ k < 4 → i.S.m.b3 11 0 (ix a.2 k) := fun k hk => hp2 _ (ix_mem ⟨by omega, by omega⟩)
  refine b_flat (l2 := ⟨[.val (yV (.ref p)) (), .val i.R.r (), .val (yH3 yI yI (yL (yL yI))) i.M.o, .val (yL (yH3 i.S.t i.S.t i.S.t)) a.2, .val yI n_1, .any, .any, .any, .any, .any, .any, .any, .any, .any, .any, .any, .any, .any, .any], []⟩) rfl ?_
  refine b_unL4 (t := (yH3 i.S.t i.S.t i.S.t)) (i := 5) (j := 6) (m := 7) (i2 := 8) ev_var (by exact hp1) (fun u_1 hu_1 => ?_)
  refine b_flat (l2 := ⟨[.val (yV (.ref p)) (), .val i.R.r (), .val (yH3 yI yI (yL (yL yI))) i.M.o, .val (yL (yH3 i.S.t i.S.t i.S.t)) a.2, .val yI n_1, .val (yH3 i.S.t i.S.t i.S.t) (ix u_1 0), .val (yH3 i.S.t i.S.t i.S.t) (ix u_1 1), .val (yH3 i.S.t i.S.t i.S.t) (ix u_1 2), .val (yH3 i.S.t i.S.t i.S.t) (ix u_1 3), .any, .any, .any, .any, .any, .any, .any, .any, .any, .any], []⟩) rfl ?_
  refine b_unL4 (t := (yH3 i.R.t i.R.t i.R.t)) (i := 9) (j := 10) (m := 11) (i2 := 12) (ev_call a.2 (ea_cons ev_var (ea_cons ev_var ea_nil)) rfl (by first | exact (by decide : (1 : Nat) ≤ 100) | (rw [hp1]; decide))) (by rw [g_given, List.length_map]; exact hp1) (fun u_2 hu_2 => ?_)
  refine b_flat (l2 := ⟨[.val (yV (.ref p)) (), .val i.R.r (), .val (yH3 yI yI (yL (yL yI))) i.M.o, .val (yL (yH3 i.S.t i.S.t i.S.t)) a.2, .val yI n_1, .val (yH3 i.S.t i.S.t i.S.t) (ix u_1 0), .val (yH3 i.S.t i.S.t i.S.t) (ix u_1 1), .val (yH3 i.S.t i.S.t i.S.t) (ix u_1 2), .val (yH3 i.S.t i.S.t i.S.t) (ix u_1 3), .val (yH3 i.R.t i.R.t i.R.t) (ix u_2 0), .val (yH3 i.R.t i.R.t i.R.t) (ix u_2 1), .val (yH3 i.R.t i.R.t i.R.t) (ix u_2 2), .val (yH3 i.R.t i.R.t i.R.t) (ix u_2 3), .any, .any, .any, .any, .any, .any], []⟩) rfl ?_
  refine b_letP (ea_cons ev_var (ea_cons ev_int ea_nil)) fun x_1 hx_1 => ?_
  refine b_flat (l2 := ⟨[.val (yV (.ref p)) (), .val i.R.r (), .val (yH3 yI yI (yL (yL yI))) i.M.o, .val (yL (yH3 i.S.t i.S.t i.S.t)) a.2, .val yI n_1, .val (yH3 i.S.t i.S.t i.S.t) (ix u_1 0), .val (yH3 i.S.t i.S.t i.S.t) (ix u_1 1), .val (yH3 i.S.t i.S.t i.S.t) (ix u_1 2), .val (yH3 i.S.t i.S.t i.S.t) (ix u_1 3), .val (yH3 i.R.t i.R.t i.R.t) (ix u_2 0), .val (yH3 i.R.t i.R.t i.R.t) (ix u_2 1), .val (yH3 i.R.t i.R.t i.R.t) (ix u_2 2), .val (yH3 i.R.t i.R.t i.R.t) (ix u_2 3), .val yI x_1.1, .val yI x_1.2, .any, .any, .any, .any], []⟩) rfl ?_
  refine b_seq (b_if (tt_d (ev_eq (ev_h3a (x := i.M.o) ev_var) ev_int)) (fun h_1 => ?_) (fun h_1 => ?_))
  · refine b_flat (l2 := ⟨[.val (yV (.ref p)) (), .val i.R.r (), .val (yH3 yI yI (yL (yL yI))) i.M.o, .val (yL (yH3 i.S.t i.S.t i.S.t)) a.2, .val yI n_1, .val (yH3 i.S.t i.S.t i.S.t) (ix u_1 0), .val (yH3 i.S.t i.S.t i.S.t) (ix u_1 1), .val (yH3 i.S.t i.S.t i.S.t) (ix u_1 2), .val (yH3 i.S.t i.S.t i.S.t) (ix u_1 3), .val (yH3 i.R.t i.R.t i.R.t) (ix u_2 0), .val (yH3 i.R.t i.R.t i.R.t) (ix u_2 1), .val (yH3 i.R.t i.R.t i.R.t) (ix u_2 2), .val (yH3 i.R.t i.R.t i.R.t) (ix u_2 3), .val yI x_1.1, .val yI x_1.2, .any, .any, .any, .any], []⟩) rfl ?_
    refine b_letP (ea_cons (ev_pair (ea_cons ev_var (ea_cons ev_int ea_nil))) (ea_cons (ev_pair (ea_cons ev_int (ea_cons ev_int ea_nil))) ea_nil)) fun x_2 hx_2 => ?_
    refine b_fall ?_
    refine b_flat (l2 := ⟨[.val (yV (.ref p)) (), .val i.R.r (), .val (yH3 yI yI (yL (yL yI))) i.M.o, .val (yL (yH3 i.S.t i.S.t i.S.t)) a.2, .val yI n_1, .val (yH3 i.S.t i.S.t i.S.t) (ix u_1 0), .val (yH3 i.S.t i.S.t i.S.t) (ix u_1 1), .val (yH3 i.S.t i.S.t i.S.t) (ix u_1 2), .val (yH3 i.S.t i.S.t i.S.t) (ix u_1 3), .val (yH3 i.R.t i.R.t i.R.t) (ix u_2 0), .val (yH3 i.R.t i.R.t i.R.t) (ix u_2 1), .val (yH3 i.R.t i.R.t i.R.t) (ix u_2 2), .val (yH3 i.R.t i.R.t i.R.t) (ix u_2 3), .val (yP yI yI) x_2.1, .val (yP yI yI) x_2.2, .any, .any, .any, .any], []⟩) rfl ?_
    refine b_let (ev_call ((ix u_2 0), (ix u_2 1), (ix u_2 2), (ix u_2 3), (i.M.φ (i.M.of (x_2.1).1))) (ea_cons ev_var (ea_cons (ev_cv ev_var (fun h => rp_H3X ((fun h => h) h))) (ea_cons (ev_cv ev_var (fun h => rp_H3X ((fun h => h) h))) (ea_cons (ev_cv ev_var (fun h => rp_H3X ((fun h => h) h))) (ea_cons (ev_cv ev_var (fun h => rp_H3X ((fun h => h) h))) (ea_cons (ev_cv ev_var (i.ieQ (by first | assumption | (have hpz := i.M.p0; omega)) (by first | rfl | (rw [hx_2])) (by first | (rw [hx_2]; exact kn) | (rw [hx_1]; exact kn) | (rw [hx_2]; exact i.S.ok_of (n := 1) (by decide) (by omega)) | (rw [hx_1]; exact i.S.ok_of (n := 1) (by decide) (by omega))))) ea_nil)))))) rfl (by first | exact sh_pre (i := i.toMd) hp1 hp2 hu_2 kb | (rw [hx_2]; exact sh_pre (i := i.toMd) hp1 hp2 hu_2 kb) | (rw [hx_1]; exact sh_pre (i := i.toMd) hp1 hp2 hu_2 kb))) fun told_1 htold_1 => ?_
    refine b_flat (l2 := ⟨[.val (yV (.ref p)) (), .val i.R.r (), .val (yH3 yI yI (yL (yL yI))) i.M.o, .val (yL (yH3 i.S.t i.S.t i.S.t)) a.2, .val yI n_1, .val (yH3 i.S.t i.S.t i.S.t) (ix u_1 0), .val (yH3 i.S.t i.S.t i.S.t) (ix u_1 1), .val (yH3 i.S.t i.S.t i.S.t) (ix u_1 2), .val (yH3 i.S.t i.S.t i.S.t) (ix u_1 3), .val (yH3 i.R.t i.R.t i.R.t) (ix u_2 0), .val (yH3 i.R.t i.R.t i.R.t) (ix u_2 1), .val (yH3 i.R.t i.R.t i.R.t) (ix u_2 2), .val (yH3 i.R.t i.R.t i.R.t) (ix u_2 3), .val (yP yI yI) x_2.1, .val (yP yI yI) x_2.2, .val (y3 i.R.t i.R.t i.R.t) told_1, .any, .any, .any], []⟩) rfl ?_
    refine b_let (ev_call ((ix u_1 0), (ix u_1 2), (ix u_1 3)) (ea_cons ev_var (ea_cons (ev_cv ev_var (fun h => rp_H3X ((fun h => h) h))) (ea_cons (ev_cv ev_var (fun h => rp_H3X ((fun h => h) h))) (ea_cons (ev_cv ev_var (fun h => rp_H3X ((fun h => h) h))) ea_nil)))) rfl (by exact ⟨by subst hu_1; exact b3_mono (kf _ (by decide)) (by decide) (by decide), by subst hu_1; exact b3_mono (kf _ (by decide)) (by decide) (by decide), by subst hu_1; exact b3_mono (kf _ (by decide)) (by decide) (by decide)⟩)) fun first_1 hfirst_1 => ?_
    refine b_flat (l2 := ⟨[.val (yV (.ref p)) (), .val i.R.r (), .val (yH3 yI yI (yL (yL yI))) i.M.o, .val (yL (yH3 i.S.t i.S.t i.S.t)) a.2, .val yI n_1, .val (yH3 i.S.t i.S.t i.S.t) (ix u_1 0), .val (yH3 i.S.t i.S.t i.S.t) (ix u_1 1), .val (yH3 i.S.t i.S.t i.S.t) (ix u_1 2), .val (yH3 i.S.t i.S.t i.S.t) (ix u_1 3), .val (yH3 i.R.t i.R.t i.R.t) (ix u_2 0), .val (yH3 i.R.t i.R.t i.R.t) (ix u_2 1), .val (yH3 i.R.t i.R.t i.R.t) (ix u_2 2), .val (yH3 i.R.t i.R.t i.R.t) (ix u_2 3), .val (yP yI yI) x_2.1, .val (yP yI yI) x_2.2, .val (y3 i.R.t i.R.t i.R.t) told_1, .val i.S.t first_1, .any, .any], []⟩) rfl ?_
    refine b_let (ev_call ((i.M.of n_1), (m_law_bracket_g i.M.of i.M.o (ix u_1 2) (ix u_1 1) (ix u_1 3))) (ea_cons ev_var (ea_cons (ev_cv ev_var (i.S.rof (by exact kn))) (ea_cons (ev_call ((ix u_1 2), (ix u_1 1), (ix u_1 3)) (ea_cons ev_var (ea_cons (ev_cv ev_var (fun h => rp_H3X ((fun h => h) h))) (ea_cons (ev_cv ev_var (fun h => rp_H3X ((fun h => h) h))) (ea_cons (ev_cv ev_var (fun h => rp_H3X ((fun h => h) h))) ea_nil)))) rfl (by exact ⟨by subst hu_1; exact b3_mono (kf _ (by decide)) (by decide) (by decide), by subst hu_1; exact b3_mono (kf _ (by decide)) (by decide) (by decide), by subst hu_1; exact b3_mono (kf _ (by decide)) (by decide) (by decide)⟩)) ea_nil))) rfl (by exact ⟨i.S.m.mono kb (by decide) (by decide), by subst hu_1; exact i.S.m.mono (bd_lbracket (kf _ (by decide)) (kf _ (by decide)) (kf _ (by decide))) (by decide) (by decide)⟩)) fun last_1 hlast_1 => ?_
    refine b_flat (l2 := ⟨[.val (yV (.ref p)) (), .val i.R.r (), .val (yH3 yI yI (yL (yL yI))) i.M.o, .val (yL (yH3 i.S.t i.S.t i.S.t)) a.2, .val yI n_1, .val (yH3 i.S.t i.S.t i.S.t) (ix u_1 0), .val (yH3 i.S.t i.S.t i.S.t) (ix u_1 1), .val (yH3 i.S.t i.S.t i.S.t) (ix u_1 2), .val (yH3 i.S.t i.S.t i.S.t) (ix u_1 3), .val (yH3 i.R.t i.R.t i.R.t) (ix u_2 0), .val (yH3 i.R.t i.R.t i.R.t) (ix u_2 1), .val (yH3 i.R.t i.R.t i.R.t) (ix u_2 2), .val (yH3 i.R.t i.R.t i.R.t) (ix u_2 3), .val (yP yI yI) x_2.1, .val (yP yI yI) x_2.2, .val (y3 i.R.t i.R.t i.R.t) told_1, .val i.S.t first_1, .val i.S.t last_1, .any], []⟩) rfl ?_
    refine b_let (ev_call ([first_1, last_1], [(ix u_1 1), (ix u_1 0)]) (ea_cons ev_var (ea_cons (ev_l (evl_lst (t := i.S.t) (xs := [first_1, last_1]) (ea_cons ev_var (ea_cons ev_var ea_nil)) rfl (lit_len 2 rfl (by decide)))) (ea_cons (ev_l (evl_lst (t := (yLT3 i.S.t)) (xs := [(ix u_1 1), (ix u_1 0)]) (ea_cons (ev_cv ev_var (fun h => rp_H3X ((fun h => h) h))) (ea_cons (ev_cv ev_var (fun h => rp_H3X ((fun h => h) h))) ea_nil)) rfl (lit_len 2 rfl (by decide)))) ea_nil))) rfl (by first | exact sh_mix (sh_two (i := i.toMd) hp1 hp2 hu_1 kb hfirst_1 hlast_1) | exact sh_mix (sh_two (i := i.toMd) hp1 hp2 hu_1 kb hfirst_2 hlast_2))) fun due_1 hdue_1 => ?_
    refine b_flat (l2 := ⟨[.val (yV (.ref p)) (), .val i.R.r (), .val (yH3 yI yI (yL (yL yI))) i.M.o, .val (yL (yH3 i.S.t i.S.t i.S.t)) a.2, .val yI n_1, .val (yH3 i.S.t i.S.t i.S.t) (ix u_1 0), .val (yH3 i.S.t i.S.t i.S.t) (ix u_1 1), .val (yH3 i.S.t i.S.t i.S.t) (ix u_1 2), .val (yH3 i.S.t i.S.t i.S.t) (ix u_1 3), .val (yH3 i.R.t i.R.t i.R.t) (ix u_2 0), .val (yH3 i.R.t i.R.t i.R.t) (ix u_2 1), .val (yH3 i.R.t i.R.t i.R.t) (ix u_2 2), .val (yH3 i.R.t i.R.t i.R.t) (ix u_2 3), .val (yP yI yI) x_2.1, .val (yP yI yI) x_2.2, .val (y3 i.R.t i.R.t i.R.t) told_1, .val i.S.t first_1, .val i.S.t last_1, .val (yH3 i.S.t i.S.t i.S.t) due_1], []⟩) rfl ?_
    refine b_seq (b_if (tt_not (tt_b (ev_call ([told_1.1, told_1.2.1, told_1.2.2], [(ix (m_law_given_g i.M [due_1]) (0 : Int)).1, (ix (m_law_given_g i.M [due_1]) (0 : Int)).2.1, (ix (m_law_given_g i.M [due_1]) (0 : Int)).2.2]) (ea_cons (ev_cv ev_var (fun h => rp_3T ((fun h => h) h))) (ea_cons (ev_tupleL (ev_cv (ev_ixL (ev_call [due_1] (ea_cons ev_var (ea_cons (ev_l (evl_lst (t := (yH3 i.S.t i.S.t i.S.t)) (xs := [due_1]) (ea_cons ev_var ea_nil) rfl (lit_len 1 rfl (by decide)))) ea_nil)) rfl (by first | exact (by decide : (1 : Nat) ≤ 100) | (rw [hp1]; decide))) ev_int (by exact inb0 (by rw [g_given]; exact List.cons_ne_nil _ _))) (fun h => rp_H3L ((fun h => h) h)))) ea_nil)) rfl (by first | exact (by decide : (3 : Nat) ≤ 1000) | exact (by decide : (2 : Nat) ≤ 1000))))) (fun h_2 => ?_) (fun h_2 => ?_))
    · refine b_flat (l2 := ⟨[.val (yV (.ref p)) (), .val i.R.r (), .val (yH3 yI yI (yL (yL yI))) i.M.o, .val (yL (yH3 i.S.t i.S.t i.S.t)) a.2, .val yI n_1, .val (yH3 i.S.t i.S.t i.S.t) (ix u_1 0), .val (yH3 i.S.t i.S.t i.S.t) (ix u_1 1), .val (yH3 i.S.t i.S.t i.S.t) (ix u_1 2), .val (yH3 i.S.t i.S.t i.S.t) (ix u_1 3), .val (yH3 i.R.t i.R.t i.R.t) (ix u_2 0), .val (yH3 i.R.t i.R.t i.R.t) (ix u_2 1), .val (yH3 i.R.t i.R.t i.R.t) (ix u_2 2), .val (yH3 i.R.t i.R.t i.R.t) (ix u_2 3), .val (yP yI yI) x_2.1, .val (yP yI yI) x_2.2, .val (y3 i.R.t i.R.t i.R.t) told_1, .val i.S.t first_1, .val i.S.t last_1, .val (yH3 i.S.t i.S.t i.S.t) due_1], []⟩) rfl ?_
      exact b_seq (b_ret ev_bl (fun h => h _))
    · refine b_fall ?_
      refine b_flat (l2 := ⟨[.val (yV (.ref p)) (), .val i.R.r (), .val (yH3 yI yI (yL (yL yI))) i.M.o, .val (yL (yH3 i.S.t i.S.t i.S.t)) a.2, .val yI n_1, .val (yH3 i.S.t i.S.t i.S.t) (ix u_1 0), .val (yH3 i.S.t i.S.t i.S.t) (ix u_1 1), .val (yH3 i.S.t i.S.t i.S.t) (ix u_1 2), .val (yH3 i.S.t i.S.t i.S.t) (ix u_1 3), .val (yH3 i.R.t i.R.t i.R.t) (ix u_2 0), .val (yH3 i.R.t i.R.t i.R.t) (ix u_2 1), .val (yH3 i.R.t i.R.t i.R.t) (ix u_2 2), .val (yH3 i.R.t i.R.t i.R.t) (ix u_2 3), .val (yP yI yI) x_2.1, .val (yP yI yI) x_2.2, .val (y3 i.R.t i.R.t i.R.t) told_1, .val i.S.t first_1, .val i.S.t last_1, .val (yH3 i.S.t i.S.t i.S.t) due_1], []⟩) rfl ?_
      exact b_seq (b_ret (ev_call ((m_throw (ix u_2 0) (ix u_2 1) (ix u_2 2) told_1 (ix u_2 3)), [(i.M.φ (i.M.of (x_2.1).1)), (i.M.φ (i.M.of (x_2.2).1))]) (ea_cons (ev_call ((ix u_2 0), (ix u_2 1), (ix u_2 2), told_1, (ix u_2 3)) (ea_cons ev_var (ea_cons (ev_cv ev_var (fun h => rp_H3X ((fun h => h) h))) (ea_cons (ev_cv ev_var (fun h => rp_H3X ((fun h => h) h))) (ea_cons (ev_cv ev_var (fun h => rp_H3X ((fun h => h) h))) (ea_cons (ev_cv ev_var (fun h => rp_3X ((fun h => h) h))) (ea_cons (ev_cv ev_var (fun h => rp_H3X ((fun h => h) h))) ea_nil)))))) rfl (by first | exact sh_throw (i := i.toMd) hp1 hp2 hu_2 kb (by rw [htold_1, hx_2]) | exact sh_throw (i := i.toMd) hp1 hp2 hu_2 kb (by rw [htold_2, hx_1]))) (ea_cons (ev_tup (t := i.R.t) (ea_cons (ev_cv ev_var (i.ieQ (by first | assumption | (have hpz := i.M.p0; omega)) (by first | rfl | (rw [hx_2])) (by first | (rw [hx_2]; exact kn) | (rw [hx_1]; exact kn) | (rw [hx_2]; exact i.S.ok_of (n := 1) (by decide) (by omega)) | (rw [hx_1]; exact i.S.ok_of (n := 1) (by decide) (by omega))))) (ea_cons (ev_cv ev_var (i.ieQ (by first | assumption | (have hpz := i.M.p0; omega)) (by first | rfl | (rw [hx_2])) (by first | (rw [hx_2]; exact kn) | (rw [hx_1]; exact kn) | (rw [hx_2]; exact i.S.ok_of (n := 1) (by decide) (by omega)) | (rw [hx_1]; exact i.S.ok_of (n := 1) (by decide) (by omega))))) ea_nil)) rfl (lit_len 2 rfl (by decide))) ea_nil)) rfl (by first | exact (by decide : (3 : Nat) ≤ 1000) | exact (by decide : (2 : Nat) ≤ 1000))) (fun h => h _))
  · refine b_fall ?_
    refine b_flat (l2 := ⟨[.val (yV (.ref p)) (), .val i.R.r (), .val (yH3 yI yI (yL (yL yI))) i.M.o, .val (yL (yH3 i.S.t i.S.t i.S.t)) a.2, .val yI n_1, .val (yH3 i.S.t i.S.t i.S.t) (ix u_1 0), .val (yH3 i.S.t i.S.t i.S.t) (ix u_1 1), .val (yH3 i.S.t i.S.t i.S.t) (ix u_1 2), .val (yH3 i.S.t i.S.t i.S.t) (ix u_1 3), .val (yH3 i.R.t i.R.t i.R.t) (ix u_2 0), .val (yH3 i.R.t i.R.t i.R.t) (ix u_2 1), .val (yH3 i.R.t i.R.t i.R.t) (ix u_2 2), .val (yH3 i.R.t i.R.t i.R.t) (ix u_2 3), .val yI x_1.1, .val yI x_1.2, .any, .any, .any, .any], []⟩) rfl ?_
    refine b_let (ev_call ((ix u_2 0), (ix u_2 1), (ix u_2 2), (ix u_2 3), (i.M.φ (i.M.of x_1.1))) (ea_cons ev_var (ea_cons (ev_cv ev_var (fun h => rp_H3X ((fun h => h) h))) (ea_cons (ev_cv ev_var (fun h => rp_H3X ((fun h => h) h))) (ea_cons (ev_cv ev_var (fun h => rp_H3X ((fun h => h) h))) (ea_cons (ev_cv ev_var (fun h => rp_H3X ((fun h => h) h))) (ea_cons (ev_cv ev_var (i.ieF (by first | assumption | (have hpz := i.M.p0; omega)) (by first | (rw [hx_2]; exact kn) | (rw [hx_1]; exact kn) | (rw [hx_2]; exact i.S.ok_of (n := 1) (by decide) (by omega)) | (rw [hx_1]; exact i.S.ok_of (n := 1) (by decide) (by omega))))) ea_nil)))))) rfl (by first | exact sh_pre (i := i.toMd) hp1 hp2 hu_2 kb | (rw [hx_2]; exact sh_pre (i := i.toMd) hp1 hp2 hu_2 kb) | (rw [hx_1]; exact sh_pre (i := i.toMd) hp1 hp2 hu_2 kb))) fun told_2 htold_2 => ?_
    refine b_flat (l2 := ⟨[.val (yV (.ref p)) (), .val i.R.r (), .val (yH3 yI yI (yL (yL yI))) i.M.o, .val (yL (yH3 i.S.t i.S.t i.S.t)) a.2, .val yI n_1, .val (yH3 i.S.t i.S.t i.S.t) (ix u_1 0), .val (yH3 i.S.t i.S.t i.S.t) (ix u_1 1), .val (yH3 i.S.t i.S.t i.S.t) (ix u_1 2), .val (yH3 i.S.t i.S.t i.S.t) (ix u_1 3), .val (yH3 i.R.t i.R.t i.R.t) (ix u_2 0), .val (yH3 i.R.t i.R.t i.R.t) (ix u_2 1), .val (yH3 i.R.t i.R.t i.R.t) (ix u_2 2), .val (yH3 i.R.t i.R.t i.R.t) (ix u_2 3), .val yI x_1.1, .val yI x_1.2, .val (y3 i.R.t i.R.t i.R.t) told_2, .any, .any, .any], []⟩) rfl ?_
    refine b_let (ev_call ((ix u_1 0), (ix u_1 2), (ix u_1 3)) (ea_cons ev_var (ea_cons (ev_cv ev_var (fun h => rp_H3X ((fun h => h) h))) (ea_cons (ev_cv ev_var (fun h => rp_H3X ((fun h => h) h))) (ea_cons (ev_cv ev_var (fun h => rp_H3X ((fun h => h) h))) ea_nil)))) rfl (by exact ⟨by subst hu_1; exact b3_mono (kf _ (by decide)) (by decide) (by decide), by subst hu_1; exact b3_mono (kf _ (by decide)) (by decide) (by decide), by subst hu_1; exact b3_mono (kf _ (by decide)) (by decide) (by decide)⟩)) fun first_2 hfirst_2 => ?_
    refine b_flat (l2 := ⟨[.val (yV (.ref p)) (), .val i.R.r (), .val (yH3 yI yI (yL (yL yI))) i.M.o, .val (yL (yH3 i.S.t i.S.t i.S.t)) a.2, .val yI n_1, .val (yH3 i.S.t i.S.t i.S.t) (ix u_1 0), .val (yH3 i.S.t i.S.t i.S.t) (ix u_1 1), .val (yH3 i.S.t i.S.t i.S.t) (ix u_1 2), .val (yH3 i.S.t i.S.t i.S.t) (ix u_1 3), .val (yH3 i.R.t i.R.t i.R.t) (ix u_2 0), .val (yH3 i.R.t i.R.t i.R.t) (ix u_2 1), .val (yH3 i.R.t i.R.t i.R.t) (ix u_2 2), .val (yH3 i.R.t i.R.t i.R.t) (ix u_2 3), .val yI x_1.1, .val yI x_1.2, .val (y3 i.R.t i.R.t i.R.t) told_2, .val i.S.t first_2, .any, .any], []⟩) rfl ?_
    refine b_let (ev_call ((i.M.of n_1), (m_law_bracket_g i.M.of i.M.o (ix u_1 2) (ix u_1 1) (ix u_1 3))) (ea_cons ev_var (ea_cons (ev_cv ev_var (i.S.rof (by exact kn))) (ea_cons (ev_call ((ix u_1 2), (ix u_1 1), (ix u_1 3)) (ea_cons ev_var (ea_cons (ev_cv ev_var (fun h => rp_H3X ((fun h => h) h))) (ea_cons (ev_cv ev_var (fun h => rp_H3X ((fun h => h) h))) (ea_cons (ev_cv ev_var (fun h => rp_H3X ((fun h => h) h))) ea_nil)))) rfl (by exact ⟨by subst hu_1; exact b3_mono (kf _ (by decide)) (by decide) (by decide), by subst hu_1; exact b3_mono (kf _ (by decide)) (by decide) (by decide), by subst hu_1; exact b3_mono (kf _ (by decide)) (by decide) (by decide)⟩)) ea_nil))) rfl (by exact ⟨i.S.m.mono kb (by decide) (by decide), by subst hu_1; exact i.S.m.mono (bd_lbracket (kf _ (by decide)) (kf _ (by decide)) (kf _ (by decide))) (by decide) (by decide)⟩)) fun last_2 hlast_2 => ?_
    refine b_flat (l2 := ⟨[.val (yV (.ref p)) (), .val i.R.r (), .val (yH3 yI yI (yL (yL yI))) i.M.o, .val (yL (yH3 i.S.t i.S.t i.S.t)) a.2, .val yI n_1, .val (yH3 i.S.t i.S.t i.S.t) (ix u_1 0), .val (yH3 i.S.t i.S.t i.S.t) (ix u_1 1), .val (yH3 i.S.t i.S.t i.S.t) (ix u_1 2), .val (yH3 i.S.t i.S.t i.S.t) (ix u_1 3), .val (yH3 i.R.t i.R.t i.R.t) (ix u_2 0), .val (yH3 i.R.t i.R.t i.R.t) (ix u_2 1), .val (yH3 i.R.t i.R.t i.R.t) (ix u_2 2), .val (yH3 i.R.t i.R.t i.R.t) (ix u_2 3), .val yI x_1.1, .val yI x_1.2, .val (y3 i.R.t i.R.t i.R.t) told_2, .val i.S.t first_2, .val i.S.t last_2, .any], []⟩) rfl ?_
    refine b_let (ev_call ([first_2, last_2], [(ix u_1 1), (ix u_1 0)]) (ea_cons ev_var (ea_cons (ev_l (evl_lst (t := i.S.t) (xs := [first_2, last_2]) (ea_cons ev_var (ea_cons ev_var ea_nil)) rfl (lit_len 2 rfl (by decide)))) (ea_cons (ev_l (evl_lst (t := (yLT3 i.S.t)) (xs := [(ix u_1 1), (ix u_1 0)]) (ea_cons (ev_cv ev_var (fun h => rp_H3X ((fun h => h) h))) (ea_cons (ev_cv ev_var (fun h => rp_H3X ((fun h => h) h))) ea_nil)) rfl (lit_len 2 rfl (by decide)))) ea_nil))) rfl (by first | exact sh_mix (sh_two (i := i.toMd) hp1 hp2 hu_1 kb hfirst_1 hlast_1) | exact sh_mix (sh_two (i := i.toMd) hp1 hp2 hu_1 kb hfirst_2 hlast_2))) fun due_2 hdue_2 => ?_
    refine b_flat (l2 := ⟨[.val (yV (.ref p)) (), .val i.R.r (), .val (yH3 yI yI (yL (yL yI))) i.M.o, .val (yL (yH3 i.S.t i.S.t i.S.t)) a.2, .val yI n_1, .val (yH3 i.S.t i.S.t i.S.t) (ix u_1 0), .val (yH3 i.S.t i.S.t i.S.t) (ix u_1 1), .val (yH3 i.S.t i.S.t i.S.t) (ix u_1 2), .val (yH3 i.S.t i.S.t i.S.t) (ix u_1 3), .val (yH3 i.R.t i.R.t i.R.t) (ix u_2 0), .val (yH3 i.R.t i.R.t i.R.t) (ix u_2 1), .val (yH3 i.R.t i.R.t i.R.t) (ix u_2 2), .val (yH3 i.R.t i.R.t i.R.t) (ix u_2 3), .val yI x_1.1, .val yI x_1.2, .val (y3 i.R.t i.R.t i.R.t) told_2, .val i.S.t first_2, .val i.S.t last_2, .val (yH3 i.S.t i.S.t i.S.t) due_2], []⟩) rfl ?_
    refine b_seq (b_if (tt_not (tt_b (ev_call ([told_2.1, told_2.2.1, told_2.2.2], [(ix (m_law_given_g i.M [due_2]) (0 : Int)).1, (ix (m_law_given_g i.M [due_2]) (0 : Int)).2.1, (ix (m_law_given_g i.M [due_2]) (0 : Int)).2.2]) (ea_cons (ev_cv ev_var (fun h => rp_3T ((fun h => h) h))) (ea_cons (ev_tupleL (ev_cv (ev_ixL (ev_call [due_2] (ea_cons ev_var (ea_cons (ev_l (evl_lst (t := (yH3 i.S.t i.S.t i.S.t)) (xs := [due_2]) (ea_cons ev_var ea_nil) rfl (lit_len 1 rfl (by decide)))) ea_nil)) rfl (by first | exact (by decide : (1 : Nat) ≤ 100) | (rw [hp1]; decide))) ev_int (by exact inb0 (by rw [g_given]; exact List.cons_ne_nil _ _))) (fun h => rp_H3L ((fun h => h) h)))) ea_nil)) rfl (by first | exact (by decide : (3 : Nat) ≤ 1000) | exact (by decide : (2 : Nat) ≤ 1000))))) (fun h_3 => ?_) (fun h_3 => ?_))
    · refine b_flat (l2 := ⟨[.val (yV (.ref p)) (), .val i.R.r (), .val (yH3 yI yI (yL (yL yI))) i.M.o, .val (yL (yH3 i.S.t i.S.t i.S.t)) a.2, .val yI n_1, .val (yH3 i.S.t i.S.t i.S.t) (ix u_1 0), .val (yH3 i.S.t i.S.t i.S.t) (ix u_1 1), .val (yH3 i.S.t i.S.t i.S.t) (ix u_1 2), .val (yH3 i.S.t i.S.t i.S.t) (ix u_1 3), .val (yH3 i.R.t i.R.t i.R.t) (ix u_2 0), .val (yH3 i.R.t i.R.t i.R.t) (ix u_2 1), .val (yH3 i.R.t i.R.t i.R.t) (ix u_2 2), .val (yH3 i.R.t i.R.t i.R.t) (ix u_2 3), .val yI x_1.1, .val yI x_1.2, .val (y3 i.R.t i.R.t i.R.t) told_2, .val i.S.t first_2, .val i.S.t last_2, .val (yH3 i.S.t i.S.t i.S.t) due_2], []⟩) rfl ?_
      exact b_seq (b_ret ev_bl (fun h => h _))
    · refine b_fall ?_
      refine b_flat (l2 := ⟨[.val (yV (.ref p)) (), .val i.R.r (), .val (yH3 yI yI (yL (yL yI))) i.M.o, .val (yL (yH3 i.S.t i.S.t i.S.t)) a.2, .val yI n_1, .val (yH3 i.S.t i.S.t i.S.t) (ix u_1 0), .val (yH3 i.S.t i.S.t i.S.t) (ix u_1 1), .val (yH3 i.S.t i.S.t i.S.t) (ix u_1 2), .val (yH3 i.S.t i.S.t i.S.t) (ix u_1 3), .val (yH3 i.R.t i.R.t i.R.t) (ix u_2 0), .val (yH3 i.R.t i.R.t i.R.t) (ix u_2 1), .val (yH3 i.R.t i.R.t i.R.t) (ix u_2 2), .val (yH3 i.R.t i.R.t i.R.t) (ix u_2 3), .val yI x_1.1, .val yI x_1.2, .val (y3 i.R.t i.R.t i.R.t) told_2, .val i.S.t first_2, .val i.S.t last_2, .val (yH3 i.S.t i.S.t i.S.t) due_2], []⟩) rfl ?_
      exact b_seq (b_ret (ev_call ((m_throw (ix u_2 0) (ix u_2 1) (ix u_2 2) told_2 (ix u_2 3)), [(i.M.φ (i.M.of x_1.1)), (i.M.φ (i.M.of x_1.2))]) (ea_cons (ev_call ((ix u_2 0), (ix u_2 1), (ix u_2 2), told_2, (ix u_2 3)) (ea_cons ev_var (ea_cons (ev_cv ev_var (fun h => rp_H3X ((fun h => h) h))) (ea_cons (ev_cv ev_var (fun h => rp_H3X ((fun h => h) h))) (ea_cons (ev_cv ev_var (fun h => rp_H3X ((fun h => h) h))) (ea_cons (ev_cv ev_var (fun h => rp_3X ((fun h => h) h))) (ea_cons (ev_cv ev_var (fun h => rp_H3X ((fun h => h) h))) ea_nil)))))) rfl (by first | exact sh_throw (i := i.toMd) hp1 hp2 hu_2 kb (by rw [htold_1, hx_2]) | exact sh_throw (i := i.toMd) hp1 hp2 hu_2 kb (by rw [htold_2, hx_1]))) (ea_cons (ev_tup (t := i.R.t) (ea_cons (ev_cv ev_var (i.ieF (by first | assumption | (have hpz := i.M.p0; omega)) (by first | (rw [hx_2]; exact kn) | (rw [hx_1]; exact kn) | (rw [hx_2]; exact i.S.ok_of (n := 1) (by decide) (by omega)) | (rw [hx_1]; exact i.S.ok_of (n := 1) (by decide) (by omega))))) (ea_cons (ev_cv ev_var (i.ieF (by first | assumption | (have hpz := i.M.p0; omega)) (by first | (rw [hx_2]; exact kn) | (rw [hx_1]; exact kn) | (rw [hx_2]; exact i.S.ok_of (n := 1) (by decide) (by omega)) | (rw [hx_1]; exact i.S.ok_of (n := 1) (by decide) (by omega))))) ea_nil)) rfl (lit_len 2 rfl (by decide))) ea_nil)) rfl (by first | exact (by decide : (3 : Nat) ≤ 1000) | exact (by decide : (2 : Nat) ≤ 1000))) (fun h => h _))

theorem p_share0 {P : Program} {w : World} {K : PySem.W.Frag} {mg : Str → Option Value} {base : Heap} {i : MdR P w K mg base} {pool : List Int} {f : List (V3 i.M.A)} (hp : PlB 9000 pool) {y : Bool × List Int} (hy : y = m_law_share_g i.M pool f) : Pl2 pool y.2 1 := by
  have hq2 := i.S.q2
  have h := (p_draw (pool := pool) (most := i.M.o.2.1) ⟨plb_ok hp, by omega, by unfold Sz; omega⟩ rfl).2.2
  subst hy
  unfold m_law_share_g
  simp only [bnd]
  split
  · split <;> exact h
  · split <;> exact h
theorem p_share {P : Program} {w : World} {K : PySem.W.Frag} {mg : Str → Option Value} {base : Heap} {i : MdR P w K mg base} {pool : List Int} {f : List (V3 i.M.A)} (hp : PlB 9000 pool ∧ f.length = 4 ∧ ∀ v ∈ f, i.S.m.b3 11 0 v) {y : Bool × List Int} (hy : y = m_law_share_g i.M pool f) : Pl2 pool y.2 1 := by
  have hq2 := i.S.q2
  have h := (p_draw (pool := pool) (most := i.M.o.2.1) ⟨plb_ok hp.1, by omega, by unfold Sz; omega⟩ rfl).2.2
  subst hy
  unfold m_law_share_g
  simp only [bnd]
  split
  · split <;> exact h
  · split <;> exact h

theorem sc_law_side : FnScope ["pool", "field", "own", "q", "a", "b", "off", "n", "c", "weights", "d", "o", "other", "twin", "fives", "five", "pair", "table", "led", "v", "k"] ["pool", "field", "own"] (defScope s_law_side) := ⟨rfl, rfl, rfl, by decide +kernel, rfl, by decide +kernel, by decide +kernel⟩
def m_law_side_g (i : Mm) (a_pool : List Int) : Bool × List Int :=
  bnd i.o.2.1 fun q_1 =>
  bnd (m_law_drawn_g i a_pool) fun yy_1 =>
  bnd yy_1.1 fun a_1 =>
  bnd (m_law_drawn_g i yy_1.2) fun yy_2 =>
  bnd (m_law_unlike_g i.of i.o a_1 yy_2.1) fun b_1 =>
  bnd (m_law_beside_g i.of i.o (m_law_cross_g i.of i.o a_1 b_1)) fun off_1 =>
  bnd (m_law_draw yy_2.2 (q_1 - (1 : Int))) fun yy_3 =>
  bnd ((1 : Int) + yy_3.1) fun n_1 =>
  bnd (m_law_draw yy_3.2 (q_1 - (1 : Int))) fun yy_4 =>
  bnd (m_law_mix_g i.of i.o [(i.of n_1), (i.of ((1 : Int) + yy_4.1))] [a_1, b_1]) fun c_1 =>
  bnd (m_law_draw yy_4.2 q_1) fun yy_5 =>
  bnd (m_law_draw yy_5.2 q_1) fun yy_6 =>
  bnd [yy_5.1, yy_6.1] fun weights_1 =>
  bnd (m_law_mix_g i.of i.o (List.map (fun (z_2 : Int) => (i.of z_2)) weights_1) [a_1, b_1]) fun d_1 =>
  bnd (if (d_1 = ((0 : i.A), (0 : i.A), (0 : i.A))) then a_1 else d_1) fun d_2 =>
  bnd (m_law_draw yy_6.2 q_1) fun yy_7 =>
  bnd (m_law_draw yy_7.2 q_1) fun yy_8 =>
  bnd [yy_7.1, yy_8.1, n_1] fun weights_2 =>
  bnd (m_law_mix_g i.of i.o (List.map (fun (z_4 : Int) => (i.of z_4)) weights_2) [a_1, b_1, off_1]) fun o_1 =>
  bnd (m_law_draw yy_8.2 q_1) fun yy_9 =>
  bnd [yy_9.1, n_1, (1 : Int)] fun weights_3 =>
  bnd (m_law_mix_g i.of i.o (List.map (fun (z_6 : Int) => (i.of z_6)) weights_3) [a_1, b_1, off_1]) fun other_1 =>
  bnd (m_law_mix_g i.of i.o [(i.of n_1)] [a_1]) fun twin_1 =>
  bnd [[a_1, b_1, c_1, d_2, o_1], [a_1, b_1, c_1, twin_1, o_1]] fun fives_1 =>
  ((forL (fun (s_1 : Unit) five_1 =>
  (if (¬ ((m_law_asked_g i five_1) = true)) then
  .ret ((false, yy_9.2))
  else
  .go ())) ((fives_1 ++ [[a_1, c_1, twin_1, b_1, o_1]]) ++ [[a_1, b_1, c_1, d_2, c_1]]) ()).out fun s_1 =>
  bnd (m_law_products_g i.of i.o [a_1, b_1, c_1, d_2, o_1]) fun pair_1 =>
  (if (¬ ((m_law_answers_g i [a_1, b_1, c_1, d_2, other_1] pair_1) = true)) then
  (false, yy_9.2)
  else
  bnd (m_law_spanning_g i.of i.o yy_9.2) fun yy_10 =>
  bnd yy_10.1 fun table_1 =>
  bnd (List.map (fun (v_1 : (i.A × i.A × i.A)) => (m_law_carried_g i.of i.o table_1 v_1)) [a_1, b_1, c_1, d_2, o_1]) fun led_1 =>
  (if (¬ ((m_law_answers_g i led_1 pair_1) = true)) then
  (false, yy_10.2)
  else
  bnd (mapS (fun (s_2 : List Int) (x_1 : Int) => bnd (m_law_drawn_g i s_2) fun yy_12 => (yy_12.1, yy_12.2)) (rng 0 (Int.toNat (5 : Int))) yy_10.2) fun yy_13 =>
  (if (¬ ((m_law_asked_g i yy_13.1) = true)) then
  (false, yy_13.2)
  else
  bnd (m_law_share_g i yy_13.2 [a_1, b_1, c_1, o_1]) fun yy_14 =>
  (if (¬ (yy_14.1 = true)) then
  (false, yy_14.2)
  else
  ((m_law_asked_g i [a_1, b_1, c_1, d_2, o_1]), yy_14.2))))))
theorem gmp1 {A : Type} [Lean.Grind.CommRing A] [DecidableEq A] {m : Ms A} {p : A} {a : V3 A} (h1 : m.bd 4 0 p) (h2 : m.b3 11 0 a) : (∀ x ∈ [p], m.bd 400 0 x) ∧ (∀ x ∈ [a], m.b3 400 0 x) ∧ [p].length ≤ 9 := by
  refine ⟨fun x hx => ?_, fun x hx => ?_, (by show 1 ≤ 9; decide)⟩
  · rw [List.mem_singleton.mp hx]; exact m.mono h1 (by decide) (by decide)
  · rw [List.mem_singleton.mp hx]; exact b3_mono h2 (by decide) (by decide)
theorem gmp2 {A : Type} [Lean.Grind.CommRing A] [DecidableEq A] {m : Ms A} {p q : A} {a b : V3 A} (h1 : m.bd 4 0 p) (h2 : m.bd 4 0 q) (h3 : m.b3 11 0 a) (h4 : m.b3 11 0 b) : (∀ x ∈ [p, q], m.bd 400 0 x) ∧ (∀ x ∈ [a, b], m.b3 400 0 x) ∧ [p, q].length ≤ 9 := by
  refine ⟨fun x hx => ?_, fun x hx => ?_, (by show 2 ≤ 9; decide)⟩ <;> simp only [List.mem_cons, List.not_mem_nil, or_false] at hx <;> rcases hx with e | e <;> rw [e]
  · exact m.mono h1 (by decide) (by decide)
  · exact m.mono h2 (by decide) (by decide)
  · exact b3_mono h3 (by decide) (by decide)
  · exact b3_mono h4 (by decide) (by decide)
theorem gmp3 {A : Type} [Lean.Grind.CommRing A] [DecidableEq A] {m : Ms A} {p q r : A} {a b c : V3 A} (h1 : m.bd 4 0 p) (h2 : m.bd 4 0 q) (h0 : m.bd 4 0 r) (h3 : m.b3 11 0 a) (h4 : m.b3 11 0 b) (h5 : m.b3 11 0 c) : (∀ x ∈ [p, q, r], m.bd 400 0 x) ∧ (∀ x ∈ [a, b, c], m.b3 400 0 x) ∧ [p, q, r].length ≤ 9 := by
  refine ⟨fun x hx => ?_, fun x hx => ?_, (by show 3 ≤ 9; decide)⟩ <;> simp only [List.mem_cons, List.not_mem_nil, or_false] at hx <;> rcases hx with e | e | e <;> rw [e]
  · exact m.mono h1 (by decide) (by decide)
  · exact m.mono h2 (by decide) (by decide)
  · exact m.mono h0 (by decide) (by decide)
  · exact b3_mono h3 (by decide) (by decide)
  · exact b3_mono h4 (by decide) (by decide)
  · exact b3_mono h5 (by decide) (by decide)
theorem all5 {α : Type} {p : α → Prop} {a b c d e : α} (h1 : p a) (h2 : p b) (h3 : p c) (h4 : p d) (h5 : p e) : ∀ v ∈ [a, b, c, d, e], p v := by
  intro v hv
  simp only [List.mem_cons, List.not_mem_nil, or_false] at hv
  rcases hv with h | h | h | h | h <;> rw [h] <;> assumption
theorem all4 {α : Type} {p : α → Prop} {a b c d : α} (h1 : p a) (h2 : p b) (h3 : p c) (h4 : p d) : ∀ v ∈ [a, b, c, d], p v := by
  intro v hv
  simp only [List.mem_cons, List.not_mem_nil, or_false] at hv
  rcases hv with h | h | h | h <;> rw [h] <;> assumption
theorem all5m {A : Type} [Lean.Grind.CommRing A] [DecidableEq A] {m : Ms A} {n : Nat} {a b c d e : V3 A} (hn : 11 ≤ n) (h1 : m.b3 11 0 a) (h2 : m.b3 11 0 b) (h3 : m.b3 11 0 c) (h4 : m.b3 11 0 d) (h5 : m.b3 11 0 e) : ∀ v ∈ [a, b, c, d, e], m.b3 n 0 v := fun v hv => b3_mono (all5 (p := m.b3 11 0) h1 h2 h3 h4 h5 v hv) hn (by decide)
theorem led_b3 {A : Type} [Lean.Grind.CommRing A] [DecidableEq A] {m : Ms A} {f : Int → A} {o : Ow} {t : V3 A × V3 A × V3 A} {xs : List (V3 A)} (ht : m.b3 4 0 t.1 ∧ m.b3 4 0 t.2.1 ∧ m.b3 4 0 t.2.2) (h : ∀ v ∈ xs, m.b3 11 0 v) : ∀ v ∈ List.map (fun (v_1 : A × A × A) => (m_law_carried_g f o t v_1)) xs, m.b3 90 0 v := by
  intro v hv
  obtain ⟨x, hx, e⟩ := List.mem_map.mp hv
  rw [← e]
  exact b3_mono (b3_carried ht.1 ht.2.1 ht.2.2 (h x hx)) (by decide) (by decide)
theorem lv5_pre {pool pre post s : List Int} {x : Int} (hp : PlB 8000 pool) (e : rng 0 (Int.toNat 5) = pre ++ x :: post) (hj : Pl2 pool s (4 * (pre.length : Nat))) : PlB 9000 s := by
  have h1 := len_pre e
  simp only [Pl2, PlB] at *
  omega
theorem lv5_0 {pool : List Int} (hp : PlB 8000 pool) : Pl2 pool pool (4 * (([] : List Int).length : Nat)) := by
  simp only [Pl2, PlB, List.length_nil] at *
  omega
theorem lv5_step {P : Program} {w : World} {K : PySem.W.Frag} {mg : Str → Option Value} {base : Heap} {i : Md P w K mg base} {pool pre post s : List Int} {x : Int} (hp : PlB 8000 pool) (e : rng 0 (Int.toNat 5) = pre ++ x :: post) (hj : Pl2 pool s (4 * (pre.length : Nat))) : Pl2 pool (m_law_drawn_g i.M s).2 (4 * ((pre ++ [x]).length : Nat)) := by
  have h1 := (p_drawn (lv5_pre hp e hj) rfl (i := i)).2
  rw [List.length_append, List.length_singleton]
  simp only [Pl2] at *
  omega
theorem lv5_post {P : Program} {w : World} {K : PySem.W.Frag} {mg : Str → Option Value} {base : Heap} {i : Md P w K mg base} {pool : List Int} (hp : PlB 8000 pool) {y : List (V3 i.M.A) × List Int} (hy : y = mapS (fun (s_2 : List Int) (x_1 : Int) => bnd (m_law_drawn_g i.M s_2) fun yy_12 => (yy_12.1, yy_12.2)) (rng 0 (Int.toNat (5 : Int))) pool) :
    y.1.length = 5 ∧ (∀ v ∈ y.1, i.S.m.b3 11 0 v) ∧ Pl2 pool y.2 20 := by
  subst hy
  have e : rng 0 (Int.toNat (5 : Int)) = [0, 1, 2, 3, 4] := rfl
  rw [e]
  simp only [mapS, bnd]
  have h1 := p_drawn (i := i) (pool := pool) (by decreasing_trivial_pre_omega) rfl
  generalize m_law_drawn_g i.M pool = d1 at *
  have h2 := p_drawn (i := i) (pool := d1.2) (by decreasing_trivial_pre_omega) rfl
  generalize m_law_drawn_g i.M d1.2 = d2 at *
  have h3 := p_drawn (i := i) (pool := d2.2) (by decreasing_trivial_pre_omega) rfl
  generalize m_law_drawn_g i.M d2.2 = d3 at *
  have h4 := p_drawn (i := i) (pool := d3.2) (by decreasing_trivial_pre_omega) rfl
  generalize m_law_drawn_g i.M d3.2 = d4 at *
  have h5 := p_drawn (i := i) (pool := d4.2) (by decreasing_trivial_pre_omega) rfl
  generalize m_law_drawn_g i.M d4.2 = d5 at *
  exact ⟨rfl, all5 (b3_mono h1.1.1 (by decide) (by decide)) (b3_mono h2.1.1 (by decide) (by decide)) (b3_mono h3.1.1 (by decide) (by decide)) (b3_mono h4.1.1 (by decide) (by decide)) (b3_mono h5.1.1 (by decide) (by decide)), by decreasing_trivial_pre_omega⟩


theorem ok_law_side_g (T : Tx P K mg) : ClX P w K mg base 23 "_law_side" (fun i : MdR P w K mg base => (spP (fun (p : Addr) (a : List Int) => [.val (yV (.ref p)) (), .val i.R.r (), .val (yH3 yI yI (yL (yL yI))) i.M.o]) (fun a => cL yI a) (fun s => cL yI s) (fun a : List Int => PlB 4000 a) yB (fun a => m_law_side_g i.M a))) := by
  obtain ⟨f, fd, hg, FD⟩ := T.g_law_side
  refine ⟨f, fd, ["pool", "field", "own"], fun i => ?_, hg, FD.kp, FD.bindsN fun _ _ _ _ _ _ us hl => match us, hl with | [_, _, _], _ => rfl⟩
  refine TL.FunD.okC (N := ["pool", "field", "own", "q", "a", "b", "off", "n", "c", "weights", "d", "o", "other", "twin", "fives", "five", "pair", "table", "led", "v", "k"]) FD sc_law_side (lenP fun _ _ => rfl) fun cdv A outer s H E hr => ?_
  refine ⟨_, (pss_cons (ps_set (i := 3) sc_law_side.nd rfl (by first | exact .inl rfl | exact .inr rfl) (pe_ix (ixL_K (K := K) rfl) (pv 2) pe_int (fun _ _ => rfl))) (pss_cons (ps_set (i := 4) sc_law_side.nd rfl (by first | exact .inl rfl | exact .inr rfl) (pe_cl ((ok_law_drawn_g T).at i.toMd) hr (by decide) (by rfl) passL (pa_cons (pv 0) (pa_cons (pv 2) pa_nil)))) (pss_cons (ps_set (i := 5) sc_law_side.nd rfl (by first | exact .inl rfl | exact .inr rfl) (pe_cl ((ok_law_unlike_g T).at i.og) hr (by decide) (by rfl) passL (pa_cons (pv 2) (pa_cons (pv 4) (pa_cons (pe_cl ((ok_law_drawn_g T).at i.toMd) hr (by decide) (by rfl) passL (pa_cons (pv 0) (pa_cons (pv 2) pa_nil))) pa_nil))))) (pss_cons (ps_set (i := 6) sc_law_side.nd rfl (by first | exact .inl rfl | exact .inr rfl) (pe_cl ((ok_law_beside_g T).at i.og) hr (by decide) (by rfl) passL (pa_cons (pe_cl ((ok_law_cross_g T).at i.og) hr (by decide) (by rfl) passL (pa_cons (pv 2) (pa_cons (pv 4) (pa_cons (pv 5) pa_nil)))) pa_nil))) (pss_cons (ps_set (i := 7) sc_law_side.nd rfl (by first | exact .inl rfl | exact .inr rfl) (pe_op op_add pe_int (pe_cl (ok_law_draw T) hr (by decide) (by rfl) passL (pa_cons (pv 0) (pa_cons (pe_op op_sub (pv 3) pe_int) pa_nil))))) (pss_cons (ps_set (i := 8) sc_law_side.nd rfl (by first | exact .inl rfl | exact .inr rfl) (pe_cl ((ok_law_mix_g T).at i.og) hr (by decide) (by rfl) passL (pa_cons (pv 2) (pa_cons (pe_lst (pa_cons (pv 7) (pa_cons (pe_op op_add pe_int (pe_cl (ok_law_draw T) hr (by decide) (by rfl) passL (pa_cons (pv 0) (pa_cons (pe_op op_sub (pv 3) pe_int) pa_nil)))) pa_nil))) (pa_cons (pe_lst (pa_cons (pv 4) (pa_cons (pv 5) pa_nil))) pa_nil))))) (pss_cons (ps_set (i := 9) sc_law_side.nd rfl (by first | exact .inl rfl | exact .inr rfl) (pe_lst (pa_cons (pe_cl (ok_law_draw T) hr (by decide) (by rfl) passL (pa_cons (pv 0) (pa_cons (pv 3) pa_nil))) (pa_cons (pe_cl (ok_law_draw T) hr (by decide) (by rfl) passL (pa_cons (pv 0) (pa_cons (pv 3) pa_nil))) pa_nil)))) (pss_cons (ps_set (i := 10) sc_law_side.nd rfl (by first | exact .inl rfl | exact .inr rfl) (pe_cl ((ok_law_mix_g T).at i.og) hr (by decide) (by rfl) passL (pa_cons (pv 2) (pa_cons (pv 9) (pa_cons (pe_lst (pa_cons (pv 4) (pa_cons (pv 5) pa_nil))) pa_nil))))) (pss_cons (ps_if (pt_cmpR (op_eqK (K := K) rfl hr.units) (pv 10) (pe_lst (pa_cons pe_int (pa_cons pe_int (pa_cons pe_int pa_nil)))) (nomark _)) (pss_cons (ps_set (i := 10) sc_law_side.nd rfl (by first | exact .inl rfl | exact .inr rfl) (pv 4)) pss_nil) pss_nil) (pss_cons (ps_set (i := 9) sc_law_side.nd rfl (by first | exact .inl rfl | exact .inr rfl) (pe_lst (pa_cons (pe_cl (ok_law_draw T) hr (by decide) (by rfl) passL (pa_cons (pv 0) (pa_cons (pv 3) pa_nil))) (pa_cons (pe_cl (ok_law_draw T) hr (by decide) (by rfl) passL (pa_cons (pv 0) (pa_cons (pv 3) pa_nil))) (pa_cons (pv 7) pa_nil))))) (pss_cons (ps_set (i := 11) sc_law_side.nd rfl (by first | exact .inl rfl | exact .inr rfl) (pe_cl ((ok_law_mix_g T).at i.og) hr (by decide) (by rfl) passL (pa_cons (pv 2) (pa_cons (pv 9) (pa_cons (pe_lst (pa_cons (pv 4) (pa_cons (pv 5) (pa_cons (pv 6) pa_nil)))) pa_nil))))) (pss_cons (ps_set (i := 9) sc_law_side.nd rfl (by first | exact .inl rfl | exact .inr rfl) (pe_lst (pa_cons (pe_cl (ok_law_draw T) hr (by decide) (by rfl) passL (pa_cons (pv 0) (pa_cons (pv 3) pa_nil))) (pa_cons (pv 7) (pa_cons pe_int pa_nil))))) (pss_cons (ps_set (i := 12) sc_law_side.nd rfl (by first | exact .inl rfl | exact .inr rfl) (pe_cl ((ok_law_mix_g T).at i.og) hr (by decide) (by rfl) passL (pa_cons (pv 2) (pa_cons (pv 9) (pa_cons (pe_lst (pa_cons (pv 4) (pa_cons (pv 5) (pa_cons (pv 6) pa_nil)))) pa_nil))))) (pss_cons (ps_set (i := 13) sc_law_side.nd rfl (by first | exact .inl rfl | exact .inr rfl) (pe_cl ((ok_law_mix_g T).at i.og) hr (by decide) (by rfl) passL (pa_cons (pv 2) (pa_cons (pe_lst (pa_cons (pv 7) pa_nil)) (pa_cons (pe_lst (pa_cons (pv 4) pa_nil)) pa_nil))))) (pss_cons (ps_set (i := 14) sc_law_side.nd rfl (by first | exact .inl rfl | exact .inr rfl) (pe_lst (pa_cons (pe_lst (pa_cons (pv 4) (pa_cons (pv 5) (pa_cons (pv 8) (pa_cons (pv 10) (pa_cons (pv 11) pa_nil)))))) (pa_cons (pe_lst (pa_cons (pv 4) (pa_cons (pv 5) (pa_cons (pv 8) (pa_cons (pv 13) (pa_cons (pv 11) pa_nil)))))) pa_nil)))) (pss_cons (ps_expr (pe_bm PySem.F.plainAttrs_list PySem.F.slot_list_append PySem.F.type_list_append mt_append (pv 14) (pa_cons (pe_lst (pa_cons (pv 4) (pa_cons (pv 8) (pa_cons (pv 13) (pa_cons (pv 5) (pa_cons (pv 11) pa_nil)))))) pa_nil))) (pss_cons (ps_expr (pe_bm PySem.F.plainAttrs_list PySem.F.slot_list_append PySem.F.type_list_append mt_append (pv 14) (pa_cons (pe_lst (pa_cons (pv 4) (pa_cons (pv 5) (pa_cons (pv 8) (pa_cons (pv 10) (pa_cons (pv 8) pa_nil)))))) pa_nil))) (pss_cons (ps_for (passes_of rfl) rfl (pi_listK (K := K) rfl (pv 14)) (pg_name (i := 15) sc_law_side.nd (by rfl) (by first | exact .inl rfl | exact .inr rfl)) (pss_cons (ps_if (pt_not (pt_val (pe_cl ((ok_law_asked_g T).at i) hr (by decide) (by rfl) passL (pa_cons (pv 1) (pa_cons (pv 2) (pa_cons (pv 15) pa_nil)))))) (pss_cons (ps_ret pe_bl) pss_nil) pss_nil) pss_nil)) (pss_cons (ps_set (i := 16) sc_law_side.nd rfl (by first | exact .inl rfl | exact .inr rfl) (pe_cl ((ok_law_products_g T).at i.og) hr (by decide) (by rfl) passL (pa_cons (pv 2) (pa_cons (pe_lst (pa_cons (pv 4) (pa_cons (pv 5) (pa_cons (pv 8) (pa_cons (pv 10) (pa_cons (pv 11) pa_nil)))))) pa_nil)))) (pss_cons (ps_if (pt_not (pt_val (pe_cl ((ok_law_answers_g T).at i) hr (by decide) (by rfl) passL (pa_cons (pv 1) (pa_cons (pv 2) (pa_cons (pe_lst (pa_cons (pv 4) (pa_cons (pv 5) (pa_cons (pv 8) (pa_cons (pv 10) (pa_cons (pv 12) pa_nil)))))) (pa_cons (pv 16) pa_nil))))))) (pss_cons (ps_ret pe_bl) pss_nil) pss_nil) (pss_cons (ps_set (i := 17) sc_law_side.nd rfl (by first | exact .inl rfl | exact .inr rfl) (pe_cl ((ok_law_spanning_g T).at i.og) hr (by decide) (by rfl) passL (pa_cons (pv 0) (pa_cons (pv 2) pa_nil)))) (pss_cons (ps_setLc (i := 18) (own := [("v", 19)]) (tt := tYes) rfl sc_law_side.nd rfl rfl (sw_true rfl rfl rfl (by decide +kernel)) (pi_listK (K := K) rfl (pe_lst (pa_cons (pv 4) (pa_cons (pv 5) (pa_cons (pv 8) (pa_cons (pv 10) (pa_cons (pv 11) pa_nil))))))) (by first | exact blkOk_by (N := ["pool", "field", "own", "q", "a", "b", "off", "n", "c", "weights", "d", "o", "other", "twin", "fives", "five", "pair", "table", "led", "v", "k"]) (sc := defScope s_law_side) (by decide +kernel) | exact blkOk_by rfl) (fun _ _ _ _ _ => (pg_name (i := 19) sc_law_side.nd (by rfl) (by first | exact .inl rfl | exact .inr rfl))) (fun _ _ _ _ _ => pts_nil) (fun _ _ _ _ _ => (pe_cl ((ok_law_carried_g T).at i.og) hr (by decide) (by rfl) passL (pa_cons (pv 2) (pa_cons (pv 17) (pa_cons (pv 19) pa_nil)))))) (pss_cons (ps_if (pt_not (pt_val (pe_cl ((ok_law_answers_g T).at i) hr (by decide) (by rfl) passL (pa_cons (pv 1) (pa_cons (pv 2) (pa_cons (pv 18) (pa_cons (pv 16) pa_nil))))))) (pss_cons (ps_ret pe_bl) pss_nil) pss_nil) (pss_cons (ps_if (pt_not (pt_val (pe_cl ((ok_law_asked_g T).at i) hr (by decide) (by rfl) passL (pa_cons (pv 1) (pa_cons (pv 2) (pa_cons (pe_lc (own := [("k", 20)]) (tt := tYes) rfl sc_law_side.nd (pi_range1 (by rfl) T.b_range (pa_cons pe_int pa_nil)) (by first | exact blkOk_by (N := ["pool", "field", "own", "q", "a", "b", "off", "n", "c", "weights", "d", "o", "other", "twin", "fives", "five", "pair", "table", "led", "v", "k"]) (sc := defScope s_law_side) (by decide +kernel) | exact blkOk_by rfl) (fun _ _ _ _ _ => (pg_name (i := 20) sc_law_side.nd (by rfl) (by first | exact .inl rfl | exact .inr rfl))) (fun _ _ _ _ _ => pts_nil) (fun _ _ _ _ _ => (pe_cl ((ok_law_drawn_g T).at i.toMd) hr (by decide) (by rfl) passL (pa_cons (pv 0) (pa_cons (pv 2) pa_nil))))) pa_nil)))))) (pss_cons (ps_ret pe_bl) pss_nil) pss_nil) (pss_cons (ps_if (pt_not (pt_val (pe_cl ((ok_law_share_g T).at i) hr (by decide) (by rfl) passL (pa_cons (pv 0) (pa_cons (pv 1) (pa_cons (pv 2) (pa_cons (pe_lst (pa_cons (pv 4) (pa_cons (pv 5) (pa_cons (pv 8) (pa_cons (pv 11) pa_nil))))) pa_nil))))))) (pss_cons (ps_ret pe_bl) pss_nil) pss_nil) (pss_cons (ps_ret (pe_cl ((ok_law_asked_g T).at i) hr (by decide) (by rfl) passL (pa_cons (pv 1) (pa_cons (pv 2) (pa_cons (pe_lst (pa_cons (pv 4) (pa_cons (pv 5) (pa_cons (pv 8) (pa_cons (pv 10) (pa_cons (pv 11) pa_nil)))))) pa_nil))))) pss_nil)))))))))))))))))))))))))), fun vs Q h => run_P (fun F p a rt hpre => ?_) vs H Q E h⟩
  have hq2 := i.S.q2
  show Bd _ _ _ _ _ _ (m_law_side_g i.M a)
  unfold m_law_side_g
  refine b_flat (l2 := ⟨[.val (yV (.ref p)) (), .val i.R.r (), .val (yH3 yI yI (yL (yL yI))) i.M.o, .any, .any, .any, .any, .any, .any, .any, .any, .any, .any, .any, .any, .any, .any, .any, .any, .any, .any], []⟩) rfl ?_
  refine b_let (ev_h3b (x := i.M.o) ev_var) fun q_1 hq_1 => ?_
  refine b_flat (l2 := ⟨[.val (yV (.ref p)) (), .val i.R.r (), .val (yH3 yI yI (yL (yL yI))) i.M.o, .val yI q_1, .any, .any, .any, .any, .any, .any, .any, .any, .any, .any, .any, .any, .any, .any, .any, .any, .any], []⟩) rfl ?_
  refine b_gen fun yy_1 hyy_1 => ?_
  have qyy_1 : PlB 9000 a := (by first | exact lv5_pre (by decreasing_trivial_pre_omega) he hj | decreasing_trivial_pre_omega)
  have pyy_1 := p_drawn (i := i.toMd) qyy_1 hyy_1
  refine b_let (ev_callP 0 a hyy_1 (ea_cons ev_var (ea_cons ev_var ea_nil)) rfl rfl rfl qyy_1) fun a_1 ha_1 => ?_
  have ka : i.S.m.b3 4 0 a_1 ∧ a_1 ≠ (0, 0, 0) := by rw [ha_1]; exact pyy_1.1
  have ka1 : i.S.m.b3 11 0 a_1 := b3_mono ka.1 (by decide) (by decide)
  refine b_flat (l2 := ⟨[.val (yV (.ref p)) (), .val i.R.r (), .val (yH3 yI yI (yL (yL yI))) i.M.o, .val yI q_1, .val (yH3 i.S.t i.S.t i.S.t) a_1, .any, .any, .any, .any, .any, .any, .any, .any, .any, .any, .any, .any, .any, .any, .any, .any], []⟩) rfl ?_
  refine b_gen fun yy_2 hyy_2 => ?_
  have qyy_2 : PlB 9000 yy_1.2 := (by first | exact lv5_pre (by decreasing_trivial_pre_omega) he hj | decreasing_trivial_pre_omega)
  have pyy_2 := p_drawn (i := i.toMd) qyy_2 hyy_2
  refine b_let (ev_call (a_1, yy_2.1) (ea_cons ev_var (ea_cons (ev_cv ev_var (fun h => rp_H3X ((fun h => h) h))) (ea_cons (ev_callP 0 yy_1.2 hyy_2 (ea_cons ev_var (ea_cons ev_var ea_nil)) rfl rfl rfl qyy_2) ea_nil))) rfl (by exact ⟨b3_mono ka.1 (by decide) (by decide), b3_mono pyy_2.1.1 (by decide) (by decide), ka.2⟩)) fun b_1 hb_1 => ?_
  have kb : i.S.m.b3 4 0 b_1 := by rw [hb_1]; exact b3_unlike (i := i.og) ka.2 pyy_2.1.1
  have kb1 : i.S.m.b3 11 0 b_1 := b3_mono kb (by decide) (by decide)
  have kab : m_cross a_1 b_1 ≠ (0, 0, 0) := by rw [hb_1]; exact g_unlike_ne i.S.of0 i.S.of1 ka.2
  refine b_flat (l2 := ⟨[.val (yV (.ref p)) (), .val i.R.r (), .val (yH3 yI yI (yL (yL yI))) i.M.o, .val yI q_1, .val (yH3 i.S.t i.S.t i.S.t) a_1, .val (yH3 i.S.t i.S.t i.S.t) b_1, .any, .any, .any, .any, .any, .any, .any, .any, .any, .any, .any, .any, .any, .any, .any], []⟩) rfl ?_
  refine b_let (ev_call (m_law_cross_g i.M.of i.M.o a_1 b_1) (ea_cons (ev_cv (ev_call (a_1, b_1) (ea_cons ev_var (ea_cons (ev_cv ev_var (fun h => rp_H3X ((fun h => h) h))) (ea_cons (ev_cv ev_var (fun h => rp_H3X ((fun h => h) h))) ea_nil))) rfl (by exact ⟨b3_mono ka.1 (by decide) (by decide), b3_mono kb (by decide) (by decide)⟩)) (fun h => rp_3X ((fun h => h) h))) ea_nil) rfl (by rw [g_lcross]; exact kab)) fun off_1 hoff_1 => ?_
  have koff : i.S.m.b3 0 0 off_1 := by rw [hoff_1, g_lcross]; exact b3_beside i.S.of0 i.S.of1 kab
  have koff1 : i.S.m.b3 11 0 off_1 := b3_mono koff (by decide) (by decide)
  refine b_flat (l2 := ⟨[.val (yV (.ref p)) (), .val i.R.r (), .val (yH3 yI yI (yL (yL yI))) i.M.o, .val yI q_1, .val (yH3 i.S.t i.S.t i.S.t) a_1, .val (yH3 i.S.t i.S.t i.S.t) b_1, .val (yH3 i.S.t i.S.t i.S.t) off_1, .any, .any, .any, .any, .any, .any, .any, .any, .any, .any, .any, .any, .any, .any], []⟩) rfl ?_
  refine b_gen fun yy_3 hyy_3 => ?_
  have qyy_3 : PlOk yy_2.2 ∧ 0 < (q_1 - (1 : Int)) ∧ Sz 200 (q_1 - (1 : Int)) := (by exact ⟨by decreasing_trivial_pre_omega, by omega, by unfold Sz; omega⟩)
  have pyy_3 := p_draw qyy_3 hyy_3
  refine b_let (ev_add ev_int (ev_callP 0 (yy_2.2, (q_1 - (1 : Int))) hyy_3 (ea_cons ev_var (ea_cons (ev_sub ev_var ev_int) ea_nil)) rfl rfl rfl qyy_3)) fun n_1 hn_1 => ?_
  have kn : i.S.okn n_1 := by rw [hn_1]; exact i.S.ok_of (by omega) (by omega)
  have kn4 := i.S.bdn kn
  refine b_flat (l2 := ⟨[.val (yV (.ref p)) (), .val i.R.r (), .val (yH3 yI yI (yL (yL yI))) i.M.o, .val yI q_1, .val (yH3 i.S.t i.S.t i.S.t) a_1, .val (yH3 i.S.t i.S.t i.S.t) b_1, .val (yH3 i.S.t i.S.t i.S.t) off_1, .val yI n_1, .any, .any, .any, .any, .any, .any, .any, .any, .any, .any, .any, .any, .any], []⟩) rfl ?_
  refine b_gen fun yy_4 hyy_4 => ?_
  have qyy_4 : PlOk yy_3.2 ∧ 0 < (q_1 - (1 : Int)) ∧ Sz 200 (q_1 - (1 : Int)) := (by exact ⟨by decreasing_trivial_pre_omega, by omega, by unfold Sz; omega⟩)
  have pyy_4 := p_draw qyy_4 hyy_4
  refine b_let (ev_call ([(i.M.of n_1), (i.M.of ((1 : Int) + yy_4.1))], [a_1, b_1]) (ea_cons ev_var (ea_cons (ev_l (evl_lst (t := i.S.t) (xs := [(i.M.of n_1), (i.M.of ((1 : Int) + yy_4.1))]) (ea_cons (ev_cv ev_var (i.S.rof (by first | exact kn | exact i.S.ok_of (by omega) (by omega)))) (ea_cons (ev_cv (ev_add ev_int (ev_callP 0 (yy_3.2, (q_1 - (1 : Int))) hyy_4 (ea_cons ev_var (ea_cons (ev_sub ev_var ev_int) ea_nil)) rfl rfl rfl qyy_4)) (i.S.rof (by first | exact kn | exact i.S.ok_of (by omega) (by omega)))) ea_nil)) rfl (lit_len 2 rfl (by decide)))) (ea_cons (ev_l (evl_lst (t := (yLT3 i.S.t)) (xs := [a_1, b_1]) (ea_cons (ev_cv ev_var (fun h => rp_H3X ((fun h => h) h))) (ea_cons (ev_cv ev_var (fun h => rp_H3X ((fun h => h) h))) ea_nil)) rfl (lit_len 2 rfl (by decide)))) ea_nil))) rfl (by first | exact gmp1 kn4 ka1 | exact gmp2 kn4 (i.S.bdn (i.S.ok_of (by omega) (by omega))) ka1 kb1 | (rw [hweights_1]; exact gmp2 (i.S.bdn (i.S.ok_of (by omega) (by omega))) (i.S.bdn (i.S.ok_of (by omega) (by omega))) ka1 kb1) | (rw [hweights_2]; exact gmp3 (i.S.bdn (i.S.ok_of (by omega) (by omega))) (i.S.bdn (i.S.ok_of (by omega) (by omega))) kn4 ka1 kb1 koff1) | (rw [hweights_3]; exact gmp3 (i.S.bdn (i.S.ok_of (by omega) (by omega))) kn4 (i.S.bdn (i.S.ok_of (n := 1) (by decide) (by omega))) ka1 kb1 koff1))) fun c_1 hc_1 => ?_
  have kc : i.S.m.b3 11 0 c_1 := by rw [hc_1]; exact b3_mono (b3_mix2 kn4 (i.S.bdn (i.S.ok_of (n := 1 + yy_4.1) (by omega) (by omega))) ka.1 kb) (by decide) (by decide)
  refine b_flat (l2 := ⟨[.val (yV (.ref p)) (), .val i.R.r (), .val (yH3 yI yI (yL (yL yI))) i.M.o, .val yI q_1, .val (yH3 i.S.t i.S.t i.S.t) a_1, .val (yH3 i.S.t i.S.t i.S.t) b_1, .val (yH3 i.S.t i.S.t i.S.t) off_1, .val yI n_1, .val (yH3 i.S.t i.S.t i.S.t) c_1, .any, .any, .any, .any, .any, .any, .any, .any, .any, .any, .any, .any], []⟩) rfl ?_
  refine b_gen fun yy_5 hyy_5 => ?_
  have qyy_5 : PlOk yy_4.2 ∧ 0 < q_1 ∧ Sz 200 q_1 := (by exact ⟨by decreasing_trivial_pre_omega, by omega, by unfold Sz; omega⟩)
  have pyy_5 := p_draw qyy_5 hyy_5
  refine b_gen fun yy_6 hyy_6 => ?_
  have qyy_6 : PlOk yy_5.2 ∧ 0 < q_1 ∧ Sz 200 q_1 := (by exact ⟨by decreasing_trivial_pre_omega, by omega, by unfold Sz; omega⟩)
  have pyy_6 := p_draw qyy_6 hyy_6
  refine b_let (ev_l (evl_lst (t := yI) (xs := [yy_5.1, yy_6.1]) (ea_cons (ev_callP 0 (yy_4.2, q_1) hyy_5 (ea_cons ev_var (ea_cons ev_var ea_nil)) rfl rfl rfl qyy_5) (ea_cons (ev_callP 0 (yy_5.2, q_1) hyy_6 (ea_cons ev_var (ea_cons ev_var ea_nil)) rfl rfl rfl qyy_6) ea_nil)) rfl (lit_len 2 rfl (by decide)))) fun weights_1 hweights_1 => ?_
  refine b_flat (l2 := ⟨[.val (yV (.ref p)) (), .val i.R.r (), .val (yH3 yI yI (yL (yL yI))) i.M.o, .val yI q_1, .val (yH3 i.S.t i.S.t i.S.t) a_1, .val (yH3 i.S.t i.S.t i.S.t) b_1, .val (yH3 i.S.t i.S.t i.S.t) off_1, .val yI n_1, .val (yH3 i.S.t i.S.t i.S.t) c_1, .val (yL yI) weights_1, .any, .any, .any, .any, .any, .any, .any, .any, .any, .any, .any], []⟩) rfl ?_
  refine b_let (ev_call ((List.map (fun (z_2 : Int) => (i.M.of z_2)) weights_1), [a_1, b_1]) (ea_cons ev_var (ea_cons (ev_cv ev_var (rp_L (f := fun (z_2 : Int) => (i.M.of z_2)) (fun z_2 hz_2 => (i.S.rof (by first | (have hz := ‹_ ∈ weights_3›; rw [hweights_3] at hz; simp only [List.mem_cons, List.not_mem_nil, or_false] at hz; rcases hz with h | h | h <;> rw [h] <;> first | exact kn | exact i.S.ok_of (by omega) (by omega)) | (have hz := ‹_ ∈ weights_2›; rw [hweights_2] at hz; simp only [List.mem_cons, List.not_mem_nil, or_false] at hz; rcases hz with h | h | h <;> rw [h] <;> first | exact kn | exact i.S.ok_of (by omega) (by omega)) | (have hz := ‹_ ∈ weights_1›; rw [hweights_1] at hz; simp only [List.mem_cons, List.not_mem_nil, or_false] at hz; rcases hz with h | h <;> rw [h] <;> exact i.S.ok_of (by omega) (by omega))))))) (ea_cons (ev_l (evl_lst (t := (yLT3 i.S.t)) (xs := [a_1, b_1]) (ea_cons (ev_cv ev_var (fun h => rp_H3X ((fun h => h) h))) (ea_cons (ev_cv ev_var (fun h => rp_H3X ((fun h => h) h))) ea_nil)) rfl (lit_len 2 rfl (by decide)))) ea_nil))) rfl (by first | exact gmp1 kn4 ka1 | exact gmp2 kn4 (i.S.bdn (i.S.ok_of (by omega) (by omega))) ka1 kb1 | (rw [hweights_1]; exact gmp2 (i.S.bdn (i.S.ok_of (by omega) (by omega))) (i.S.bdn (i.S.ok_of (by omega) (by omega))) ka1 kb1) | (rw [hweights_2]; exact gmp3 (i.S.bdn (i.S.ok_of (by omega) (by omega))) (i.S.bdn (i.S.ok_of (by omega) (by omega))) kn4 ka1 kb1 koff1) | (rw [hweights_3]; exact gmp3 (i.S.bdn (i.S.ok_of (by omega) (by omega))) kn4 (i.S.bdn (i.S.ok_of (n := 1) (by decide) (by omega))) ka1 kb1 koff1))) fun d_1 hd_1 => ?_
  have kd0 : i.S.m.b3 11 0 d_1 := by rw [hd_1, hweights_1]; exact b3_mono (b3_mix2 (i.S.bdn (i.S.ok_of pyy_5.1 (by omega))) (i.S.bdn (i.S.ok_of pyy_6.1 (by omega))) ka.1 kb) (by decide) (by decide)
  refine b_flat (l2 := ⟨[.val (yV (.ref p)) (), .val i.R.r (), .val (yH3 yI yI (yL (yL yI))) i.M.o, .val yI q_1, .val (yH3 i.S.t i.S.t i.S.t) a_1, .val (yH3 i.S.t i.S.t i.S.t) b_1, .val (yH3 i.S.t i.S.t i.S.t) off_1, .val yI n_1, .val (yH3 i.S.t i.S.t i.S.t) c_1, .val (yL yI) weights_1, .val (yH3 i.S.t i.S.t i.S.t) d_1, .any, .any, .any, .any, .any, .any, .any, .any, .any, .any], []⟩) rfl ?_
  refine b_join (fun (d_2 : (i.M.A × i.M.A × i.M.A)) => (⟨[.val (yV (.ref p)) (), .val i.R.r (), .val (yH3 yI yI (yL (yL yI))) i.M.o, .val yI q_1, .val (yH3 i.S.t i.S.t i.S.t) a_1, .val (yH3 i.S.t i.S.t i.S.t) b_1, .val (yH3 i.S.t i.S.t i.S.t) off_1, .val yI n_1, .val (yH3 i.S.t i.S.t i.S.t) c_1, .val (yL yI) weights_1, .val (yH3 i.S.t i.S.t i.S.t) d_2, .any, .any, .any, .any, .any, .any, .any, .any, .any, .any], []⟩ : Lc)) (fun (d_2 : (i.M.A × i.M.A × i.M.A)) => ([(p, cL yI yy_6.2)] : Own)) (tt_d (ev_eqD ev_var (ev_h3 (ea_cons (ev_cv ev_int i.S.z0) (ea_cons (ev_cv ev_int i.S.z0) (ea_cons (ev_cv ev_int i.S.z0) ea_nil)))))) (x1 := a_1) (x2 := d_1) (fun h_1 => (sx_set ev_var (sx_wk sx_next ⟨(.cons (.inl rfl) (.cons (.inl rfl) (.cons (.inl rfl) (.cons (.inl rfl) (.cons (.inl rfl) (.cons (.inl rfl) (.cons (.inl rfl) (.cons (.inl rfl) (.cons (.inl rfl) (.cons (.inl rfl) (.cons (.inl rfl) (.cons (.inr rfl) (.cons (.inr rfl) (.cons (.inr rfl) (.cons (.inr rfl) (.cons (.inr rfl) (.cons (.inr rfl) (.cons (.inr rfl) (.cons (.inr rfl) (.cons (.inr rfl) (.cons (.inr rfl) .nil))))))))))))))))))))), rfl⟩))) (fun h_1 => (sx_wk sx_next ⟨(.cons (.inl rfl) (.cons (.inl rfl) (.cons (.inl rfl) (.cons (.inl rfl) (.cons (.inl rfl) (.cons (.inl rfl) (.cons (.inl rfl) (.cons (.inl rfl) (.cons (.inl rfl) (.cons (.inl rfl) (.cons (.inl rfl) (.cons (.inr rfl) (.cons (.inr rfl) (.cons (.inr rfl) (.cons (.inr rfl) (.cons (.inr rfl) (.cons (.inr rfl) (.cons (.inr rfl) (.cons (.inr rfl) (.cons (.inr rfl) (.cons (.inr rfl) .nil))))))))))))))))))))), rfl⟩)) fun d_2 hd_2 => ?_
  refine b_flat (l2 := ⟨[.val (yV (.ref p)) (), .val i.R.r (), .val (yH3 yI yI (yL (yL yI))) i.M.o, .val yI q_1, .val (yH3 i.S.t i.S.t i.S.t) a_1, .val (yH3 i.S.t i.S.t i.S.t) b_1, .val (yH3 i.S.t i.S.t i.S.t) off_1, .val yI n_1, .val (yH3 i.S.t i.S.t i.S.t) c_1, .val (yL yI) weights_1, .val (yH3 i.S.t i.S.t i.S.t) d_2, .any, .any, .any, .any, .any, .any, .any, .any, .any, .any], []⟩) rfl ?_
  refine b_gen fun yy_7 hyy_7 => ?_
  have qyy_7 : PlOk yy_6.2 ∧ 0 < q_1 ∧ Sz 200 q_1 := (by exact ⟨by decreasing_trivial_pre_omega, by omega, by unfold Sz; omega⟩)
  have pyy_7 := p_draw qyy_7 hyy_7
  refine b_gen fun yy_8 hyy_8 => ?_
  have qyy_8 : PlOk yy_7.2 ∧ 0 < q_1 ∧ Sz 200 q_1 := (by exact ⟨by decreasing_trivial_pre_omega, by omega, by unfold Sz; omega⟩)
  have pyy_8 := p_draw qyy_8 hyy_8
  refine b_let (ev_l (evl_lst (t := yI) (xs := [yy_7.1, yy_8.1, n_1]) (ea_cons (ev_callP 0 (yy_6.2, q_1) hyy_7 (ea_cons ev_var (ea_cons ev_var ea_nil)) rfl rfl rfl qyy_7) (ea_cons (ev_callP 0 (yy_7.2, q_1) hyy_8 (ea_cons ev_var (ea_cons ev_var ea_nil)) rfl rfl rfl qyy_8) (ea_cons ev_var ea_nil))) rfl (lit_len 3 rfl (by decide)))) fun weights_2 hweights_2 => ?_
  refine b_flat (l2 := ⟨[.val (yV (.ref p)) (), .val i.R.r (), .val (yH3 yI yI (yL (yL yI))) i.M.o, .val yI q_1, .val (yH3 i.S.t i.S.t i.S.t) a_1, .val (yH3 i.S.t i.S.t i.S.t) b_1, .val (yH3 i.S.t i.S.t i.S.t) off_1, .val yI n_1, .val (yH3 i.S.t i.S.t i.S.t) c_1, .val (yL yI) weights_2, .val (yH3 i.S.t i.S.t i.S.t) d_2, .any, .any, .any, .any, .any, .any, .any, .any, .any, .any], []⟩) rfl ?_
  refine b_let (ev_call ((List.map (fun (z_4 : Int) => (i.M.of z_4)) weights_2), [a_1, b_1, off_1]) (ea_cons ev_var (ea_cons (ev_cv ev_var (rp_L (f := fun (z_4 : Int) => (i.M.of z_4)) (fun z_4 hz_4 => (i.S.rof (by first | (have hz := ‹_ ∈ weights_3›; rw [hweights_3] at hz; simp only [List.mem_cons, List.not_mem_nil, or_false] at hz; rcases hz with h | h | h <;> rw [h] <;> first | exact kn | exact i.S.ok_of (by omega) (by omega)) | (have hz := ‹_ ∈ weights_2›; rw [hweights_2] at hz; simp only [List.mem_cons, List.not_mem_nil, or_false] at hz; rcases hz with h | h | h <;> rw [h] <;> first | exact kn | exact i.S.ok_of (by omega) (by omega)) | (have hz := ‹_ ∈ weights_1›; rw [hweights_1] at hz; simp only [List.mem_cons, List.not_mem_nil, or_false] at hz; rcases hz with h | h <;> rw [h] <;> exact i.S.ok_of (by omega) (by omega))))))) (ea_cons (ev_l (evl_lst (t := (yLT3 i.S.t)) (xs := [a_1, b_1, off_1]) (ea_cons (ev_cv ev_var (fun h => rp_H3X ((fun h => h) h))) (ea_cons (ev_cv ev_var (fun h => rp_H3X ((fun h => h) h))) (ea_cons (ev_cv ev_var (fun h => rp_H3X ((fun h => h) h))) ea_nil))) rfl (lit_len 3 rfl (by decide)))) ea_nil))) rfl (by first | exact gmp1 kn4 ka1 | exact gmp2 kn4 (i.S.bdn (i.S.ok_of (by omega) (by omega))) ka1 kb1 | (rw [hweights_1]; exact gmp2 (i.S.bdn (i.S.ok_of (by omega) (by omega))) (i.S.bdn (i.S.ok_of (by omega) (by omega))) ka1 kb1) | (rw [hweights_2]; exact gmp3 (i.S.bdn (i.S.ok_of (by omega) (by omega))) (i.S.bdn (i.S.ok_of (by omega) (by omega))) kn4 ka1 kb1 koff1) | (rw [hweights_3]; exact gmp3 (i.S.bdn (i.S.ok_of (by omega) (by omega))) kn4 (i.S.bdn (i.S.ok_of (n := 1) (by decide) (by omega))) ka1 kb1 koff1))) fun o_1 ho_1 => ?_
  have kd : i.S.m.b3 11 0 d_2 := by rw [hd_2]; split <;> assumption
  have ko : i.S.m.b3 11 0 o_1 := by rw [ho_1, hweights_2]; exact b3_mono (b3_mix3 (i.S.bdn (i.S.ok_of pyy_7.1 (by omega))) (i.S.bdn (i.S.ok_of pyy_8.1 (by omega))) kn4 ka.1 kb koff) (by decide) (by decide)
  refine b_flat (l2 := ⟨[.val (yV (.ref p)) (), .val i.R.r (), .val (yH3 yI yI (yL (yL yI))) i.M.o, .val yI q_1, .val (yH3 i.S.t i.S.t i.S.t) a_1, .val (yH3 i.S.t i.S.t i.S.t) b_1, .val (yH3 i.S.t i.S.t i.S.t) off_1, .val yI n_1, .val (yH3 i.S.t i.S.t i.S.t) c_1, .val (yL yI) weights_2, .val (yH3 i.S.t i.S.t i.S.t) d_2, .val (yH3 i.S.t i.S.t i.S.t) o_1, .any, .any, .any, .any, .any, .any, .any, .any, .any], []⟩) rfl ?_
  refine b_gen fun yy_9 hyy_9 => ?_
  have qyy_9 : PlOk yy_8.2 ∧ 0 < q_1 ∧ Sz 200 q_1 := (by exact ⟨by decreasing_trivial_pre_omega, by omega, by unfold Sz; omega⟩)
  have pyy_9 := p_draw qyy_9 hyy_9
  refine b_let (ev_l (evl_lst (t := yI) (xs := [yy_9.1, n_1, (1 : Int)]) (ea_cons (ev_callP 0 (yy_8.2, q_1) hyy_9 (ea_cons ev_var (ea_cons ev_var ea_nil)) rfl rfl rfl qyy_9) (ea_cons ev_var (ea_cons ev_int ea_nil))) rfl (lit_len 3 rfl (by decide)))) fun weights_3 hweights_3 => ?_
  refine b_flat (l2 := ⟨[.val (yV (.ref p)) (), .val i.R.r (), .val (yH3 yI yI (yL (yL yI))) i.M.o, .val yI q_1, .val (yH3 i.S.t i.S.t i.S.t) a_1, .val (yH3 i.S.t i.S.t i.S.t) b_1, .val (yH3 i.S.t i.S.t i.S.t) off_1, .val yI n_1, .val (yH3 i.S.t i.S.t i.S.t) c_1, .val (yL yI) weights_3, .val (yH3 i.S.t i.S.t i.S.t) d_2, .val (yH3 i.S.t i.S.t i.S.t) o_1, .any, .any, .any, .any, .any, .any, .any, .any, .any], []⟩) rfl ?_
  refine b_let (ev_call ((List.map (fun (z_6 : Int) => (i.M.of z_6)) weights_3), [a_1, b_1, off_1]) (ea_cons ev_var (ea_cons (ev_cv ev_var (rp_L (f := fun (z_6 : Int) => (i.M.of z_6)) (fun z_6 hz_6 => (i.S.rof (by first | (have hz := ‹_ ∈ weights_3›; rw [hweights_3] at hz; simp only [List.mem_cons, List.not_mem_nil, or_false] at hz; rcases hz with h | h | h <;> rw [h] <;> first | exact kn | exact i.S.ok_of (by omega) (by omega)) | (have hz := ‹_ ∈ weights_2›; rw [hweights_2] at hz; simp only [List.mem_cons, List.not_mem_nil, or_false] at hz; rcases hz with h | h | h <;> rw [h] <;> first | exact kn | exact i.S.ok_of (by omega) (by omega)) | (have hz := ‹_ ∈ weights_1›; rw [hweights_1] at hz; simp only [List.mem_cons, List.not_mem_nil, or_false] at hz; rcases hz with h | h <;> rw [h] <;> exact i.S.ok_of (by omega) (by omega))))))) (ea_cons (ev_l (evl_lst (t := (yLT3 i.S.t)) (xs := [a_1, b_1, off_1]) (ea_cons (ev_cv ev_var (fun h => rp_H3X ((fun h => h) h))) (ea_cons (ev_cv ev_var (fun h => rp_H3X ((fun h => h) h))) (ea_cons (ev_cv ev_var (fun h => rp_H3X ((fun h => h) h))) ea_nil))) rfl (lit_len 3 rfl (by decide)))) ea_nil))) rfl (by first | exact gmp1 kn4 ka1 | exact gmp2 kn4 (i.S.bdn (i.S.ok_of (by omega) (by omega))) ka1 kb1 | (rw [hweights_1]; exact gmp2 (i.S.bdn (i.S.ok_of (by omega) (by omega))) (i.S.bdn (i.S.ok_of (by omega) (by omega))) ka1 kb1) | (rw [hweights_2]; exact gmp3 (i.S.bdn (i.S.ok_of (by omega) (by omega))) (i.S.bdn (i.S.ok_of (by omega) (by omega))) kn4 ka1 kb1 koff1) | (rw [hweights_3]; exact gmp3 (i.S.bdn (i.S.ok_of (by omega) (by omega))) kn4 (i.S.bdn (i.S.ok_of (n := 1) (by decide) (by omega))) ka1 kb1 koff1))) fun other_1 hother_1 => ?_
  have kother : i.S.m.b3 11 0 other_1 := by rw [hother_1, hweights_3]; exact b3_mono (b3_mix3 (i.S.bdn (i.S.ok_of pyy_9.1 (by omega))) kn4 (i.S.bdn (i.S.ok_of (n := 1) (by decide) (by omega))) ka.1 kb koff) (by decide) (by decide)
  refine b_flat (l2 := ⟨[.val (yV (.ref p)) (), .val i.R.r (), .val (yH3 yI yI (yL (yL yI))) i.M.o, .val yI q_1, .val (yH3 i.S.t i.S.t i.S.t) a_1, .val (yH3 i.S.t i.S.t i.S.t) b_1, .val (yH3 i.S.t i.S.t i.S.t) off_1, .val yI n_1, .val (yH3 i.S.t i.S.t i.S.t) c_1, .val (yL yI) weights_3, .val (yH3 i.S.t i.S.t i.S.t) d_2, .val (yH3 i.S.t i.S.t i.S.t) o_1, .val (yH3 i.S.t i.S.t i.S.t) other_1, .any, .any, .any, .any, .any, .any, .any, .any], []⟩) rfl ?_
  refine b_let (ev_call ([(i.M.of n_1)], [a_1]) (ea_cons ev_var (ea_cons (ev_l (evl_lst (t := i.S.t) (xs := [(i.M.of n_1)]) (ea_cons (ev_cv ev_var (i.S.rof (by first | exact kn | exact i.S.ok_of (by omega) (by omega)))) ea_nil) rfl (lit_len 1 rfl (by decide)))) (ea_cons (ev_l (evl_lst (t := (yLT3 i.S.t)) (xs := [a_1]) (ea_cons (ev_cv ev_var (fun h => rp_H3X ((fun h => h) h))) ea_nil) rfl (lit_len 1 rfl (by decide)))) ea_nil))) rfl (by first | exact gmp1 kn4 ka1 | exact gmp2 kn4 (i.S.bdn (i.S.ok_of (by omega) (by omega))) ka1 kb1 | (rw [hweights_1]; exact gmp2 (i.S.bdn (i.S.ok_of (by omega) (by omega))) (i.S.bdn (i.S.ok_of (by omega) (by omega))) ka1 kb1) | (rw [hweights_2]; exact gmp3 (i.S.bdn (i.S.ok_of (by omega) (by omega))) (i.S.bdn (i.S.ok_of (by omega) (by omega))) kn4 ka1 kb1 koff1) | (rw [hweights_3]; exact gmp3 (i.S.bdn (i.S.ok_of (by omega) (by omega))) kn4 (i.S.bdn (i.S.ok_of (n := 1) (by decide) (by omega))) ka1 kb1 koff1))) fun twin_1 htwin_1 => ?_
  have ktwin : i.S.m.b3 11 0 twin_1 := by rw [htwin_1]; exact b3_mono (b3_mix1 kn4 ka.1) (by decide) (by decide)
  refine b_flat (l2 := ⟨[.val (yV (.ref p)) (), .val i.R.r (), .val (yH3 yI yI (yL (yL yI))) i.M.o, .val yI q_1, .val (yH3 i.S.t i.S.t i.S.t) a_1, .val (yH3 i.S.t i.S.t i.S.t) b_1, .val (yH3 i.S.t i.S.t i.S.t) off_1, .val yI n_1, .val (yH3 i.S.t i.S.t i.S.t) c_1, .val (yL yI) weights_3, .val (yH3 i.S.t i.S.t i.S.t) d_2, .val (yH3 i.S.t i.S.t i.S.t) o_1, .val (yH3 i.S.t i.S.t i.S.t) other_1, .val (yH3 i.S.t i.S.t i.S.t) twin_1, .any, .any, .any, .any, .any, .any, .any], []⟩) rfl ?_
  refine b_letO (evl_lst (t := (yL (yH3 i.S.t i.S.t i.S.t))) (xs := [[a_1, b_1, c_1, d_2, o_1], [a_1, b_1, c_1, twin_1, o_1]]) (ea_cons (ev_l (evl_lst (t := (yH3 i.S.t i.S.t i.S.t)) (xs := [a_1, b_1, c_1, d_2, o_1]) (ea_cons ev_var (ea_cons ev_var (ea_cons ev_var (ea_cons ev_var (ea_cons ev_var ea_nil))))) rfl (lit_len 5 rfl (by decide)))) (ea_cons (ev_l (evl_lst (t := (yH3 i.S.t i.S.t i.S.t)) (xs := [a_1, b_1, c_1, twin_1, o_1]) (ea_cons ev_var (ea_cons ev_var (ea_cons ev_var (ea_cons ev_var (ea_cons ev_var ea_nil))))) rfl (lit_len 5 rfl (by decide)))) ea_nil)) rfl (lit_len 2 rfl (by decide))) fun p_1 fives_1 hfives_1 => ?_
  refine b_flat (l2 := ⟨[.val (yV (.ref p)) (), .val i.R.r (), .val (yH3 yI yI (yL (yL yI))) i.M.o, .val yI q_1, .val (yH3 i.S.t i.S.t i.S.t) a_1, .val (yH3 i.S.t i.S.t i.S.t) b_1, .val (yH3 i.S.t i.S.t i.S.t) off_1, .val yI n_1, .val (yH3 i.S.t i.S.t i.S.t) c_1, .val (yL yI) weights_3, .val (yH3 i.S.t i.S.t i.S.t) d_2, .val (yH3 i.S.t i.S.t i.S.t) o_1, .val (yH3 i.S.t i.S.t i.S.t) other_1, .val (yH3 i.S.t i.S.t i.S.t) twin_1, .val (yV (.ref p_1)) (), .any, .any, .any, .any, .any, .any], []⟩) rfl ?_
  refine b_drop (ev_append (t := (yL (yH3 i.S.t i.S.t i.S.t))) (xs := fives_1) 1 ev_var (ev_l (evl_lst (t := (yH3 i.S.t i.S.t i.S.t)) (xs := [a_1, c_1, twin_1, b_1, o_1]) (ea_cons ev_var (ea_cons ev_var (ea_cons ev_var (ea_cons ev_var (ea_cons ev_var ea_nil))))) rfl (lit_len 5 rfl (by decide)))) (by rw [hfives_1]; show 2 < sizeLine; decide)) ?_
  refine b_flat (l2 := ⟨[.val (yV (.ref p)) (), .val i.R.r (), .val (yH3 yI yI (yL (yL yI))) i.M.o, .val yI q_1, .val (yH3 i.S.t i.S.t i.S.t) a_1, .val (yH3 i.S.t i.S.t i.S.t) b_1, .val (yH3 i.S.t i.S.t i.S.t) off_1, .val yI n_1, .val (yH3 i.S.t i.S.t i.S.t) c_1, .val (yL yI) weights_3, .val (yH3 i.S.t i.S.t i.S.t) d_2, .val (yH3 i.S.t i.S.t i.S.t) o_1, .val (yH3 i.S.t i.S.t i.S.t) other_1, .val (yH3 i.S.t i.S.t i.S.t) twin_1, .val (yV (.ref p_1)) (), .any, .any, .any, .any, .any, .any], []⟩) rfl ?_
  refine b_drop (ev_append (t := (yL (yH3 i.S.t i.S.t i.S.t))) (xs := (fives_1 ++ [[a_1, c_1, twin_1, b_1, o_1]])) 1 ev_var (ev_l (evl_lst (t := (yH3 i.S.t i.S.t i.S.t)) (xs := [a_1, b_1, c_1, d_2, c_1]) (ea_cons ev_var (ea_cons ev_var (ea_cons ev_var (ea_cons ev_var (ea_cons ev_var ea_nil))))) rfl (lit_len 5 rfl (by decide)))) (by rw [hfives_1]; show 3 < sizeLine; decide)) ?_
  refine b_flat (l2 := ⟨[.val (yV (.ref p)) (), .val i.R.r (), .val (yH3 yI yI (yL (yL yI))) i.M.o, .val yI q_1, .val (yH3 i.S.t i.S.t i.S.t) a_1, .val (yH3 i.S.t i.S.t i.S.t) b_1, .val (yH3 i.S.t i.S.t i.S.t) off_1, .val yI n_1, .val (yH3 i.S.t i.S.t i.S.t) c_1, .val (yL yI) weights_3, .val (yH3 i.S.t i.S.t i.S.t) d_2, .val (yH3 i.S.t i.S.t i.S.t) o_1, .val (yH3 i.S.t i.S.t i.S.t) other_1, .val (yH3 i.S.t i.S.t i.S.t) twin_1, .val (yV (.ref p_1)) (), .any, .any, .any, .any, .any, .any], []⟩) rfl ?_
  refine b_frz (t := (yL (yH3 i.S.t i.S.t i.S.t))) (xs := ((fives_1 ++ [[a_1, c_1, twin_1, b_1, o_1]]) ++ [[a_1, b_1, c_1, d_2, c_1]])) 14 1 rfl rfl ?_
  refine b_for _ (fun (s_1 : Unit) => ([(p, cL yI yy_9.2)] : Own)) (fun (s_1 : Unit) => (⟨[.val (yV (.ref p)) (), .val i.R.r (), .val (yH3 yI yI (yL (yL yI))) i.M.o, .val yI q_1, .val (yH3 i.S.t i.S.t i.S.t) a_1, .val (yH3 i.S.t i.S.t i.S.t) b_1, .val (yH3 i.S.t i.S.t i.S.t) off_1, .val yI n_1, .val (yH3 i.S.t i.S.t i.S.t) c_1, .val (yL yI) weights_3, .val (yH3 i.S.t i.S.t i.S.t) d_2, .val (yH3 i.S.t i.S.t i.S.t) o_1, .val (yH3 i.S.t i.S.t i.S.t) other_1, .val (yH3 i.S.t i.S.t i.S.t) twin_1, .val (yL (yL (yH3 i.S.t i.S.t i.S.t))) ((fives_1 ++ [[a_1, c_1, twin_1, b_1, o_1]]) ++ [[a_1, b_1, c_1, d_2, c_1]]), .any, .any, .any, .any, .any, .any], []⟩ : Lc)) (fun _ _ => True) () (iv_list ev_var) (tg_name 15) rfl ⟨(.cons (.inl rfl) (.cons (.inl rfl) (.cons (.inl rfl) (.cons (.inl rfl) (.cons (.inl rfl) (.cons (.inl rfl) (.cons (.inl rfl) (.cons (.inl rfl) (.cons (.inl rfl) (.cons (.inl rfl) (.cons (.inl rfl) (.cons (.inl rfl) (.cons (.inl rfl) (.cons (.inl rfl) (.cons (.inl rfl) (.cons (.inr rfl) (.cons (.inr rfl) (.cons (.inr rfl) (.cons (.inr rfl) (.cons (.inr rfl) (.cons (.inr rfl) .nil))))))))))))))))))))), rfl⟩ trivial (fun _ _ _ _ _ _ _ _ => trivial) (fun gs_1 pre five_1 post s_1 he_1 hj_1 N B P' hgo_1 hret_1 => ?_) (fun s_1 hj_2 => ?_)
  · have hmfive_1 : five_1 ∈ ((fives_1 ++ [[a_1, c_1, twin_1, b_1, o_1]]) ++ [[a_1, b_1, c_1, d_2, c_1]]) := by rw [he_1]; exact List.mem_append_right _ List.mem_cons_self
    refine b_flat (l2 := ⟨[.val (yV (.ref p)) (), .val i.R.r (), .val (yH3 yI yI (yL (yL yI))) i.M.o, .val yI q_1, .val (yH3 i.S.t i.S.t i.S.t) a_1, .val (yH3 i.S.t i.S.t i.S.t) b_1, .val (yH3 i.S.t i.S.t i.S.t) off_1, .val yI n_1, .val (yH3 i.S.t i.S.t i.S.t) c_1, .val (yL yI) weights_3, .val (yH3 i.S.t i.S.t i.S.t) d_2, .val (yH3 i.S.t i.S.t i.S.t) o_1, .val (yH3 i.S.t i.S.t i.S.t) other_1, .val (yH3 i.S.t i.S.t i.S.t) twin_1, .val (yL (yL (yH3 i.S.t i.S.t i.S.t))) ((fives_1 ++ [[a_1, c_1, twin_1, b_1, o_1]]) ++ [[a_1, b_1, c_1, d_2, c_1]]), .val (yL (yH3 i.S.t i.S.t i.S.t)) five_1, .any, .any, .any, .any, .any], (gs_1 ++ [])⟩) rfl ?_
    refine b_seq (b_if (tt_not (tt_b (ev_call five_1 (ea_cons ev_var (ea_cons ev_var (ea_cons ev_var ea_nil))) rfl (by first | (have hq := hmfive_1; rw [hfives_1] at hq; simp only [List.mem_append, List.mem_cons, List.not_mem_nil, or_false] at hq; rcases hq with ((h | h) | h) | h <;> rw [h] <;> exact ⟨rfl, by refine all5m (by decide) ?_ ?_ ?_ ?_ ?_ <;> assumption⟩) | exact ⟨pyy_13.1, fun v hv => b3_mono (pyy_13.2.1 v hv) (by decide) (by decide)⟩ | exact ⟨rfl, by refine all5m (by decide) ?_ ?_ ?_ ?_ ?_ <;> assumption⟩)))) (fun h_2 => ?_) (fun h_2 => ?_))
    · refine b_flat (l2 := ⟨[.val (yV (.ref p)) (), .val i.R.r (), .val (yH3 yI yI (yL (yL yI))) i.M.o, .val yI q_1, .val (yH3 i.S.t i.S.t i.S.t) a_1, .val (yH3 i.S.t i.S.t i.S.t) b_1, .val (yH3 i.S.t i.S.t i.S.t) off_1, .val yI n_1, .val (yH3 i.S.t i.S.t i.S.t) c_1, .val (yL yI) weights_3, .val (yH3 i.S.t i.S.t i.S.t) d_2, .val (yH3 i.S.t i.S.t i.S.t) o_1, .val (yH3 i.S.t i.S.t i.S.t) other_1, .val (yH3 i.S.t i.S.t i.S.t) twin_1, .val (yL (yL (yH3 i.S.t i.S.t i.S.t))) ((fives_1 ++ [[a_1, c_1, twin_1, b_1, o_1]]) ++ [[a_1, b_1, c_1, d_2, c_1]]), .val (yL (yH3 i.S.t i.S.t i.S.t)) five_1, .any, .any, .any, .any, .any], (gs_1 ++ [])⟩) rfl ?_
      exact b_seq (b_ret ev_bl (fun h => (hret_1 _ h) _))
    · refine b_fall ?_
      exact b_next fun h => nx_wk (hgo_1 _ h) ⟨(.cons (.inl rfl) (.cons (.inl rfl) (.cons (.inl rfl) (.cons (.inl rfl) (.cons (.inl rfl) (.cons (.inl rfl) (.cons (.inl rfl) (.cons (.inl rfl) (.cons (.inl rfl) (.cons (.inl rfl) (.cons (.inl rfl) (.cons (.inl rfl) (.cons (.inl rfl) (.cons (.inl rfl) (.cons (.inl rfl) (.cons (.inr rfl) (.cons (.inr rfl) (.cons (.inr rfl) (.cons (.inr rfl) (.cons (.inr rfl) (.cons (.inr rfl) .nil))))))))))))))))))))), rfl⟩
  · refine b_flat (l2 := ⟨[.val (yV (.ref p)) (), .val i.R.r (), .val (yH3 yI yI (yL (yL yI))) i.M.o, .val yI q_1, .val (yH3 i.S.t i.S.t i.S.t) a_1, .val (yH3 i.S.t i.S.t i.S.t) b_1, .val (yH3 i.S.t i.S.t i.S.t) off_1, .val yI n_1, .val (yH3 i.S.t i.S.t i.S.t) c_1, .val (yL yI) weights_3, .val (yH3 i.S.t i.S.t i.S.t) d_2, .val (yH3 i.S.t i.S.t i.S.t) o_1, .val (yH3 i.S.t i.S.t i.S.t) other_1, .val (yH3 i.S.t i.S.t i.S.t) twin_1, .val (yL (yL (yH3 i.S.t i.S.t i.S.t))) ((fives_1 ++ [[a_1, c_1, twin_1, b_1, o_1]]) ++ [[a_1, b_1, c_1, d_2, c_1]]), .any, .any, .any, .any, .any, .any], []⟩) rfl ?_
    refine b_let (ev_call [a_1, b_1, c_1, d_2, o_1] (ea_cons ev_var (ea_cons (ev_l (evl_lst (t := (yH3 i.S.t i.S.t i.S.t)) (xs := [a_1, b_1, c_1, d_2, o_1]) (ea_cons ev_var (ea_cons ev_var (ea_cons ev_var (ea_cons ev_var (ea_cons ev_var ea_nil))))) rfl (lit_len 5 rfl (by decide)))) ea_nil)) rfl (by exact ⟨rfl, by refine all5m (by decide) ?_ ?_ ?_ ?_ ?_ <;> assumption⟩)) fun pair_1 hpair_1 => ?_
    have kp := bd_prods (g := i.M.of) (o := i.M.o) (f := [a_1, b_1, c_1, d_2, o_1]) (m := i.S.m) (n := 90) rfl (by refine all5m (by decide) ?_ ?_ ?_ ?_ ?_ <;> assumption)
    rw [← hpair_1] at kp
    refine b_flat (l2 := ⟨[.val (yV (.ref p)) (), .val i.R.r (), .val (yH3 yI yI (yL (yL yI))) i.M.o, .val yI q_1, .val (yH3 i.S.t i.S.t i.S.t) a_1, .val (yH3 i.S.t i.S.t i.S.t) b_1, .val (yH3 i.S.t i.S.t i.S.t) off_1, .val yI n_1, .val (yH3 i.S.t i.S.t i.S.t) c_1, .val (yL yI) weights_3, .val (yH3 i.S.t i.S.t i.S.t) d_2, .val (yH3 i.S.t i.S.t i.S.t) o_1, .val (yH3 i.S.t i.S.t i.S.t) other_1, .val (yH3 i.S.t i.S.t i.S.t) twin_1, .val (yL (yL (yH3 i.S.t i.S.t i.S.t))) ((fives_1 ++ [[a_1, c_1, twin_1, b_1, o_1]]) ++ [[a_1, b_1, c_1, d_2, c_1]]), .any, .val (yP i.S.t i.S.t) pair_1, .any, .any, .any, .any], []⟩) rfl ?_
    refine b_seq (b_if (tt_not (tt_b (ev_call ([a_1, b_1, c_1, d_2, other_1], pair_1) (ea_cons ev_var (ea_cons ev_var (ea_cons (ev_l (evl_lst (t := (yH3 i.S.t i.S.t i.S.t)) (xs := [a_1, b_1, c_1, d_2, other_1]) (ea_cons ev_var (ea_cons ev_var (ea_cons ev_var (ea_cons ev_var (ea_cons ev_var ea_nil))))) rfl (lit_len 5 rfl (by decide)))) (ea_cons ev_var ea_nil)))) rfl (by first | exact ⟨⟨rfl, by refine all5m (by decide) ?_ ?_ ?_ ?_ ?_ <;> assumption⟩, i.S.m.mono kp.1 (by decide) (by decide), i.S.m.mono kp.2 (by decide) (by decide)⟩ | exact ⟨⟨by rw [hled_1]; rfl, by rw [hled_1]; exact led_b3 (by rw [htable_1]; exact pyy_10.1.1) (by refine all5 ?_ ?_ ?_ ?_ ?_ <;> assumption)⟩, i.S.m.mono kp.1 (by decide) (by decide), i.S.m.mono kp.2 (by decide) (by decide)⟩)))) (fun h_3 => ?_) (fun h_3 => ?_))
    · refine b_flat (l2 := ⟨[.val (yV (.ref p)) (), .val i.R.r (), .val (yH3 yI yI (yL (yL yI))) i.M.o, .val yI q_1, .val (yH3 i.S.t i.S.t i.S.t) a_1, .val (yH3 i.S.t i.S.t i.S.t) b_1, .val (yH3 i.S.t i.S.t i.S.t) off_1, .val yI n_1, .val (yH3 i.S.t i.S.t i.S.t) c_1, .val (yL yI) weights_3, .val (yH3 i.S.t i.S.t i.S.t) d_2, .val (yH3 i.S.t i.S.t i.S.t) o_1, .val (yH3 i.S.t i.S.t i.S.t) other_1, .val (yH3 i.S.t i.S.t i.S.t) twin_1, .val (yL (yL (yH3 i.S.t i.S.t i.S.t))) ((fives_1 ++ [[a_1, c_1, twin_1, b_1, o_1]]) ++ [[a_1, b_1, c_1, d_2, c_1]]), .any, .val (yP i.S.t i.S.t) pair_1, .any, .any, .any, .any], []⟩) rfl ?_
      exact b_seq (b_ret ev_bl (fun h => h _))
    · refine b_fall ?_
      refine b_flat (l2 := ⟨[.val (yV (.ref p)) (), .val i.R.r (), .val (yH3 yI yI (yL (yL yI))) i.M.o, .val yI q_1, .val (yH3 i.S.t i.S.t i.S.t) a_1, .val (yH3 i.S.t i.S.t i.S.t) b_1, .val (yH3 i.S.t i.S.t i.S.t) off_1, .val yI n_1, .val (yH3 i.S.t i.S.t i.S.t) c_1, .val (yL yI) weights_3, .val (yH3 i.S.t i.S.t i.S.t) d_2, .val (yH3 i.S.t i.S.t i.S.t) o_1, .val (yH3 i.S.t i.S.t i.S.t) other_1, .val (yH3 i.S.t i.S.t i.S.t) twin_1, .val (yL (yL (yH3 i.S.t i.S.t i.S.t))) ((fives_1 ++ [[a_1, c_1, twin_1, b_1, o_1]]) ++ [[a_1, b_1, c_1, d_2, c_1]]), .any, .val (yP i.S.t i.S.t) pair_1, .any, .any, .any, .any], []⟩) rfl ?_
      refine b_gen fun yy_10 hyy_10 => ?_
      have qyy_10 : PlB 9000 yy_9.2 := (by decreasing_trivial_pre_omega)
      have pyy_10 := p_span (i := i.og) qyy_10 hyy_10
      refine b_let (ev_callP 0 yy_9.2 hyy_10 (ea_cons ev_var (ea_cons ev_var ea_nil)) rfl rfl rfl qyy_10) fun table_1 htable_1 => ?_
      refine b_flat (l2 := ⟨[.val (yV (.ref p)) (), .val i.R.r (), .val (yH3 yI yI (yL (yL yI))) i.M.o, .val yI q_1, .val (yH3 i.S.t i.S.t i.S.t) a_1, .val (yH3 i.S.t i.S.t i.S.t) b_1, .val (yH3 i.S.t i.S.t i.S.t) off_1, .val yI n_1, .val (yH3 i.S.t i.S.t i.S.t) c_1, .val (yL yI) weights_3, .val (yH3 i.S.t i.S.t i.S.t) d_2, .val (yH3 i.S.t i.S.t i.S.t) o_1, .val (yH3 i.S.t i.S.t i.S.t) other_1, .val (yH3 i.S.t i.S.t i.S.t) twin_1, .val (yL (yL (yH3 i.S.t i.S.t i.S.t))) ((fives_1 ++ [[a_1, c_1, twin_1, b_1, o_1]]) ++ [[a_1, b_1, c_1, d_2, c_1]]), .any, .val (yP i.S.t i.S.t) pair_1, .val (yH3 (yH3 i.S.t i.S.t i.S.t) (yH3 i.S.t i.S.t i.S.t) (yH3 i.S.t i.S.t i.S.t)) table_1, .any, .any, .any], []⟩) rfl ?_
      refine b_let (ev_l (lc_map (fun (v_1 : (i.M.A × i.M.A × i.M.A)) => (m_law_carried_g i.M.of i.M.o table_1 v_1)) (iv_list (ev_l (evl_lst (t := (yH3 i.S.t i.S.t i.S.t)) (xs := [a_1, b_1, c_1, d_2, o_1]) (ea_cons ev_var (ea_cons ev_var (ea_cons ev_var (ea_cons ev_var (ea_cons ev_var ea_nil))))) rfl (lit_len 5 rfl (by decide))))) (tg_name 19) (by decide) (by show 5 ≤ sizeLine; decide) (fun D gs v_1 hm_1 => (ev_call (table_1, v_1) (ea_cons ev_var (ea_cons ev_var (ea_cons (ev_cv ev_var (fun h => rp_H3X ((fun h => h) h))) ea_nil))) rfl (by rw [htable_1]; exact ⟨b3_mono pyy_10.1.1.1 (by decide) (by decide), b3_mono pyy_10.1.1.2.1 (by decide) (by decide), b3_mono pyy_10.1.1.2.2 (by decide) (by decide), b3_mono ((show ∀ v ∈ [a_1, b_1, c_1, d_2, o_1], i.S.m.b3 11 0 v by refine all5 ?_ ?_ ?_ ?_ ?_ <;> assumption) _ ‹_›) (by decide) (by decide)⟩))))) fun led_1 hled_1 => ?_
      refine b_flat (l2 := ⟨[.val (yV (.ref p)) (), .val i.R.r (), .val (yH3 yI yI (yL (yL yI))) i.M.o, .val yI q_1, .val (yH3 i.S.t i.S.t i.S.t) a_1, .val (yH3 i.S.t i.S.t i.S.t) b_1, .val (yH3 i.S.t i.S.t i.S.t) off_1, .val yI n_1, .val (yH3 i.S.t i.S.t i.S.t) c_1, .val (yL yI) weights_3, .val (yH3 i.S.t i.S.t i.S.t) d_2, .val (yH3 i.S.t i.S.t i.S.t) o_1, .val (yH3 i.S.t i.S.t i.S.t) other_1, .val (yH3 i.S.t i.S.t i.S.t) twin_1, .val (yL (yL (yH3 i.S.t i.S.t i.S.t))) ((fives_1 ++ [[a_1, c_1, twin_1, b_1, o_1]]) ++ [[a_1, b_1, c_1, d_2, c_1]]), .any, .val (yP i.S.t i.S.t) pair_1, .val (yH3 (yH3 i.S.t i.S.t i.S.t) (yH3 i.S.t i.S.t i.S.t) (yH3 i.S.t i.S.t i.S.t)) table_1, .val (yL (yH3 i.S.t i.S.t i.S.t)) led_1, .any, .any], []⟩) rfl ?_
      refine b_seq (b_if (tt_not (tt_b (ev_call (led_1, pair_1) (ea_cons ev_var (ea_cons ev_var (ea_cons ev_var (ea_cons ev_var ea_nil)))) rfl (by first | exact ⟨⟨rfl, by refine all5m (by decide) ?_ ?_ ?_ ?_ ?_ <;> assumption⟩, i.S.m.mono kp.1 (by decide) (by decide), i.S.m.mono kp.2 (by decide) (by decide)⟩ | exact ⟨⟨by rw [hled_1]; rfl, by rw [hled_1]; exact led_b3 (by rw [htable_1]; exact pyy_10.1.1) (by refine all5 ?_ ?_ ?_ ?_ ?_ <;> assumption)⟩, i.S.m.mono kp.1 (by decide) (by decide), i.S.m.mono kp.2 (by decide) (by decide)⟩)))) (fun h_4 => ?_) (fun h_4 => ?_))
      · refine b_flat (l2 := ⟨[.val (yV (.ref p)) (), .val i.R.r (), .val (yH3 yI yI (yL (yL yI))) i.M.o, .val yI q_1, .val (yH3 i.S.t i.S.t i.S.t) a_1, .val (yH3 i.S.t i.S.t i.S.t) b_1, .val (yH3 i.S.t i.S.t i.S.t) off_1, .val yI n_1, .val (yH3 i.S.t i.S.t i.S.t) c_1, .val (yL yI) weights_3, .val (yH3 i.S.t i.S.t i.S.t) d_2, .val (yH3 i.S.t i.S.t i.S.t) o_1, .val (yH3 i.S.t i.S.t i.S.t) other_1, .val (yH3 i.S.t i.S.t i.S.t) twin_1, .val (yL (yL (yH3 i.S.t i.S.t i.S.t))) ((fives_1 ++ [[a_1, c_1, twin_1, b_1, o_1]]) ++ [[a_1, b_1, c_1, d_2, c_1]]), .any, .val (yP i.S.t i.S.t) pair_1, .val (yH3 (yH3 i.S.t i.S.t i.S.t) (yH3 i.S.t i.S.t i.S.t) (yH3 i.S.t i.S.t i.S.t)) table_1, .val (yL (yH3 i.S.t i.S.t i.S.t)) led_1, .any, .any], []⟩) rfl ?_
        exact b_seq (b_ret ev_bl (fun h => h _))
      · refine b_fall ?_
        refine b_flat (l2 := ⟨[.val (yV (.ref p)) (), .val i.R.r (), .val (yH3 yI yI (yL (yL yI))) i.M.o, .val yI q_1, .val (yH3 i.S.t i.S.t i.S.t) a_1, .val (yH3 i.S.t i.S.t i.S.t) b_1, .val (yH3 i.S.t i.S.t i.S.t) off_1, .val yI n_1, .val (yH3 i.S.t i.S.t i.S.t) c_1, .val (yL yI) weights_3, .val (yH3 i.S.t i.S.t i.S.t) d_2, .val (yH3 i.S.t i.S.t i.S.t) o_1, .val (yH3 i.S.t i.S.t i.S.t) other_1, .val (yH3 i.S.t i.S.t i.S.t) twin_1, .val (yL (yL (yH3 i.S.t i.S.t i.S.t))) ((fives_1 ++ [[a_1, c_1, twin_1, b_1, o_1]]) ++ [[a_1, b_1, c_1, d_2, c_1]]), .any, .val (yP i.S.t i.S.t) pair_1, .val (yH3 (yH3 i.S.t i.S.t i.S.t) (yH3 i.S.t i.S.t i.S.t) (yH3 i.S.t i.S.t i.S.t)) table_1, .val (yL (yH3 i.S.t i.S.t i.S.t)) led_1, .any, .any], []⟩) rfl ?_
        refine b_gen fun yy_13 hyy_13 => ?_
        have pyy_13 := lv5_post (i := i.toMd) (by decreasing_trivial_pre_omega) hyy_13
        refine b_seq (b_if (tt_not (tt_b (ev_call yy_13.1 (ea_cons ev_var (ea_cons ev_var (ea_cons (ev_l (lc_stY (y := yy_13) hyy_13 (fun (s_2 : List Int) => [(p, cL yI s_2)]) (fun pre s => Pl2 yy_10.2 s (4 * (pre.length : Nat))) (iv_rng1 ev_int (by first | omega | decreasing_trivial_pre_omega) (by first | omega | decreasing_trivial_pre_omega)) (tg_name 20) (by decide) rfl (by exact rng_line (by decide)) (lv5_0 (by decreasing_trivial_pre_omega)) (fun pre x post s e hj => lv5_step (i := i.toMd) (by decreasing_trivial_pre_omega) e hj) (fun D gs pre x_1 post s_2 he hj => (ev_callP (y := (m_law_drawn_g i.M s_2)) 0 s_2 rfl (ea_cons ev_var (ea_cons ev_var ea_nil)) rfl rfl rfl (by first | exact lv5_pre (by decreasing_trivial_pre_omega) he hj | decreasing_trivial_pre_omega))))) ea_nil))) rfl (by first | (have hq := hmfive_1; rw [hfives_1] at hq; simp only [List.mem_append, List.mem_cons, List.not_mem_nil, or_false] at hq; rcases hq with ((h | h) | h) | h <;> rw [h] <;> exact ⟨rfl, by refine all5m (by decide) ?_ ?_ ?_ ?_ ?_ <;> assumption⟩) | exact ⟨pyy_13.1, fun v hv => b3_mono (pyy_13.2.1 v hv) (by decide) (by decide)⟩ | exact ⟨rfl, by refine all5m (by decide) ?_ ?_ ?_ ?_ ?_ <;> assumption⟩)))) (fun h_5 => ?_) (fun h_5 => ?_))
        · refine b_flat (l2 := ⟨[.val (yV (.ref p)) (), .val i.R.r (), .val (yH3 yI yI (yL (yL yI))) i.M.o, .val yI q_1, .val (yH3 i.S.t i.S.t i.S.t) a_1, .val (yH3 i.S.t i.S.t i.S.t) b_1, .val (yH3 i.S.t i.S.t i.S.t) off_1, .val yI n_1, .val (yH3 i.S.t i.S.t i.S.t) c_1, .val (yL yI) weights_3, .val (yH3 i.S.t i.S.t i.S.t) d_2, .val (yH3 i.S.t i.S.t i.S.t) o_1, .val (yH3 i.S.t i.S.t i.S.t) other_1, .val (yH3 i.S.t i.S.t i.S.t) twin_1, .val (yL (yL (yH3 i.S.t i.S.t i.S.t))) ((fives_1 ++ [[a_1, c_1, twin_1, b_1, o_1]]) ++ [[a_1, b_1, c_1, d_2, c_1]]), .any, .val (yP i.S.t i.S.t) pair_1, .val (yH3 (yH3 i.S.t i.S.t i.S.t) (yH3 i.S.t i.S.t i.S.t) (yH3 i.S.t i.S.t i.S.t)) table_1, .val (yL (yH3 i.S.t i.S.t i.S.t)) led_1, .any, .any], []⟩) rfl ?_
          exact b_seq (b_ret ev_bl (fun h => h _))
        · refine b_fall ?_
          refine b_flat (l2 := ⟨[.val (yV (.ref p)) (), .val i.R.r (), .val (yH3 yI yI (yL (yL yI))) i.M.o, .val yI q_1, .val (yH3 i.S.t i.S.t i.S.t) a_1, .val (yH3 i.S.t i.S.t i.S.t) b_1, .val (yH3 i.S.t i.S.t i.S.t) off_1, .val yI n_1, .val (yH3 i.S.t i.S.t i.S.t) c_1, .val (yL yI) weights_3, .val (yH3 i.S.t i.S.t i.S.t) d_2, .val (yH3 i.S.t i.S.t i.S.t) o_1, .val (yH3 i.S.t i.S.t i.S.t) other_1, .val (yH3 i.S.t i.S.t i.S.t) twin_1, .val (yL (yL (yH3 i.S.t i.S.t i.S.t))) ((fives_1 ++ [[a_1, c_1, twin_1, b_1, o_1]]) ++ [[a_1, b_1, c_1, d_2, c_1]]), .any, .val (yP i.S.t i.S.t) pair_1, .val (yH3 (yH3 i.S.t i.S.t i.S.t) (yH3 i.S.t i.S.t i.S.t) (yH3 i.S.t i.S.t i.S.t)) table_1, .val (yL (yH3 i.S.t i.S.t i.S.t)) led_1, .any, .any], []⟩) rfl ?_
          refine b_gen fun yy_14 hyy_14 => ?_
          have qyy_14 : PlB 9000 yy_13.2 ∧ [a_1, b_1, c_1, o_1].length = 4 ∧ ∀ v ∈ [a_1, b_1, c_1, o_1], i.S.m.b3 11 0 v := (by exact ⟨by decreasing_trivial_pre_omega, rfl, by refine all4 ?_ ?_ ?_ ?_ <;> assumption⟩)
          have pyy_14 := p_share (i := i) qyy_14 hyy_14
          refine b_seq (b_if (tt_not (tt_b (ev_callP 0 (yy_13.2, [a_1, b_1, c_1, o_1]) hyy_14 (ea_cons ev_var (ea_cons ev_var (ea_cons ev_var (ea_cons (ev_l (evl_lst (t := (yH3 i.S.t i.S.t i.S.t)) (xs := [a_1, b_1, c_1, o_1]) (ea_cons ev_var (ea_cons ev_var (ea_cons ev_var (ea_cons ev_var ea_nil)))) rfl (lit_len 4 rfl (by decide)))) ea_nil)))) rfl rfl rfl qyy_14))) (fun h_6 => ?_) (fun h_6 => ?_))
          · refine b_flat (l2 := ⟨[.val (yV (.ref p)) (), .val i.R.r (), .val (yH3 yI yI (yL (yL yI))) i.M.o, .val yI q_1, .val (yH3 i.S.t i.S.t i.S.t) a_1, .val (yH3 i.S.t i.S.t i.S.t) b_1, .val (yH3 i.S.t i.S.t i.S.t) off_1, .val yI n_1, .val (yH3 i.S.t i.S.t i.S.t) c_1, .val (yL yI) weights_3, .val (yH3 i.S.t i.S.t i.S.t) d_2, .val (yH3 i.S.t i.S.t i.S.t) o_1, .val (yH3 i.S.t i.S.t i.S.t) other_1, .val (yH3 i.S.t i.S.t i.S.t) twin_1, .val (yL (yL (yH3 i.S.t i.S.t i.S.t))) ((fives_1 ++ [[a_1, c_1, twin_1, b_1, o_1]]) ++ [[a_1, b_1, c_1, d_2, c_1]]), .any, .val (yP i.S.t i.S.t) pair_1, .val (yH3 (yH3 i.S.t i.S.t i.S.t) (yH3 i.S.t i.S.t i.S.t) (yH3 i.S.t i.S.t i.S.t)) table_1, .val (yL (yH3 i.S.t i.S.t i.S.t)) led_1, .any, .any], []⟩) rfl ?_
            exact b_seq (b_ret ev_bl (fun h => h _))
          · refine b_fall ?_
            refine b_flat (l2 := ⟨[.val (yV (.ref p)) (), .val i.R.r (), .val (yH3 yI yI (yL (yL yI))) i.M.o, .val yI q_1, .val (yH3 i.S.t i.S.t i.S.t) a_1, .val (yH3 i.S.t i.S.t i.S.t) b_1, .val (yH3 i.S.t i.S.t i.S.t) off_1, .val yI n_1, .val (yH3 i.S.t i.S.t i.S.t) c_1, .val (yL yI) weights_3, .val (yH3 i.S.t i.S.t i.S.t) d_2, .val (yH3 i.S.t i.S.t i.S.t) o_1, .val (yH3 i.S.t i.S.t i.S.t) other_1, .val (yH3 i.S.t i.S.t i.S.t) twin_1, .val (yL (yL (yH3 i.S.t i.S.t i.S.t))) ((fives_1 ++ [[a_1, c_1, twin_1, b_1, o_1]]) ++ [[a_1, b_1, c_1, d_2, c_1]]), .any, .val (yP i.S.t i.S.t) pair_1, .val (yH3 (yH3 i.S.t i.S.t i.S.t) (yH3 i.S.t i.S.t i.S.t) (yH3 i.S.t i.S.t i.S.t)) table_1, .val (yL (yH3 i.S.t i.S.t i.S.t)) led_1, .any, .any], []⟩) rfl ?_
            exact b_seq (b_ret (ev_call [a_1, b_1, c_1, d_2, o_1] (ea_cons ev_var (ea_cons ev_var (ea_cons (ev_l (evl_lst (t := (yH3 i.S.t i.S.t i.S.t)) (xs := [a_1, b_1, c_1, d_2, o_1]) (ea_cons ev_var (ea_cons ev_var (ea_cons ev_var (ea_cons ev_var (ea_cons ev_var ea_nil))))) rfl (lit_len 5 rfl (by decide)))) ea_nil))) rfl (by first | (have hq := hmfive_1; rw [hfives_1] at hq; simp only [List.mem_append, List.mem_cons, List.not_mem_nil, or_false] at hq; rcases hq with ((h | h) | h) | h <;> rw [h] <;> exact ⟨rfl, by refine all5m (by decide) ?_ ?_ ?_ ?_ ?_ <;> assumption⟩) | exact ⟨pyy_13.1, fun v hv => b3_mono (pyy_13.2.1 v hv) (by decide) (by decide)⟩ | exact ⟨rfl, by refine all5m (by decide) ?_ ?_ ?_ ?_ ?_ <;> assumption⟩)) (fun h => h _))

theorem bnd_P {α ρ : Type} {p : ρ → Prop} {x : α} {k : α → ρ} (h : ∀ y, y = x → p (k y)) : p (bnd x k) := h x rfl
theorem out_P {S ρ : Type} {p : ρ → Prop} {s : S} {k : S → ρ} (h : p (k s)) : p ((Stp.go s).out k) := h
def P1 (pool : List Int) (r : Bool × List Int) : Prop := r.1 = true ∧ Pl2 pool r.2 100
section
variable {E : Type} [Lean.Grind.Field E] [DecidableEq E]
theorem brk_turn (a b c : V3 E) : m_bracket b a c = -m_bracket a b c := by
  unfold m_bracket m_dot m_cross
  simp only [bnd]
  grind
theorem brk_turn' (a b c : V3 E) : m_bracket a b c = -m_bracket b a c := brk_turn b a c
theorem plucker (a b c d o : V3 E) : m_bracket a b o * m_bracket c d o = m_bracket a c o * m_bracket b d o - m_bracket a d o * m_bracket b c o := by
  unfold m_bracket m_dot m_cross
  simp only [bnd]
  grind
/-- p a + q b -/
def mx2 (p q : E) (a b : V3 E) : V3 E := (p * a.1 + q * b.1, p * a.2.1 + q * b.2.1, p * a.2.2 + q * b.2.2)
def mx3 (p q r : E) (a b c : V3 E) : V3 E := (p * a.1 + q * b.1 + r * c.1, p * a.2.1 + q * b.2.1 + r * c.2.1, p * a.2.2 + q * b.2.2 + r * c.2.2)
theorem brk_line (a b z : V3 E) (x1 x2 y1 y2 p q r : E) : m_bracket (mx2 x1 x2 a b) (mx2 y1 y2 a b) (mx3 p q r a b z) = r * (x1 * y2 - x2 * y1) * m_bracket a b z := by
  unfold m_bracket m_dot m_cross mx2 mx3
  simp only [bnd]
  grind
theorem mx2_a (a b : V3 E) : a = mx2 1 0 a b := by
  unfold mx2
  exact Prod.ext (by grind) (Prod.ext (by grind) (by grind))
theorem mx2_b (a b : V3 E) : b = mx2 0 1 a b := by
  unfold mx2
  exact Prod.ext (by grind) (Prod.ext (by grind) (by grind))
def led (t : V3 E × V3 E × V3 E) (v : V3 E) : V3 E := (m_dot t.1 v, m_dot t.2.1 v, m_dot t.2.2 v)
theorem brk_led (t : V3 E × V3 E × V3 E) (a b c : V3 E) : m_bracket (led t a) (led t b) (led t c) = m_dot t.2.2 (m_cross t.1 t.2.1) * m_bracket a b c := by
  unfold m_bracket m_dot m_cross led m_dot
  simp only [bnd]
  grind
/-- what throw tells -/
theorem g_throw (a b c d o : V3 E) : m_throw a b c d o = (if m_bracket a d o * m_bracket b c o = 0 then (if m_bracket a c o * m_bracket b d o = 0 then .inl () else .inr [1, 0]) else .inr [m_bracket a c o * m_bracket b d o / (m_bracket a d o * m_bracket b c o), 1]) := by
  show (if ¬ (decide (m_bracket a d o * m_bracket b c o = 0) = true) then Sum.inr [m_bracket a c o * m_bracket b d o / (m_bracket a d o * m_bracket b c o), 1] else if decide (m_bracket a c o * m_bracket b d o = 0) = true then Sum.inl () else Sum.inr [1, 0]) = _
  generalize m_bracket a d o * m_bracket b c o = q
  generalize m_bracket a c o * m_bracket b d o = p
  by_cases h1 : q = 0
  · rw [if_neg (fun h => h (decide_eq_true h1)), if_pos h1]
    by_cases h2 : p = 0
    · rw [if_pos (decide_eq_true h2), if_pos h2]
    · rw [if_neg (fun h => h2 (of_decide_eq_true h)), if_neg h2]
  · rw [if_pos (fun h => h1 (of_decide_eq_true h)), if_neg h1]
end
theorem M_sub (M : Mm) (a b : M.A) : M.φ (a - b) = M.φ a - M.φ b := by
  have : a - b = a + -b := by grind
  rw [this, M.φadd, M.φneg]
  grind
theorem M_brk (M : Mm) (a b c : V3 M.A) : M.φ (m_bracket a b c) = m_bracket (M.v a) (M.v b) (M.v c) := by
  unfold m_bracket m_dot m_cross Mm.v
  simp only [bnd, M.φadd, M.φmul, M_sub]
theorem M_z (M : Mm) {a : M.A} : M.φ a = 0 ↔ a = 0 := ⟨fun h => M.φinj (h.trans M.φ0.symm), fun h => by rw [h, M.φ0]⟩
theorem forL_all {α ρ : Type} {f : Unit → α → Stp Unit ρ} {xs : List α} (h : ∀ x ∈ xs, f () x = .go ()) : forL f xs () = .go () := forL_unit h
theorem same_refl_g {M : Mm} {l : List M.E} : m_law_same_g M l l = true := by
  unfold m_law_same_g
  rw [if_neg Bool.false_ne_true, if_neg (fun h => h.2 rfl), if_neg (fun h => Bool.false_ne_true h.1), if_neg (fun h => h rfl)]
  rw [forL_all fun x _ => if_neg (fun h => h (decide_eq_true rfl))]
  rfl
theorem same_refl_s {M : Mm} {l : List M.E} : m_law_same_s M (.inr l) l = true := by
  unfold m_law_same_s
  rw [if_neg Bool.false_ne_true, if_neg (fun h => h.2 rfl), if_neg (fun h => Bool.false_ne_true h.1), if_neg (fun h => h rfl)]
  rw [forL_all fun x _ => if_neg (fun h => h (decide_eq_true rfl))]
  rfl
theorem our_r {α : Type} [Inhabited α] {x : Unit ⊕ α} {y : α} (h : x = .inr y) : our x = y := by subst h; rfl
/-- the throw of five is the quotient of a pair that is the pair of their products up to a factor -/
theorem ans_true {M : Mm} {a b c d o : V3 M.A} {x : M.A × M.A} {k : M.E} (hk : k ≠ 0) (h1 : M.φ x.1 = k * (m_bracket (M.v a) (M.v c) (M.v o) * m_bracket (M.v b) (M.v d) (M.v o))) (h2 : M.φ x.2 = k * (m_bracket (M.v a) (M.v d) (M.v o) * m_bracket (M.v b) (M.v c) (M.v o))) :
    m_law_answers_g M [a, b, c, d, o] x = true := by
  unfold m_law_answers_g
  dsimp only [bnd]
  rw [if_neg (fun h => h rfl), g_given]
  have e : ∀ j : Int, 0 ≤ j → j < 5 → True := fun _ _ _ => trivial
  show (if Sum.isLeft (M.ratio x) = true then Sum.isLeft (m_throw (M.v a) (M.v b) (M.v c) (M.v d) (M.v o)) else m_law_same_s M (m_throw (M.v a) (M.v b) (M.v c) (M.v d) (M.v o)) (our (M.ratio x))) = true
  rw [g_throw]
  generalize m_bracket (M.v a) (M.v c) (M.v o) * m_bracket (M.v b) (M.v d) (M.v o) = p at *
  generalize m_bracket (M.v a) (M.v d) (M.v o) * m_bracket (M.v b) (M.v c) (M.v o) = q at *
  have z1 : x.1 = 0 ↔ p = 0 := by
    rw [← M_z M, h1]
    exact ⟨fun h => by grind, fun h => by rw [h]; grind⟩
  have z2 : x.2 = 0 ↔ q = 0 := by
    rw [← M_z M, h2]
    exact ⟨fun h => by grind, fun h => by rw [h]; grind⟩
  by_cases hq : q = 0
  · by_cases hp : p = 0
    · have er : M.ratio x = .inl () := by unfold Mm.ratio ratioG; rw [if_pos ⟨z1.mpr hp, z2.mpr hq⟩]
      rw [er, if_pos hq, if_pos hp]
      rfl
    · have er : M.ratio x = .inr [1, 0] := by unfold Mm.ratio ratioG; rw [if_neg (fun h => hp (z1.mp h.1)), if_pos (z2.mpr hq)]
      rw [er, if_pos hq, if_neg hp]
      exact (if_neg Bool.false_ne_true).trans same_refl_s
  · have er : M.ratio x = .inr [p / q, 1] := by
      unfold Mm.ratio ratioG
      rw [if_neg (fun h => hq (z2.mp h.2)), if_neg (fun h => hq (z2.mp h)), h1, h2]
      rw [show k * p / (k * q) = p / q by grind]
    rw [er, if_neg hq]
    exact (if_neg Bool.false_ne_true).trans same_refl_s
theorem prods_val {M : Mm} {a b c d o : V3 M.A} {g : Int → M.A} {w : Ow} : m_law_products_g g w [a, b, c, d, o] = (m_bracket a c o * m_bracket b d o, m_bracket a d o * m_bracket b c o) := by
  show (m_law_bracket_g g w a c o * m_law_bracket_g g w b d o, m_law_bracket_g g w a d o * m_law_bracket_g g w b c o) = _
  simp only [g_lbracket]
theorem asked_true {M : Mm} {a b c d o : V3 M.A} : m_law_asked_g M [a, b, c, d, o] = true := by
  have one : (1 : M.E) ≠ 0 := fun h => by have := Lean.Grind.Field.zero_ne_one (α := M.E); exact this h.symm
  unfold m_law_asked_g
  dsimp only [bnd]
  rw [prods_val]
  have e1 := ans_true (M := M) (a := a) (b := b) (c := c) (d := d) (o := o) (x := (m_bracket a c o * m_bracket b d o, m_bracket a d o * m_bracket b c o)) one (by simp only [M.φmul, M_brk]; grind) (by simp only [M.φmul, M_brk]; grind)
  have e2 := ans_true (M := M) (a := b) (b := a) (c := c) (d := d) (o := o) (x := (m_bracket a d o * m_bracket b c o, m_bracket a c o * m_bracket b d o)) one (by simp only [M.φmul, M_brk]; grind) (by simp only [M.φmul, M_brk]; grind)
  have e3 := ans_true (M := M) (a := a) (b := b) (c := d) (d := c) (o := o) (x := (m_bracket a d o * m_bracket b c o, m_bracket a c o * m_bracket b d o)) one (by simp only [M.φmul, M_brk]; grind) (by simp only [M.φmul, M_brk]; grind)
  have e4 := ans_true (M := M) (a := a) (b := c) (c := b) (d := d) (o := o) (x := (m_bracket a c o * m_bracket b d o + -(m_bracket a d o * m_bracket b c o), -(m_bracket a d o * m_bracket b c o))) one
    (by rw [plucker]; simp only [M.φmul, M.φadd, M.φneg, M_brk]; grind) (by simp only [M.φmul, M.φneg, M_brk]; rw [brk_turn' (M.v c) (M.v b)]; grind)
  rw [if_neg (fun h => h e1)]
  show (if ¬ m_law_answers_g M [b, a, c, d, o] _ = true then false else if ¬ m_law_answers_g M [a, b, d, c, o] _ = true then false else m_law_answers_g M [a, c, b, d, o] _) = true
  rw [if_neg (fun h => h e2), if_neg (fun h => h e3)]
  exact e4
theorem M_mx2 {M : Mm} {p q : M.A} {a b : V3 M.A} {g : Int → M.A} {w : Ow} : M.v (m_law_mix_g g w [p, q] [a, b]) = mx2 (M.φ p) (M.φ q) (M.v a) (M.v b) := by
  rw [gmix2]
  simp only [Mm.v, mx2, M.φadd, M.φmul]
theorem M_mx3 {M : Mm} {p q r : M.A} {a b c : V3 M.A} {g : Int → M.A} {w : Ow} : M.v (m_law_mix_g g w [p, q, r] [a, b, c]) = mx3 (M.φ p) (M.φ q) (M.φ r) (M.v a) (M.v b) (M.v c) := by
  rw [gmix3]
  simp only [Mm.v, mx3, M.φadd, M.φmul]
theorem M_cross {M : Mm} {a b : V3 M.A} : m_cross (M.v a) (M.v b) = M.v (m_cross a b) := by
  simp only [Mm.v, m_cross, M.φmul, M_sub]
theorem M_v0 {M : Mm} {a : V3 M.A} : M.v a = (0, 0, 0) ↔ a = (0, 0, 0) := by
  obtain ⟨x, y, z⟩ := a
  unfold Mm.v
  simp only [Prod.mk.injEq, M_z]
theorem M_dot {M : Mm} {a b : V3 M.A} : m_dot (M.v a) (M.v b) = M.φ (m_dot a b) := by
  simp only [Mm.v, m_dot, bnd, M.φmul, M.φadd]
theorem M_led {M : Mm} {t : V3 M.A × V3 M.A × V3 M.A} {v : V3 M.A} {g : Int → M.A} {w : Ow} : M.v (m_law_carried_g g w t v) = led (M.v t.1, M.v t.2.1, M.v t.2.2) (M.v v) := by
  rw [g_carried]
  unfold led
  simp only [M_dot]
  rfl
theorem M_share {M : Mm} {a b c o : V3 M.A} {x : M.A} : m_share (M.v a) (M.v b) (M.v c) (M.v o) (M.φ x) = mx2 (m_bracket (M.v a) (M.v c) (M.v o)) (M.φ x * m_bracket (M.v c) (M.v b) (M.v o)) (M.v b) (M.v a) := rfl
/-- the share with a number has this number -/
theorem share_true {M : Mm} {pool : List Int} {a b c o : V3 M.A} (h1 : m_bracket (M.v a) (M.v c) (M.v o) ≠ 0) (h2 : m_bracket (M.v a) (M.v b) (M.v o) ≠ 0) (h3 : m_bracket (M.v b) (M.v c) (M.v o) ≠ 0) : (m_law_share_g M pool [a, b, c, o]).1 = true := by
  have key : ∀ n : Int, (m_law_same_g M [(m_share (M.v a) (M.v b) (M.v c) (M.v o) (M.φ (M.of n))).1, (m_share (M.v a) (M.v b) (M.v c) (M.v o) (M.φ (M.of n))).2.1, (m_share (M.v a) (M.v b) (M.v c) (M.v o) (M.φ (M.of n))).2.2]
      [(ix (m_law_given_g M [m_law_mix_g M.of M.o [m_law_bracket_g M.of M.o a c o, M.of n * m_law_bracket_g M.of M.o c b o] [b, a]]) (0 : Int)).1, (ix (m_law_given_g M [m_law_mix_g M.of M.o [m_law_bracket_g M.of M.o a c o, M.of n * m_law_bracket_g M.of M.o c b o] [b, a]]) (0 : Int)).2.1, (ix (m_law_given_g M [m_law_mix_g M.of M.o [m_law_bracket_g M.of M.o a c o, M.of n * m_law_bracket_g M.of M.o c b o] [b, a]]) (0 : Int)).2.2] = true) ∧
      m_law_same_s M (m_throw (M.v a) (M.v b) (M.v c) (m_share (M.v a) (M.v b) (M.v c) (M.v o) (M.φ (M.of n))) (M.v o)) [M.φ (M.of n), M.φ (M.of 1)] = true := by
    intro n
    have ed : m_share (M.v a) (M.v b) (M.v c) (M.v o) (M.φ (M.of n)) = M.v (m_law_mix_g M.of M.o [m_law_bracket_g M.of M.o a c o, M.of n * m_law_bracket_g M.of M.o c b o] [b, a]) := by
      rw [M_share, M_mx2, g_lbracket, g_lbracket, M.φmul, M_brk, M_brk]
    refine ⟨?_, ?_⟩
    · rw [ed, g_given]
      exact same_refl_g
    · have e1 : m_throw (M.v a) (M.v b) (M.v c) (m_share (M.v a) (M.v b) (M.v c) (M.v o) (M.φ (M.of n))) (M.v o) = .inr [M.φ (M.of n), M.φ (M.of 1)] := by
        rw [M_share, g_throw]
        have k1 : m_bracket (M.v a) (mx2 (m_bracket (M.v a) (M.v c) (M.v o)) (M.φ (M.of n) * m_bracket (M.v c) (M.v b) (M.v o)) (M.v b) (M.v a)) (M.v o) = m_bracket (M.v a) (M.v c) (M.v o) * m_bracket (M.v a) (M.v b) (M.v o) := by
          generalize m_bracket (M.v a) (M.v c) (M.v o) = x
          generalize M.φ (M.of n) * m_bracket (M.v c) (M.v b) (M.v o) = y
          unfold m_bracket m_dot m_cross mx2
          simp only [bnd]
          grind
        have k2 : m_bracket (M.v b) (mx2 (m_bracket (M.v a) (M.v c) (M.v o)) (M.φ (M.of n) * m_bracket (M.v c) (M.v b) (M.v o)) (M.v b) (M.v a)) (M.v o) = (M.φ (M.of n) * m_bracket (M.v c) (M.v b) (M.v o)) * m_bracket (M.v b) (M.v a) (M.v o) := by
          generalize m_bracket (M.v a) (M.v c) (M.v o) = x
          generalize M.φ (M.of n) * m_bracket (M.v c) (M.v b) (M.v o) = y
          unfold m_bracket m_dot m_cross mx2
          simp only [bnd]
          grind
        rw [k1, k2, brk_turn (M.v b) (M.v c), brk_turn (M.v a) (M.v b), M.of1, M.φ1]
        generalize m_bracket (M.v a) (M.v c) (M.v o) = x at *
        generalize m_bracket (M.v a) (M.v b) (M.v o) = y at *
        generalize m_bracket (M.v b) (M.v c) (M.v o) = z at *
        generalize M.φ (M.of n) = u at *
        rw [if_neg (by intro h; grind)]
        have : x * (u * -z * -y) / (x * y * z) = u := by grind
        rw [this]
      rw [e1]
      exact same_refl_s
  unfold m_law_share_g
  dsimp only [bnd]
  have e0 : m_law_given_g M [a, b, c, o] = [M.v a, M.v b, M.v c, M.v o] := by rw [g_given]; rfl
  rw [e0]
  split
  · obtain ⟨q1, q2⟩ := key (m_law_draw pool M.o.2.1).1
    refine Eq.trans (congrArg Prod.fst (if_neg (fun h => h q1))) ?_
    exact q2
  · obtain ⟨q1, q2⟩ := key (m_law_draw pool M.o.2.1).1
    refine Eq.trans (congrArg Prod.fst (if_neg (fun h => h q1))) ?_
    exact q2
section
variable {E : Type} [Lean.Grind.Field E] [DecidableEq E]
theorem br_a (a b z : V3 E) (y1 y2 p q r : E) : m_bracket a (mx2 y1 y2 a b) (mx3 p q r a b z) = r * y2 * m_bracket a b z := by
  unfold m_bracket m_dot m_cross mx2 mx3
  simp only [bnd]
  grind
theorem br_b (a b z : V3 E) (y1 y2 p q r : E) : m_bracket b (mx2 y1 y2 a b) (mx3 p q r a b z) = -(r * y1 * m_bracket a b z) := by
  unfold m_bracket m_dot m_cross mx2 mx3
  simp only [bnd]
  grind
theorem br_ab (a b z : V3 E) (p q r : E) : m_bracket a b (mx3 p q r a b z) = r * m_bracket a b z := by
  unfold m_bracket m_dot m_cross mx3
  simp only [bnd]
  grind
theorem brk_cyc (a b c : V3 E) : m_bracket a b c = m_bracket c a b := by
  unfold m_bracket m_dot m_cross
  simp only [bnd]
  grind
end
theorem M_beside {M : Mm} {a b : V3 M.A} (h : m_cross a b ≠ (0, 0, 0)) : m_bracket (M.v a) (M.v b) (M.v (m_law_beside_g M.of M.o (m_law_cross_g M.of M.o a b))) ≠ 0 := by
  rw [g_lcross, brk_cyc]
  have := g_beside_dt (o := M.o) M.of0 M.of1 h
  unfold m_bracket
  rw [M_cross, M_dot]
  intro q
  exact this ((M_z M).mp q)
theorem M_of {M : Mm} {n : Int} (h0 : 0 < n) (h1 : n < M.o.2.1) : M.φ (M.of n) ≠ 0 := fun h => by
  have := M.of_ne (by omega) h1 ((M_z M).mp h)
  omega
theorem side_true {P : Program} {w : World} {K : PySem.W.Frag} {mg : Str → Option Value} {base : Heap} {i : MdR P w K mg base} {pool : List Int} (hp : PlB 4000 pool) : P1 pool (m_law_side_g i.M pool) := by
  have hq2 := i.S.q2
  unfold m_law_side_g
  refine bnd_P fun q hq => ?_
  subst hq
  refine bnd_P fun y1 hy1 => ?_
  have p1 := p_drawn (i := i.toMd) (pool := pool) (by decreasing_trivial_pre_omega) hy1
  refine bnd_P fun a ha => ?_
  have na : a ≠ (0, 0, 0) := by rw [ha]; exact p1.1.2
  refine bnd_P fun y2 hy2 => ?_
  have p2 := p_drawn (i := i.toMd) (pool := y1.2) (by decreasing_trivial_pre_omega) hy2
  refine bnd_P fun b hb => ?_
  have hab : m_cross a b ≠ (0, 0, 0) := by rw [hb]; exact g_unlike_ne i.S.of0 i.S.of1 na
  refine bnd_P fun off hoff => ?_
  have hB := M_beside hab
  rw [← hoff] at hB
  refine bnd_P fun y3 hy3 => ?_
  have p3 := p_draw (pool := y2.2) (most := i.M.o.2.1 - 1) ⟨by decreasing_trivial_pre_omega, by omega, by unfold Sz; omega⟩ hy3
  refine bnd_P fun n hn => ?_
  have hN : i.M.φ (i.M.of n) ≠ 0 := M_of (by omega) (by omega)
  refine bnd_P fun y4 hy4 => ?_
  have p4 := p_draw (pool := y3.2) (most := i.M.o.2.1 - 1) ⟨by decreasing_trivial_pre_omega, by omega, by unfold Sz; omega⟩ hy4
  have hN2 : i.M.φ (i.M.of (1 + y4.1)) ≠ 0 := M_of (by omega) (by omega)
  refine bnd_P fun c hc => ?_
  have vc := congrArg i.M.v hc
  rw [M_mx2] at vc
  refine bnd_P fun y5 hy5 => ?_
  have p5 := p_draw (pool := y4.2) (most := i.M.o.2.1) ⟨by decreasing_trivial_pre_omega, by omega, by unfold Sz; omega⟩ hy5
  refine bnd_P fun y6 hy6 => ?_
  have p6 := p_draw (pool := y5.2) (most := i.M.o.2.1) ⟨by decreasing_trivial_pre_omega, by omega, by unfold Sz; omega⟩ hy6
  refine bnd_P fun w1 hw1 => ?_
  refine bnd_P fun d0 hd0 => ?_
  refine bnd_P fun d hd => ?_
  obtain ⟨s, t, vd⟩ : ∃ s t, i.M.v d = mx2 s t (i.M.v a) (i.M.v b) := by
    rw [hd]
    split
    · exact ⟨1, 0, mx2_a _ _⟩
    · rw [hd0, hw1]
      exact ⟨_, _, M_mx2 (p := i.M.of y5.1) (q := i.M.of y6.1)⟩
  refine bnd_P fun y7 hy7 => ?_
  have p7 := p_draw (pool := y6.2) (most := i.M.o.2.1) ⟨by decreasing_trivial_pre_omega, by omega, by unfold Sz; omega⟩ hy7
  refine bnd_P fun y8 hy8 => ?_
  have p8 := p_draw (pool := y7.2) (most := i.M.o.2.1) ⟨by decreasing_trivial_pre_omega, by omega, by unfold Sz; omega⟩ hy8
  refine bnd_P fun w2 hw2 => ?_
  refine bnd_P fun o ho => ?_
  obtain ⟨o1, o2, vo⟩ : ∃ s t, i.M.v o = mx3 s t (i.M.φ (i.M.of n)) (i.M.v a) (i.M.v b) (i.M.v off) := by
    rw [ho, hw2]
    exact ⟨_, _, M_mx3 (p := i.M.of y7.1) (q := i.M.of y8.1) (r := i.M.of n)⟩
  refine bnd_P fun y9 hy9 => ?_
  have p9 := p_draw (pool := y8.2) (most := i.M.o.2.1) ⟨by decreasing_trivial_pre_omega, by omega, by unfold Sz; omega⟩ hy9
  refine bnd_P fun w3 hw3 => ?_
  refine bnd_P fun other hother => ?_
  obtain ⟨q1, q2, vother⟩ : ∃ s t, i.M.v other = mx3 s t 1 (i.M.v a) (i.M.v b) (i.M.v off) := by
    rw [hother, hw3]
    refine ⟨i.M.φ (i.M.of y9.1), i.M.φ (i.M.of n), (M_mx3 (p := i.M.of y9.1) (q := i.M.of n) (r := i.M.of 1)).trans ?_⟩
    rw [i.M.of1, i.M.φ1]
  refine bnd_P fun twin htwin => ?_
  refine bnd_P fun fives hfives => ?_
  have hall : ∀ x ∈ (fives ++ [[a, c, twin, b, o]]) ++ [[a, b, c, d, c]], m_law_asked_g i.M x = true := by
    intro x hx
    rw [hfives] at hx
    simp only [List.mem_append, List.mem_cons, List.not_mem_nil, or_false] at hx
    rcases hx with ((h | h) | h) | h <;> rw [h] <;> exact asked_true
  rw [forL_all (f := fun (s_1 : Unit) five_1 => (if (¬ ((m_law_asked_g i.M five_1) = true)) then Stp.ret ((false, y9.2)) else .go ())) (fun x hx => if_neg (fun h => h (hall x hx)))]
  refine out_P ?_
  refine bnd_P fun pair hpair => ?_
  rw [prods_val] at hpair
  have one : (1 : i.M.E) ≠ 0 := fun h => by have := Lean.Grind.Field.zero_ne_one (α := i.M.E); exact this h.symm
  have hac : m_bracket (i.M.v a) (i.M.v c) (i.M.v o) = i.M.φ (i.M.of n) * i.M.φ (i.M.of (1 + y4.1)) * m_bracket (i.M.v a) (i.M.v b) (i.M.v off) := by rw [vc, vo, br_a]
  have hbc : m_bracket (i.M.v b) (i.M.v c) (i.M.v o) = -(i.M.φ (i.M.of n) * i.M.φ (i.M.of n) * m_bracket (i.M.v a) (i.M.v b) (i.M.v off)) := by rw [vc, vo, br_b]
  have hbo : m_bracket (i.M.v a) (i.M.v b) (i.M.v o) = i.M.φ (i.M.of n) * m_bracket (i.M.v a) (i.M.v b) (i.M.v off) := by rw [vo, br_ab]
  have e1 : m_law_answers_g i.M [a, b, c, d, other] pair = true := by
    refine ans_true (k := i.M.φ (i.M.of n) * i.M.φ (i.M.of n)) (fun h => by grind) ?_ ?_
    · rw [hpair]
      simp only [i.M.φmul, M_brk]
      rw [vc, vd, vo, vother, br_a, br_b, br_a, br_b]
      grind
    · rw [hpair]
      simp only [i.M.φmul, M_brk]
      rw [vc, vd, vo, vother, br_a, br_b, br_a, br_b]
      grind
  rw [if_neg (fun h => h e1)]
  refine bnd_P fun y10 hy10 => ?_
  have p10 := p_span (i := i.og) (pool := y9.2) (by decreasing_trivial_pre_omega) hy10
  refine bnd_P fun table htable => ?_
  refine bnd_P fun ld hld => ?_
  have hdet : m_dot (i.M.v table.2.2) (m_cross (i.M.v table.1) (i.M.v table.2.1)) ≠ 0 := by
    rw [M_cross, M_dot, htable]
    exact fun h => p10.1.2 ((M_z i.M).mp h)
  have e2 : m_law_answers_g i.M ld pair = true := by
    rw [hld]
    show m_law_answers_g i.M [m_law_carried_g i.M.of i.M.o table a, m_law_carried_g i.M.of i.M.o table b, m_law_carried_g i.M.of i.M.o table c, m_law_carried_g i.M.of i.M.o table d, m_law_carried_g i.M.of i.M.o table o] pair = true
    refine ans_true (k := (m_dot (i.M.v table.2.2) (m_cross (i.M.v table.1) (i.M.v table.2.1)) * m_dot (i.M.v table.2.2) (m_cross (i.M.v table.1) (i.M.v table.2.1)))⁻¹) (fun h => by grind) ?_ ?_
    · rw [hpair]
      simp only [i.M.φmul, M_brk, M_led, brk_led]
      grind
    · rw [hpair]
      simp only [i.M.φmul, M_brk, M_led, brk_led]
      grind
  rw [if_neg (fun h => h e2)]
  refine bnd_P fun y13 hy13 => ?_
  have p13 := lv5_post (i := i.toMd) (pool := y10.2) (by decreasing_trivial_pre_omega) hy13
  have e3 : m_law_asked_g i.M y13.1 = true := by
    obtain ⟨l, _⟩ := p13
    match y13, l with
    | ([_, _, _, _, _], _), _ => exact asked_true
  rw [if_neg (fun h => h e3)]
  refine bnd_P fun y14 hy14 => ?_
  have p14 := p_share0 (i := i) (pool := y13.2) (by decreasing_trivial_pre_omega) hy14
  have e4 : y14.1 = true := by
    rw [hy14]
    exact share_true (fun h => by rw [hac] at h; grind) (fun h => by rw [hbo] at h; grind) (fun h => by rw [hbc] at h; grind)
  rw [if_neg (fun h => h e4)]
  exact ⟨asked_true, by decreasing_trivial_pre_omega⟩

abbrev spRingI {α β : Type} (C : Addr) (t : Ty α) (u : Ty β) : Sp := spP (fun p (a : α × β) => [.val (yV (.ref p)) (), .val t a.1, .val u a.2]) (fun _ => cO C [] []) (fun a => cO C ["zero", "one"] [.val t a.1, .val u a.2]) (fun _ => True) yN (fun a => ((), a))
abbrev spFieldI (C : Addr) : Sp := spP (fun p (a : Int × Int × Int × Int) => [.val (yV (.ref p)) (), .val yI a.1, .val yI a.2.1, .val yI a.2.2.1, .val yI a.2.2.2]) (fun _ => cO C [] [])
  (fun a => cO C ["zero", "one", "characteristic", "size"] [.val yI a.1, .val yI a.2.1, .val yI a.2.2.1, .val yI a.2.2.2]) (fun _ => True) yN (fun a => ((), a))
theorem init_Ring {α β : Type} (T : Tx P K mg) (C : Addr) (t : Ty α) (u : Ty β) (hC : Cls K C) (h1 : NoAttr K C "zero") (h2 : NoAttr K C "one") : ∃ fd, FnOk P w K mg base (L2.CX P w) 1 (He.ma K (He.ga K "Ring") "__init__") fd ["self", "zero", "one"] (spRingI C t u) ∧ Binds K fd ["self", "zero", "one"] [] := by
  obtain ⟨fd, FD⟩ := T.ii_Ring
  refine ⟨fd, ?_, FD.bindsN fun _ _ _ _ _ _ us hl => match us, hl with | [_, _, _], _ => rfl⟩
  refine TL.FunD.okC (N := ["self", "zero", "one"]) FD ⟨rfl, rfl, rfl, by decide +kernel, rfl, by decide +kernel, by decide +kernel⟩ (lenP fun _ _ => rfl) fun cdv A outer s H E hr => ?_
  refine ⟨_, pss_cons (ps_fld (pv 0) (pv 1) rfl) (pss_cons (ps_fld (pv 0) (pv 2) rfl) pss_nil), fun vs Q h => run_P (fun F p a rt hpre => ?_) vs H Q E h⟩
  refine b_fld 0 (t := t) (a := a.1) ev_var ev_var rfl hC h1 (by decide) (by decide) ?_
  refine b_fld 0 (t := u) (a := a.2) ev_var ev_var rfl hC h2 (by decide) (by decide) ?_
  exact b_next fun h => nx_end (h _)
theorem init_FieldF (T : Tx P K mg) : ∃ fd, FnOk P w K mg base (L2.CX P w) 2 (He.ma K (He.ga K "Field") "__init__") fd ["self", "zero", "one", "characteristic", "size"] (spFieldI (He.ga K "Finite")) ∧ Binds K fd ["self", "zero", "one", "characteristic", "size"] [] := by
  obtain ⟨cda, cc, oc, od, osl, kV, doc, pm, an, ct, lk, hcd, SF⟩ := T.si_Field
  obtain ⟨fd2, F2, b2⟩ := init_Ring (P := P) (w := w) (base := base) T (He.ga K "Finite") yI yI T.cl_Finite T.na_Finite_zero T.na_Finite_one
  refine ⟨_, fn_super (k := 1) (k2 := 1) (sp2 := spRingI (He.ga K "Finite") yI yI) (N := ["self", "zero", "one", "characteristic", "size"]) (me := "self") (ar := ?ar) lk hcd ⟨rfl, rfl, rfl, by decide +kernel, rfl, by decide +kernel, by decide +kernel, by decide +kernel, rfl, rfl, rfl⟩ SF ?h1 ?h2 T.b_super (by decide) rfl (fun env => rfl) (fun env => rfl) (fun env => rfl) (lenP fun _ _ => rfl) (fun A outer s H vs Q E hr hsp => ?_), .all fun us hl => match us, hl with | [_, _, _, _, _], _ => rfl⟩
  case h1 => rfl
  case h2 => rfl
  obtain ⟨x, dx, fs, h1, h2, h3⟩ := super_go (N := ["self", "zero", "one", "characteristic", "size"]) (C := He.ga K "Finite") (ns := []) (sl := fun _ => []) (f2 := He.ma K (He.ga K "Ring") "__init__") (args2 := fun p a => [.val (yV (.ref p)) (), .val yI a.1, .val yI a.2]) (pre2 := fun _ => True) (c2 := fun _ => cO (He.ga K "Finite") [] []) (cc2 := fun a => cO (He.ga K "Finite") ["zero", "one"] [.val yI a.1, .val yI a.2]) (m2 := fun a => ((), a)) (tA := tCons (tVar 1) (tCons (tVar 2) tNil)) (t := tSeq (sFld K (tVar 0) (tVar 3) "characteristic") (tSeq (sFld K (tVar 0) (tVar 4) "size") tNext)) hsp (fun p a => ⟨_, rfl⟩)
    (fun F p a rt _ => ⟨(a.1, a.2.1), _, ea_cons (t := yI) (a := a.1) ev_var (ea_cons (t := yI) (a := a.2.1) ev_var ea_nil), rfl, rfl, trivial, by
      refine b_fld 0 (t := yI) (a := a.2.2.1) ev_var ev_var rfl T.cl_Finite T.na_Finite_characteristic (by decide) (by decide) ?_
      refine b_fld 0 (t := yI) (a := a.2.2.2) ev_var ev_var rfl T.cl_Finite T.na_Finite_size (by decide) (by decide) ?_
      exact b_next fun h => nx_end (h _)⟩)
  exact ⟨x, _, dx, _, fs, fd2, _, _, _, h1, h2, T.sp_Finite_Field, F2, Nat.le_refl _, b2, pa_cons (pv 1) (pa_cons (pv 2) pa_nil), pss_cons (ps_fld (pv 0) (pv 3) rfl) (pss_cons (ps_fld (pv 0) (pv 4) rfl) pss_nil), passL, h3⟩
/-- what Finite(p, m) may be asked with -/
def MkP (p : Int) (m : List Int) : Prop := MdOk p m ∧ (1 < (m.length : Int) - 1 → (p, m, m_checked_size p m) ∈ mdSix)
abbrev spFin (K : PySem.W.Frag) : Sp := spP (fun p (a : Int × List Int) => [.val (yV (.ref p)) (), .val yI a.1, .val (yT yI) a.2]) (fun _ => cO (He.ga K "Finite") [] []) (fun s : Int × List Int => cO (He.ga K "Finite") ns_Finite (sl_Finite (finOf s.1 s.2))) (fun a => MkP a.1 a.2) yN (fun a => ((), a))
theorem mk_Finite (T : Tx P K mg) : Mkr P w K mg base 8 "Finite" (He.ga K "Finite") (spFin K) := by
  obtain ⟨cda, cc, oc, od, osl, kV, doc, pm, an, ct, lk, hcd, SF⟩ := T.si_Finite
  obtain ⟨fd2, F2, b2⟩ := init_FieldF (P := P) (w := w) (base := base) T
  have S : ScS ["self", "prime", "modulus", "size", "powers", "logs", "lifts"] ["self", "prime", "modulus"] (defScope s_Finite___init__) "self" := ⟨rfl, rfl, rfl, by decide +kernel, rfl, by decide +kernel, by decide +kernel, by decide +kernel, rfl, rfl, rfl⟩
  refine ⟨_, _, ["self", "prime", "modulus"], T.mk_Finite, fn_super1 (k := 7) (k2 := 2) (sp2 := spFieldI (He.ga K "Finite")) (N := ["self", "prime", "modulus", "size", "powers", "logs", "lifts"]) (me := "self") (ar := ?ar) lk hcd S SF ?h1 ?h2 T.b_super (by decide) rfl (fun env => rfl) (fun env => rfl) (fun env => rfl) (lenP fun _ _ => rfl) (fun A outer s H vs Q E hr hsp => ?_), T.gc_Finite, .all fun us hl => match us, hl with | [_, _, _], _ => rfl⟩
  case h1 => rfl
  case h2 => rfl
  obtain ⟨M, p, a, o, hpM, hM, hp0, hc, hA, hp, hQ⟩ := hsp
  have k0 : Ok ⟨H, [p], M⟩ [(p, cO (He.ga K "Finite") [] [])] (slots [.val (yV (.ref p)) (), .val yI a.1, .val (yT yI) a.2] 7) (L2.start ["self", "prime", "modulus", "size", "powers", "logs", "lifts"] vs) H := ok_P (c := fun _ : Int × List Int => cO (He.ga K "Finite") [] []) (args := fun p (a : Int × List Int) => [.val (yV (.ref p)) (), .val yI a.1, .val (yT yI) a.2]) (N := ["self", "prime", "modulus", "size", "powers", "logs", "lifts"]) hpM hM hp0 hc hA
  have hO : OutsP ⟨H, [p], M⟩ p (fun s : Int × List Int => cO (He.ga K "Finite") ns_Finite (sl_Finite (finOf s.1 s.2))) yN Q ((), a) := fun O l σ v H' k r => by
    obtain ⟨o', e, hok⟩ := k.hx.own _ List.mem_cons_self
    have sub : ∀ b ∈ p :: M, b ∈ ad ⟨H, [p], M⟩ ((p, cO (He.ga K "Finite") ns_Finite (sl_Finite (finOf a.1 a.2))) :: O) := fun b hb => by
      rcases List.mem_cons.mp hb with z | z
      · rw [z]
        exact List.mem_append_left _ List.mem_cons_self
      · exact List.mem_append_right _ z
    exact hQ v H' o' k.hx.keep e (Cell.mono _ (bar_mono sub) hok) (yN.mono (bar_mono sub) r)
  refine ⟨He.ga K "Finite", _, fd2, _, _, _, _, T.sp_Finite_Finite, F2, by decide, b2,
    ps_set (i := 3) S.nd rfl (by first | exact .inl rfl | exact .inr rfl) (pe_cl (ok_checked_size T) hr (by decide) (by rfl) passL (pa_cons (pv 1) (pa_cons (pv 2) pa_nil))),
    pa_cons pe_int (pa_cons pe_int (pa_cons (pv 1) (pa_cons (pv 3) pa_nil))),
    pss_cons (ps_fld (pv 0) (pv 1) rfl)
    (pss_cons (ps_fld (pv 0) (pe_op op_sub (pe_callB call_len_seq (by rfl) T.b_len (by decide +kernel) (pa_cons (pv 2) pa_nil)) pe_int) rfl)
    (pss_cons (ps_fld (pv 0) (pe_callTy call_tuple_of (by rfl) T.b_tuple (by decide +kernel) (pa_cons (pv 2) pa_nil)) rfl)
    (pss_cons (ps_par3 (i := 4) (j := 5) (l := 6) rfl S.nd rfl rfl rfl (by decide) (by decide) (by decide) rfl rfl rfl (pa_cons (pe_lst pa_nil) (pa_cons (pe_lst pa_nil) (pa_cons (pe_lst pa_nil) pa_nil))) (by rfl))
    (pss_cons (ps_if (pt_cmpR op_gt (pe_fld (pv 0) rfl) pe_int (nomark _)) (pss_cons (ps_asg (pe_cl (ok_tables T) hr (by decide) (by rfl) passL (pa_cons (pv 1) (pa_cons (pe_fld (pv 0) rfl) (pa_cons (pv 3) pa_nil)))) (pg_tupK (K := K) (n := 3) rfl (by rfl) (pgs_cons (pg_name (i := 4) S.nd (by rfl) (by first | exact .inl rfl | exact .inr rfl)) (pgs_cons (pg_name (i := 5) S.nd (by rfl) (by first | exact .inl rfl | exact .inr rfl)) (pgs_cons (pg_name (i := 6) S.nd (by rfl) (by first | exact .inl rfl | exact .inr rfl)) pgs_nil))))) pss_nil) pss_nil)
    (pss_cons (ps_fld (pv 0) (pv 4) rfl) (pss_cons (ps_fld (pv 0) (pv 5) rfl) (pss_cons (ps_fld (pv 0) (pv 6) rfl) pss_nil))))))), passL, ?_⟩
  refine (ev_call (a.1, a.2) (ea_cons (t := yI) (a := a.1) ev_var (ea_cons (t := yT yI) (a := a.2) ev_var ea_nil)) rfl hp.1) _ _ k0 _ fun v H1 s1 k1 r1 => ?_
  have k2 := k1.set 3 r1
  refine super_at (D := { nx := fun _ H' => Q .non H', rt := Q }) (P := OutsP ⟨H, [p], M⟩ p (fun s : Int × List Int => cO (He.ga K "Finite") ns_Finite (sl_Finite (finOf s.1 s.2))) yN Q) (r := ((), a)) ((0, 1, a.1, m_checked_size a.1 a.2) : Int × Int × Int × Int) k2 rfl rfl (ea_cons ev_int (ea_cons ev_int (ea_cons (t := yI) (a := a.1) ev_var (ea_cons (t := yI) (a := m_checked_size a.1 a.2) ev_var ea_nil)))) rfl rfl trivial ?_ hO
  refine b_fld 0 (t := yI) (a := a.1) ev_var ev_var rfl T.cl_Finite T.na_Finite_prime (by decide) (by decide) ?_
  refine b_fld 0 (t := yI) (a := (a.2.length : Int) - 1) (ev_sub (ev_lenT (t := yI) ev_var) ev_int) ev_var rfl T.cl_Finite T.na_Finite_degree (by decide) (by decide) ?_
  refine b_fld 0 (t := yT yI) (a := a.2) (ev_tupleT ev_var) ev_var rfl T.cl_Finite T.na_Finite_modulus (by decide) (by decide) ?_
  refine b_gen (x := (([] : List Int), ([] : List Int), ([] : List Int))) (k := fun _ => ((), a)) fun x hx => ?_
  refine b_letP3 (k := fun _ => ((), a)) (ea_cons (ev_l (evl_lst (t := yI) (xs := []) ea_nil rfl (by decide))) (ea_cons (ev_l (evl_lst (t := yI) (xs := []) ea_nil rfl (by decide))) (ea_cons (ev_l (evl_lst (t := yI) (xs := []) ea_nil rfl (by decide))) ea_nil))) fun x hx => ?_
  refine b_seq (b_eq (ite_self (c := 1 < (a.2.length : Int) - 1) ((), a)).symm (b_if (tt_d (ev_gt (ev_fldO (u := yI) (b := (a.2.length : Int) - 1) (C := He.ga K "Finite") 5 0 ev_var rfl T.cl_Finite T.na_Finite_degree (by decide) rfl rfl) ev_int)) (fun h => ?_) (fun h => ?_)))
  · refine b_letG (k := fun _ => ((), a)) (ev_call (a.1, a.2, m_checked_size a.1 a.2) (ea_cons (t := yI) (a := a.1) ev_var (ea_cons (t := yT yI) (a := a.2) (ev_fldO (C := He.ga K "Finite") 6 0 ev_var rfl T.cl_Finite T.na_Finite_modulus (by decide) rfl rfl) (ea_cons (t := yI) (a := m_checked_size a.1 a.2) ev_var ea_nil))) rfl ⟨hp.1.1, hp.2 h⟩) (tg_triple (tg_name 4) (tg_name 5) (tg_name 6)) fun y hy => ?_
    refine b_fall ?_
    refine b_fld 0 (t := yL yI) (a := y.1) ev_var ev_var rfl T.cl_Finite T.na_Finite__powers (by decide) (by decide) ?_
    refine b_fld 0 (t := yL yI) (a := y.2.1) ev_var ev_var rfl T.cl_Finite T.na_Finite__logs (by decide) (by decide) ?_
    refine b_fld 0 (t := yL yI) (a := y.2.2) ev_var ev_var rfl T.cl_Finite T.na_Finite__lifts (by decide) (by decide) ?_
    refine b_next fun hh => ?_
    have e : finOf a.1 a.2 = ⟨a.1, (a.2.length : Int) - 1, m_checked_size a.1 a.2, a.2, y.1, y.2.1, y.2.2⟩ := by
      rw [hy]
      unfold finOf
      rw [if_pos h]
    have h2 := hh
    unfold OutsP at h2
    simp only [e] at h2
    exact nx_end (h2 _)
  · refine b_fall ?_
    refine b_fld 0 (t := yL yI) (a := x.1) ev_var ev_var rfl T.cl_Finite T.na_Finite__powers (by decide) (by decide) ?_
    refine b_fld 0 (t := yL yI) (a := x.2.1) ev_var ev_var rfl T.cl_Finite T.na_Finite__logs (by decide) (by decide) ?_
    refine b_fld 0 (t := yL yI) (a := x.2.2) ev_var ev_var rfl T.cl_Finite T.na_Finite__lifts (by decide) (by decide) ?_
    refine b_next fun hh => ?_
    have e : finOf a.1 a.2 = ⟨a.1, (a.2.length : Int) - 1, m_checked_size a.1 a.2, a.2, x.1, x.2.1, x.2.2⟩ := by
      rw [hx]
      unfold finOf
      rw [if_neg h]
    have h2 := hh
    unfold OutsP at h2
    simp only [e] at h2
    exact nx_end (h2 _)
abbrev spFieldQ (C : Addr) : Sp := spP (fun p (a : (Int × Int) × (Int × Int) × Int × Int) => [.val (yV (.ref p)) (), .val (yP yI yI) a.1, .val (yP yI yI) a.2.1, .val yI a.2.2.1, .val yI a.2.2.2]) (fun _ => cO C [] [])
  (fun a => cO C ["zero", "one", "characteristic", "size"] [.val (yP yI yI) a.1, .val (yP yI yI) a.2.1, .val yI a.2.2.1, .val yI a.2.2.2]) (fun _ => True) yN (fun a => ((), a))
theorem init_FieldQ (T : Tx P K mg) : ∃ fd, FnOk P w K mg base (L2.CX P w) 2 (He.ma K (He.ga K "Field") "__init__") fd ["self", "zero", "one", "characteristic", "size"] (spFieldQ (He.ga K "Fractions")) ∧ Binds K fd ["self", "zero", "one", "characteristic", "size"] [] := by
  obtain ⟨cda, cc, oc, od, osl, kV, doc, pm, an, ct, lk, hcd, SF⟩ := T.si_Field
  obtain ⟨fd2, F2, b2⟩ := init_Ring (P := P) (w := w) (base := base) T (He.ga K "Fractions") (yP yI yI) (yP yI yI) T.cl_Fractions T.na_Fractions_zero T.na_Fractions_one
  refine ⟨_, fn_super (k := 1) (k2 := 1) (sp2 := spRingI (He.ga K "Fractions") (yP yI yI) (yP yI yI)) (N := ["self", "zero", "one", "characteristic", "size"]) (me := "self") (ar := ?ar) lk hcd ⟨rfl, rfl, rfl, by decide +kernel, rfl, by decide +kernel, by decide +kernel, by decide +kernel, rfl, rfl, rfl⟩ SF ?h1 ?h2 T.b_super (by decide) rfl (fun env => rfl) (fun env => rfl) (fun env => rfl) (lenP fun _ _ => rfl) (fun A outer s H vs Q E hr hsp => ?_), .all fun us hl => match us, hl with | [_, _, _, _, _], _ => rfl⟩
  case h1 => rfl
  case h2 => rfl
  obtain ⟨x, dx, fs, h1, h2, h3⟩ := super_go (N := ["self", "zero", "one", "characteristic", "size"]) (C := He.ga K "Fractions") (ns := []) (sl := fun _ => []) (f2 := He.ma K (He.ga K "Ring") "__init__") (args2 := fun p a => [.val (yV (.ref p)) (), .val (yP yI yI) a.1, .val (yP yI yI) a.2]) (pre2 := fun _ => True) (c2 := fun _ => cO (He.ga K "Fractions") [] []) (cc2 := fun a => cO (He.ga K "Fractions") ["zero", "one"] [.val (yP yI yI) a.1, .val (yP yI yI) a.2]) (m2 := fun a => ((), a)) (tA := tCons (tVar 1) (tCons (tVar 2) tNil)) (t := tSeq (sFld K (tVar 0) (tVar 3) "characteristic") (tSeq (sFld K (tVar 0) (tVar 4) "size") tNext)) hsp (fun p a => ⟨_, rfl⟩)
    (fun F p a rt _ => ⟨(a.1, a.2.1), _, ea_cons (t := yP yI yI) (a := a.1) ev_var (ea_cons (t := yP yI yI) (a := a.2.1) ev_var ea_nil), rfl, rfl, trivial, by
      refine b_fld 0 (t := yI) (a := a.2.2.1) ev_var ev_var rfl T.cl_Fractions T.na_Fractions_characteristic (by decide) (by decide) ?_
      refine b_fld 0 (t := yI) (a := a.2.2.2) ev_var ev_var rfl T.cl_Fractions T.na_Fractions_size (by decide) (by decide) ?_
      exact b_next fun h => nx_end (h _)⟩)
  exact ⟨x, _, dx, _, fs, fd2, _, _, _, h1, h2, T.sp_Fractions_Field, F2, Nat.le_refl _, b2, pa_cons (pv 1) (pa_cons (pv 2) pa_nil), pss_cons (ps_fld (pv 0) (pv 3) rfl) (pss_cons (ps_fld (pv 0) (pv 4) rfl) pss_nil), passL, h3⟩
theorem mk_Fractions (T : Tx P K mg) : Mkr P w K mg base 3 "Fractions" (He.ga K "Fractions") (spP (fun p (_ : Unit) => [.val (yV (.ref p)) ()]) (fun _ => cO (He.ga K "Fractions") [] []) (fun _ : Unit => cO (He.ga K "Fractions") ns_Fractions [.val (yP yI yI) ((0, 1) : Int × Int), .val (yP yI yI) ((1, 1) : Int × Int), .val yI (0 : Int), .val yI (0 : Int)]) (fun _ => True) yN (fun _ => ((), ()))) := by
  obtain ⟨cda, cc, oc, od, osl, kV, doc, pm, an, ct, lk, hcd, SF⟩ := T.si_Fractions
  obtain ⟨fd2, F2, b2⟩ := init_FieldQ (P := P) (w := w) (base := base) T
  refine ⟨_, _, ["self"], T.mk_Fractions, fn_super (k := 2) (k2 := 2) (sp2 := spFieldQ (He.ga K "Fractions")) (N := ["self"]) (me := "self") (ar := ?ar) lk hcd ⟨rfl, rfl, rfl, by decide +kernel, rfl, by decide +kernel, by decide +kernel, by decide +kernel, rfl, rfl, rfl⟩ SF ?h1 ?h2 T.b_super (by decide) rfl (fun env => rfl) (fun env => rfl) (fun env => rfl) (lenP fun _ _ => rfl) (fun A outer s H vs Q E hr hsp => ?_), T.gc_Fractions, .all fun us hl => match us, hl with | [_], _ => rfl⟩
  case h1 => rfl
  case h2 => rfl
  obtain ⟨x, dx, fs, h1, h2, h3⟩ := super_go (N := ["self"]) (C := He.ga K "Fractions") (ns := []) (sl := fun _ => []) (f2 := He.ma K (He.ga K "Field") "__init__") (args2 := fun p a => [.val (yV (.ref p)) (), .val (yP yI yI) a.1, .val (yP yI yI) a.2.1, .val yI a.2.2.1, .val yI a.2.2.2]) (pre2 := fun _ => True) (c2 := fun _ => cO (He.ga K "Fractions") [] []) (cc2 := fun a => cO (He.ga K "Fractions") ["zero", "one", "characteristic", "size"] [.val (yP yI yI) a.1, .val (yP yI yI) a.2.1, .val yI a.2.2.1, .val yI a.2.2.2]) (m2 := fun a => ((), a)) (tA := tCons (tTup (tCons (tC (.int 0)) (tCons (tC (.int 1)) tNil))) (tCons (tTup (tCons (tC (.int 1)) (tCons (tC (.int 1)) tNil))) (tCons (tC (.int 0)) (tCons (tC (.int 0)) tNil)))) (t := tNext) hsp (fun p a => ⟨_, rfl⟩)
    (fun F p a rt _ => ⟨((0, 1), (1, 1), 0, 0), _, ea_cons (ev_pair (ea_cons ev_int (ea_cons ev_int ea_nil))) (ea_cons (ev_pair (ea_cons ev_int (ea_cons ev_int ea_nil))) (ea_cons ev_int (ea_cons ev_int ea_nil))), rfl, rfl, trivial, b_next fun h => nx_end (h _)⟩)
  exact ⟨x, _, dx, _, fs, fd2, _, _, _, h1, h2, T.sp_Fractions_Fractions, F2, Nat.le_refl _, b2, pa_cons (pe_tup (pa_cons pe_int (pa_cons pe_int pa_nil))) (pa_cons (pe_tup (pa_cons pe_int (pa_cons pe_int pa_nil))) (pa_cons pe_int (pa_cons pe_int pa_nil))), pss_nil, passL, h3⟩
/-! ### the rational numbers -/
theorem le_pow {a m n : Nat} (h : a ≤ 2 ^ m) (hm : m ≤ n) : a ≤ 2 ^ n := Nat.le_trans h (Nat.pow_le_pow_right (by decide) hm)
theorem pow_add2 {a b m n : Nat} (h : a ≤ 2 ^ m) (k : b ≤ 2 ^ n) : a + b ≤ 2 ^ (max m n + 1) := by
  have h1 := le_pow h (Nat.le_max_left m n)
  have h2 := le_pow k (Nat.le_max_right m n)
  rw [Nat.pow_succ]
  omega
theorem pow_mul2 {a b m n : Nat} (h : a ≤ 2 ^ m) (k : b ≤ 2 ^ n) : a * b ≤ 2 ^ (m + n) := by
  rw [Nat.pow_add]
  exact Nat.mul_le_mul h k
/-- integers -/
def msZ : Ms Int where
  bd n _ x := x.natAbs ≤ 2 ^ n
  zero := by decide
  one := by decide
  mono h h1 _ := le_pow h h1
  add {n d n' d' x y} h k := Nat.le_trans (Int.natAbs_add_le x y) (le_pow (pow_add2 h k) (by omega))
  sub {n d n' d' x y} h k := Nat.le_trans (Int.natAbs_sub_le x y) (le_pow (pow_add2 h k) (by omega))
  neg {n d x} h := by rw [Int.natAbs_neg]; exact h
  mul {n d n' d' x y} h k := by rw [Int.natAbs_mul]; exact pow_mul2 h k
theorem div_num (n d : Int) : (Rat.divInt n d).num.natAbs ≤ n.natAbs := by
  rw [Rat.num_divInt]
  refine Nat.le_trans (Int.natAbs_ediv_le_natAbs _ _) ?_
  rw [Int.natAbs_mul]
  have : d.sign.natAbs ≤ 1 := by
    rcases Int.lt_trichotomy d 0 with h | h | h
    · rw [Int.sign_eq_neg_one_of_neg h]; decide
    · rw [h]; decide
    · rw [Int.sign_eq_one_of_pos h]; decide
  calc d.sign.natAbs * n.natAbs ≤ 1 * n.natAbs := Nat.mul_le_mul_right _ this
    _ = n.natAbs := Nat.one_mul _
theorem div_den (n : Int) {d : Int} (h : d ≠ 0) : (Rat.divInt n d).den ≤ d.natAbs := by
  rw [Rat.den_divInt, if_neg h]
  exact Nat.div_le_self _ _
theorem fr_den' (x : Rat) : (fr x).2.natAbs = x.den := rfl
theorem fr_mul0 (x y : Rat) : (fr x).2 * (fr y).2 ≠ 0 := Int.mul_ne_zero (fr_den x) (fr_den y)
theorem den_mul (x y : Rat) : ((fr x).2 * (fr y).2).natAbs = x.den * y.den := by rw [Int.natAbs_mul]; rfl
def bdR (n d : Nat) (x : Rat) : Prop := x.num.natAbs ≤ 2 ^ n ∧ x.den ≤ 2 ^ d
theorem bdR_add {n d n' d' : Nat} {x y : Rat} (h : bdR n d x) (k : bdR n' d' y) : bdR (max (n + d') (n' + d) + 1) (d + d') (x + y) := by
  rw [← fr_add]
  refine ⟨Nat.le_trans (div_num _ _) ?_, Nat.le_trans (div_den _ (fr_mul0 x y)) ?_⟩
  · refine Nat.le_trans (Int.natAbs_add_le _ _) ?_
    rw [Int.natAbs_mul, Int.natAbs_mul]
    exact pow_add2 (pow_mul2 h.1 k.2) (pow_mul2 k.1 h.2)
  · rw [den_mul]
    exact pow_mul2 h.2 k.2
theorem bdR_neg {n d : Nat} {x : Rat} (h : bdR n d x) : bdR n d (-x) := ⟨by show (-x.num).natAbs ≤ _; rw [Int.natAbs_neg]; exact h.1, h.2⟩
/-- rational numbers -/
def msR : Ms Rat where
  bd := bdR
  zero := ⟨by decide, by decide⟩
  one := ⟨by decide, by decide⟩
  mono h h1 h2 := ⟨le_pow h.1 h1, le_pow h.2 h2⟩
  add := bdR_add
  sub {n d n' d' x y} h k := by
    rw [Rat.sub_eq_add_neg]
    exact bdR_add h (bdR_neg k)
  neg := bdR_neg
  mul {n d n' d' x y} h k := by
    show bdR _ _ (x * y)
    rw [← fr_mul]
    refine ⟨Nat.le_trans (div_num _ _) ?_, Nat.le_trans (div_den _ (fr_mul0 x y)) ?_⟩
    · rw [Int.natAbs_mul]
      exact pow_mul2 h.1 k.1
    · rw [den_mul]
      exact pow_mul2 h.2 k.2
theorem bdR_inv {n d : Nat} {x : Rat} (h : bdR n d x) : bdR d n x⁻¹ := by
  by_cases h0 : x = 0
  · subst h0
    refine ⟨?_, ?_⟩
    · show (0 : Rat)⁻¹.num.natAbs ≤ _
      rw [Rat.inv_zero]
      exact Nat.zero_le _
    · rw [Rat.inv_zero]
      exact Nat.one_le_two_pow
  · rw [← fr_inv]
    have h1 : (fr x).1 ≠ 0 := fun z => h0 ((fr_zero x).mp z)
    exact ⟨Nat.le_trans (div_num _ _) h.2, Nat.le_trans (div_den _ h1) h.1⟩
theorem sz_of {n : Nat} {x : Int} (h : x.natAbs ≤ 2 ^ n) : Sz (n + 1) x := by
  unfold Sz
  rw [Nat.pow_succ]
  have := Nat.two_pow_pos n
  omega
theorem sz_num {x : Rat} (h : bdR 3000 3000 x) : Sz 4000 (fr x).1 ∧ Sz 4000 (fr x).2 := ⟨sz_mono (sz_of h.1) (by decide), sz_mono (sz_of h.2) (by decide)⟩
/-- a rational number told as a pair in lowest terms -/
def yR : Ty Rat := ⟨fun H v x => (yP yI yI).rp H v (fr x), fun s h => (yP yI yI).mono s h⟩
instance datQ : Dat yR K := {
  toD := fun x => .tuple [.int (fr x).1, .int (fr x).2]
  dp := fun s ⟨p, v, w, e, h, r1, r2⟩ => by rw [e]; exact .tup (SqT.of (s _ _ h)) (.cons (by rw [show v = _ from r1]; exact .int _) (.cons (by rw [show w = _ from r2]; exact .int _) .nil))
  dep := 3
  sh := fun ⟨_, _, _, _, _, r1, r2⟩ => by
    refine ⟨?_, ?_⟩
    · simp [PyData.canLay0, PyData.canLayAll0]
    · simp [PyData.depth, PyData.depthAll]
  eq := fun x y => by
    show (PyData.eqv (.int (fr x).1) (.int (fr y).1) && (PyData.eqv (.int (fr x).2) (.int (fr y).2) && true)) = _
    rw [eqv_int, eqv_int]
    by_cases h : x = y
    · subst h; simp
    · rw [decide_eq_false h]
      by_cases h1 : (fr x).1 = (fr y).1
      · by_cases h2 : (fr x).2 = (fr y).2
        · exact absurd (fr_inj.mp (Prod.ext h1 h2)) h
        · simp [h2]
      · simp [h1] }
theorem rat_plus (r : Unit) (x y : Rat) : m_Fractions_plus r (fr x) (fr y) = some (fr (x + y)) := by
  unfold m_Fractions_plus
  rw [fraction_val _ _ _ (fr_mul0 x y), fr_add]
theorem rat_minus (r : Unit) (x y : Rat) : m_Fractions_minus r (fr x) (fr y) = some (fr (x - y)) := by
  unfold m_Fractions_minus
  rw [fraction_val _ _ _ (fr_mul0 x y), fr_sub]
theorem rat_times (r : Unit) (x y : Rat) : m_Fractions_times r (fr x) (fr y) = some (fr (x * y)) := by
  unfold m_Fractions_times
  rw [fraction_val _ _ _ (fr_mul0 x y), fr_mul]
theorem rat_inv (r : Unit) (x : Rat) (h : x ≠ 0) : m_Fractions_inv r (fr x) = some (fr x⁻¹) := by
  unfold m_Fractions_inv
  rw [fraction_val _ _ _ (fun z => h ((fr_zero x).mp z)), fr_inv]
/-- the field of fractions -/
def rgQ (T : Tx P K mg) : Fg P w K mg base Rat where
  t := yR
  dat := datQ
  dep := by show _ ≤ 3; exact Nat.le_of_ble_eq_true rfl
  m := msR
  C := He.ga K "Fractions"
  r := yFix (y_Fractions K) ()
  cl := T.cl_Fractions
  obj {B v} h := by
    obtain ⟨a, dx, vs, e, hb, hk⟩ := h
    obtain ⟨z0, l0, v0, e0, r0⟩ := fld_at (f := "zero") (i := 0) hk nd_Fractions rfl rfl
    obtain ⟨z1, l1, v1, e1, r1⟩ := fld_at (f := "one") (i := 1) hk nd_Fractions rfl rfl
    cases e0
    cases e1
    exact ⟨a, dx, vs, e, hb, fun m hm => fld_none hk (by revert m; decide), ⟨z0, l0, r0⟩, ⟨z1, l1, r1⟩⟩
  na0 := T.na_Fractions_zero
  na1 := T.na_Fractions_one
  plus := (ok_Fractions_plus T).imp (spOF_cv (fun a : Rat × Rat => ((), fr a.1, fr a.2)) (fun a B vs _ => aok_cv (by exact fun r => r) (aok_cv (by exact fun r => r) (aok_cv (by exact fun r => r) fun h => h))) (fun a h => ⟨(sz_num h.1).1, (sz_num h.1).2, (sz_num h.2).1, (sz_num h.2).2⟩) fun a _ => ⟨_, rat_plus () a.1 a.2, fun B v r => r⟩)
  minus := (ok_Fractions_minus T).imp (spOF_cv (fun a : Rat × Rat => ((), fr a.1, fr a.2)) (fun a B vs _ => aok_cv (by exact fun r => r) (aok_cv (by exact fun r => r) (aok_cv (by exact fun r => r) fun h => h))) (fun a h => ⟨(sz_num h.1).1, (sz_num h.1).2, (sz_num h.2).1, (sz_num h.2).2⟩) fun a _ => ⟨_, rat_minus () a.1 a.2, fun B v r => r⟩)
  times := (ok_Fractions_times T).imp (spOF_cv (fun a : Rat × Rat => ((), fr a.1, fr a.2)) (fun a B vs _ => aok_cv (by exact fun r => r) (aok_cv (by exact fun r => r) (aok_cv (by exact fun r => r) fun h => h))) (fun a h => ⟨(sz_num h.1).1, (sz_num h.1).2, (sz_num h.2).1, (sz_num h.2).2⟩) fun a _ => ⟨_, rat_times () a.1 a.2, fun B v r => r⟩)
  negated := (ok_Fractions_negated T).imp (spF_cv (fun a : Rat => ((), fr a)) (fun a B vs _ => aok_cv (by exact fun r => r) (aok_cv (by exact fun r => r) fun h => h)) (fun a h => trivial) fun a B v _ r => r)
  is_zero := (ok_Fractions_is_zero T).imp (spF_cv (fun a : Rat => ((), fr a)) (fun a B vs _ => aok_cv (by exact fun r => r) (aok_cv (by exact fun r => r) fun h => h)) (fun a h => trivial) fun a B v _ r => by
    have : m_Fractions_is_zero () (fr a) = decide (a = 0) := by
      unfold m_Fractions_is_zero
      exact decide_eq_decide.mpr (fr_zero a)
    rwa [this] at r)
  bd_inv := bdR_inv
  inv := (ok_Fractions_inv T).imp (spOF_cv (fun a : Rat => ((), fr a)) (fun a B vs _ => aok_cv (by exact fun r => r) (aok_cv (by exact fun r => r) fun h => h)) (fun a h => sz_num h.1) fun a h => ⟨_, rat_inv () a h.2, fun B v r => r⟩)
/-! ### the finite fields -/
section
variable {F : FinS} [FinK F]
def yE (F : FinS) : Ty (Ec F) := ⟨fun H v a => yI.rp H v a.1, fun s h => yI.mono s h⟩
instance datE : Dat (yE F) K := {
  toD := fun x => .int x.1
  dp := fun s h => by rw [show _ = _ from h]; exact .int _
  dep := 1
  sh := fun _ => ⟨by simp [PyData.canLay0], by simp [PyData.depth]⟩
  eq := fun x y => by
    rw [eqv_int]
    exact decide_eq_decide.mpr ⟨fun h => Subtype.ext h, fun h => congrArg Subtype.val h⟩ }
theorem c_t (x y : Ec F) : m_Finite_times F x.1 y.1 = (x * y).1 := rfl
theorem c_p (x y : Ec F) : m_Finite_plus F x.1 y.1 = (x + y).1 := rfl
theorem c_n (x : Ec F) : m_Finite_negated F x.1 = (-x).1 := rfl
theorem c_m (x y : Ec F) : m_Finite_minus F x.1 y.1 = (x - y).1 := (fin_laws FinK.ok x.2 y.2 y.2).2.1.2.2.2.2
theorem c_z (x : Ec F) : x.1 = 0 ↔ x = 0 := ⟨fun h => Subtype.ext h, fun h => congrArg Subtype.val h⟩
theorem c_i (x : Ec F) (h : x ≠ 0) : ∃ b, m_Finite_inv F x.1 = some b ∧ b = (x⁻¹).1 := by
  have h1 : x.1 ≠ 0 := fun z => h ((c_z x).mp z)
  obtain ⟨b, e⟩ := inv_some (F := F) h1
  refine ⟨b, e, ?_⟩
  have e2 := ((fin_laws (FinK.ok (F := F)) x.2 x.2 x.2).1.2.2.2.2 h1).2
  rw [e] at e2
  show b = (if x.1 = 0 then (0 : Int) else fInv F x.1)
  rw [if_neg h1]
  exact Option.some.inj e2
/-- no bounds in a finite field -/
def msF (F : FinS) [FinK F] : Ms (Ec F) where
  bd _ _ _ := True
  zero := trivial
  one := trivial
  mono _ _ _ := trivial
  add _ _ := trivial
  sub _ _ := trivial
  neg _ := trivial
  mul _ _ := trivial
def rgF (T : Tx P K mg) (F : FinS) [FinK F] : Fg P w K mg base (Ec F) where
  t := yE F
  dat := datE
  dep := by show _ ≤ 3; exact Nat.le_of_ble_eq_true rfl
  m := msF F
  C := He.ga K "Finite"
  r := yFix (y_Finite K) F
  cl := T.cl_Finite
  obj {B v} h := by
    obtain ⟨a, dx, vs, e, hb, hk⟩ := h
    obtain ⟨z0, l0, v0, e0, r0⟩ := fld_at (f := "zero") (i := 0) hk nd_Finite rfl rfl
    obtain ⟨z1, l1, v1, e1, r1⟩ := fld_at (f := "one") (i := 1) hk nd_Finite rfl rfl
    cases e0
    cases e1
    exact ⟨a, dx, vs, e, hb, fun m hm => fld_none hk (by revert m; decide), ⟨z0, l0, r0⟩, ⟨z1, l1, r1⟩⟩
  na0 := T.na_Finite_zero
  na1 := T.na_Finite_one
  plus := (ok_Finite_plus T).imp (spF_cv (fun a : Ec F × Ec F => (F, a.1.1, a.2.1)) (fun a B vs _ => aok_cv (by exact fun r => r) (aok_cv (by exact fun r => r) (aok_cv (by exact fun r => r) fun h => h))) (fun a _ => ⟨FinK.ok, a.1.2, a.2.2⟩) fun a B v _ r => r)
  minus := (ok_Finite_minus T).imp (spF_cv (fun a : Ec F × Ec F => (F, a.1.1, a.2.1)) (fun a B vs _ => aok_cv (by exact fun r => r) (aok_cv (by exact fun r => r) (aok_cv (by exact fun r => r) fun h => h))) (fun a _ => ⟨FinK.ok, a.1.2, a.2.2⟩) fun a B v _ r => by
    have r : yI.rp B v (m_Finite_minus F a.1.1 a.2.1) := r
    rw [c_m] at r
    exact r)
  times := (ok_Finite_times T).imp (spF_cv (fun a : Ec F × Ec F => (F, a.1.1, a.2.1)) (fun a B vs _ => aok_cv (by exact fun r => r) (aok_cv (by exact fun r => r) (aok_cv (by exact fun r => r) fun h => h))) (fun a _ => ⟨FinK.ok, a.1.2, a.2.2⟩) fun a B v _ r => r)
  negated := (ok_Finite_negated T).imp (spF_cv (fun a : Ec F => (F, a.1)) (fun a B vs _ => aok_cv (by exact fun r => r) (aok_cv (by exact fun r => r) fun h => h)) (fun a _ => ⟨FinK.ok, a.2⟩) fun a B v _ r => r)
  is_zero := (ok_Finite_is_zero T).imp (spF_cv (fun a : Ec F => (F, a.1)) (fun a B vs _ => aok_cv (by exact fun r => r) (aok_cv (by exact fun r => r) fun h => h)) (fun a _ => trivial) fun a B v _ r => by
    have : m_Finite_is_zero F a.1 = decide (a = 0) := by
      unfold m_Finite_is_zero
      exact decide_eq_decide.mpr (c_z a)
    have r : yB.rp B v (m_Finite_is_zero F a.1) := r
    rwa [this] at r)
  bd_inv _ := trivial
  inv := (ok_Finite_inv T).imp (spOF_cv (fun a : Ec F => (F, a.1)) (fun a B vs _ => aok_cv (by exact fun r => r) (aok_cv (by exact fun r => r) fun h => h)) (fun a _ => ⟨FinK.ok, a.2⟩) fun a h => by
    obtain ⟨b, e, e2⟩ := c_i a h.2
    exact ⟨b, e, fun B v r => by rw [e2] at r; exact r⟩)
instance decEl (F : FinS) (n : Int) : Decidable (El F n) := by unfold El; exact inferInstance
def ofF (F : FinS) [FinK F] (n : Int) : Ec F := if h : El F n then ⟨n, h⟩ else 0
theorem ofF_val {n : Int} (h : El F n) : (ofF F n).1 = n := by unfold ofF; rw [dif_pos h]
theorem ofF_0 : ofF F 0 = 0 := Subtype.ext (ofF_val (el_0 FinK.ok))
theorem ofF_1 : ofF F 1 = 1 := Subtype.ext (ofF_val (el_1 FinK.ok))
end
def mmF {F : FinS} {o : Ow} (L : Lk o F) : Mm :=
  haveI : FinK F := ⟨L.fin⟩
  { A := Ec F
    E := Ec F
    ring := (fieldF F).toCommRing
    fld := fieldF F
    of := ofF F
    o := o
    φ := id
    φ0 := rfl
    φ1 := rfl
    φadd := fun _ _ => rfl
    φmul := fun _ _ => rfl
    φneg := fun _ => rfl
    φinj := fun h => h
    of0 := ofF_0
    of1 := ofF_1
    of_ne := fun {n} h0 h1 h => by
      have e := ofF_val (F := F) (n := n) ⟨h0, by rw [← L.q]; exact h1⟩
      rw [h] at e
      exact e.symm
    of_q := fun h => by have := ow_p L.k; omega
    q2 := by have := ow_p L.k; omega
    p0 := by have := ow_p L.k; omega }
def sgF (T : Tx P K mg) {F : FinS} {o : Ow} (L : Lk o F) : Sg P w K mg base (mmF L).A (mmF L).of (mmF L).o :=
  haveI : FinK F := ⟨L.fin⟩
  { t := yE F
    dat := datE
    dep := by show _ ≤ 3; exact Nat.le_of_ble_eq_true rfl
    m := msF F
    okn := fun n => El F n
    ok_of := fun h0 h1 => ⟨h0, by rw [← L.q]; exact h1⟩
    rof := fun {n} hn {H v} h => by
      show yI.rp H v (ofF F n).1
      rw [ofF_val hn]
      exact h
    of0 := ofF_0
    of1 := ofF_1
    bdn := fun _ => trivial
    of_ne := (mmF L).of_ne
    q2 := (mmF L).q2
    plus := (ok_law_plus T).imp (spF_cv (fun a : Ec F × Ec F => (o.1, a.1.1, a.2.1)) (fun a B vs _ => aok_cv (by exact fun r => r) (aok_cv (by exact fun r => r) (aok_cv (by exact fun r => r) fun h => h))) (fun a _ => pre_plus L.k (L.q ▸ a.1.2) (L.q ▸ a.2.2)) fun a B v _ r => by
      have r : yI.rp B v (m_law_plus o.1 a.1.1 a.2.1) := r
      rw [L.pl _ _ a.1.2 a.2.2] at r
      exact r)
    minus := (ok_law_minus T).imp (spF_cv (fun a : Ec F => (o.1, a.1)) (fun a B vs _ => aok_cv (by exact fun r => r) (aok_cv (by exact fun r => r) fun h => h)) (fun a _ => pre_minus L.k (L.q ▸ a.2)) fun a B v _ r => by
      have r : yI.rp B v (m_law_minus o.1 a.1) := r
      rw [L.mi _ a.2] at r
      exact r)
    times := (ok_law_times T).imp (spF_cv (fun a : Ec F × Ec F => (o, a.1.1, a.2.1)) (fun a B vs _ => aok_cv (by exact fun r => r) (aok_cv (by exact fun r => r) (aok_cv (by exact fun r => r) fun h => h))) (fun a _ => ⟨L.k, by rw [L.q]; exact a.1.2, by rw [L.q]; exact a.2.2⟩) fun a B v _ r => by
      have r : yI.rp B v (m_law_times o a.1.1 a.2.1) := r
      rw [L.tm _ _ a.1.2 a.2.2] at r
      exact r) }
theorem rp_PT {α : Type} {t : Ty α} {B : Hp} {v : V} {x : α × α} (h : (yP t t).rp B v x) : (yT t).rp B v [x.1, x.2] := by
  obtain ⟨p, a, b, e, hp, r1, r2⟩ := h
  exact ⟨p, [a, b], e, hp, by show 2 ≤ sizeLine; decide, .cons r1 (.cons r2 .nil)⟩
theorem rp_Tsub {F : FinS} {B : Hp} {v : V} (l : List (Ec F)) (h : (yT yI).rp B v (l.map Subtype.val)) : (yT (yE F)).rp B v l := by
  obtain ⟨p, vs, e, hp, hl, r⟩ := h
  refine ⟨p, vs, e, hp, hl, ?_⟩
  clear e hp hl
  induction l generalizing vs with
  | nil => cases r; exact .nil
  | cons x l ih =>
    cases r with
    | cons r1 r2 => exact .cons r1 (ih _ r2)
theorem rp_Tfr {B : Hp} {v : V} (l : List Rat) (h : (yT (yP yI yI)).rp B v (l.map fr)) : (yT yR).rp B v l := by
  obtain ⟨p, vs, e, hp, hl, r⟩ := h
  refine ⟨p, vs, e, hp, hl, ?_⟩
  clear e hp hl
  induction l generalizing vs with
  | nil => cases r; exact .nil
  | cons x l ih =>
    cases r with
    | cons r1 r2 => exact .cons r1 (ih _ r2)
def mdF (T : Tx P K mg) {F : FinS} {o : Ow} (L : Lk o F) : Md P w K mg base :=
  haveI : FinK F := ⟨L.fin⟩
  { M := mmF L
    S := sgF T L
    R := rgF T F
    bdφ := fun _ => trivial
    aeF := fun _ {a H v} h => h
    aeQ := fun h => by
      have h : o.1 = 0 := h
      have := ow_p L.k
      omega
    okQ := fun h => by
      have h : o.1 = 0 := h
      have := ow_p L.k
      omega
    sameE := (ok_law_same T).imp (spF_cv (fun a : Ec F × Ec F => (a.1.1, a.2.1)) (fun a B vs _ => aok_cv (by exact fun r => r) (aok_cv (by exact fun r => r) fun h => h)) (fun a _ => trivial) fun a B v _ r => by
      have : m_law_same a.1.1 a.2.1 = decide (a.1 = a.2) := by
        unfold m_law_same
        show decide (a.1.1 = a.2.1) = _
        exact decide_eq_decide.mpr ⟨fun h => Subtype.ext h, fun h => congrArg Subtype.val h⟩
      have r : yB.rp B v (m_law_same a.1.1 a.2.1) := r
      rw [this] at r
      exact r) }
/-! ### the integers beside the rational numbers -/
def mmQ : Mm where
  A := Int
  E := Rat
  of n := n
  o := (0, 10, [])
  φ n := (n : Rat)
  φ0 := rfl
  φ1 := rfl
  φadd := Rat.intCast_add
  φmul := Rat.intCast_mul
  φneg := Rat.intCast_neg
  φinj h := Rat.intCast_inj.mp h
  of0 := rfl
  of1 := rfl
  of_ne _ _ h := h
  of_q _ _ h := h
  q2 := by decide
  p0 := by decide
theorem sz_3000 {x : Int} (h : x.natAbs ≤ 2 ^ 3000) : Sz 4000 x := sz_mono (sz_of h) (by decide)
def datZ : Dat yI K := inferInstance
def sgQ (T : Tx P K mg) : Sg P w K mg base mmQ.A mmQ.of mmQ.o where
  t := yI
  dat := datZ
  dep := by show _ ≤ 3; exact Nat.le_of_ble_eq_true rfl
  m := msZ
  okn n := -15 ≤ n ∧ n ≤ 15
  ok_of {n} h0 h1 := by
    have h1 : n < 10 := h1
    omega
  rof := fun {n} _ {H v} h => h
  of0 := rfl
  of1 := rfl
  bdn {n} h := by
    show n.natAbs ≤ 2 ^ 4
    omega
  of_ne _ _ h := h
  q2 := by decide
  plus := (ok_law_plus T).imp (spF_cv (fun a : Int × Int => ((0 : Int), a.1, a.2)) (fun a B vs _ h => h) (fun a _ => .inl rfl) fun a B v _ r => r)
  minus := (ok_law_minus T).imp (spF_cv (fun a : Int => ((0 : Int), a)) (fun a B vs _ h => h) (fun a _ => .inl rfl) fun a B v _ r => r)
  times := (ok_law_times_z T).imp (spF_cv (fun a : Int × Int => (((0, 10, []) : Ow), a.1, a.2)) (fun a B vs _ h => h) (fun a h => ⟨rfl, sz_3000 h.1, sz_3000 h.2⟩) fun a B v _ r => r)
theorem same_pair (a b c d : Int) : m_law_same_t [a, b] [c, d] = (decide (a = c) && decide (b = d)) := by
  have e0 : ∀ x y : Int, ix [x, y] 0 = x := fun _ _ => rfl
  have e1 : ∀ x y : Int, ix [x, y] 1 = y := fun _ _ => rfl
  unfold m_law_same_t
  rw [if_neg Bool.false_ne_true, if_neg (fun h => h.2 rfl), if_neg (fun h => Bool.false_ne_true h.1), if_neg (fun h => h rfl)]
  show (forL _ [0, 1] ()).out _ = _
  unfold m_law_same
  simp only [forL, e0, e1]
  by_cases h1 : a = c <;> by_cases h2 : b = d <;> simp [h1, h2, Stp.bnd, Stp.out]
theorem same_rat (x y : Rat) : m_law_same_t [(fr x).1, (fr x).2] [(fr y).1, (fr y).2] = decide (x = y) := by
  rw [same_pair]
  by_cases h : x = y
  · subst h; simp
  · rw [decide_eq_false h]
    by_cases h1 : (fr x).1 = (fr y).1
    · by_cases h2 : (fr x).2 = (fr y).2
      · exact absurd (fr_inj.mp (Prod.ext h1 h2)) h
      · simp [h2]
    · simp [h1]
theorem rp_Rt {B : Hp} {v : V} {x : Rat} (h : yR.rp B v x) : (yT yI).rp B v [(fr x).1, (fr x).2] := rp_PT h
def mdQ (T : Tx P K mg) : Md P w K mg base where
  M := mmQ
  S := sgQ T
  R := rgQ T
  bdφ {n d a} h := ⟨h, Nat.le_refl _⟩
  aeF h := absurd h (by decide)
  aeQ _ {a H v} h := h
  okQ _ {n} h0 h1 := ⟨h0, h1⟩
  sameE := (ok_law_same_t T).imp (spF_cv (fun a : Rat × Rat => ([(fr a.1).1, (fr a.1).2], [(fr a.2).1, (fr a.2).2])) (fun a B vs _ => aok_cv (by exact fun r => rp_Rt r) (aok_cv (by exact fun r => rp_Rt r) fun h => h)) (fun a _ => by show 2 ≤ 1000; decide) fun a B v _ r => by
    exact Eq.mp (congrArg (yB.rp B v) (same_rat a.1 a.2)) r)
theorem cells_pl (c : List Int) : PlB 0 (m_law_cells c) := by
  unfold m_law_cells
  refine ⟨by rw [List.length_append]; show 3 ≤ 3 + _; omega, ?_, ?_, ?_⟩
  · have : ix ([(0 : Int), 0, 2] ++ List.map (fun (cell_1 : Int) => ((Int.natAbs cell_1 : Nat) : Int)) c) 2 = 2 := by
      unfold ix atI ixN
      rw [if_pos (by decide), if_pos (by rw [List.length_append]; show (2 : Int) < ((3 + _ : Nat) : Int); omega)]
      rfl
    exact Int.le_of_eq this.symm
  · have : ix ([(0 : Int), 0, 2] ++ List.map (fun (cell_1 : Int) => ((Int.natAbs cell_1 : Nat) : Int)) c) 0 = 0 := by
      unfold ix atI ixN
      rw [if_pos (by decide), if_pos (by rw [List.length_append]; show (0 : Int) < ((3 + _ : Nat) : Int); omega)]
      rfl
    exact Int.le_of_eq this.symm
  · have : ix ([(0 : Int), 0, 2] ++ List.map (fun (cell_1 : Int) => ((Int.natAbs cell_1 : Nat) : Int)) c) 0 = 0 := by
      unfold ix atI ixN
      rw [if_pos (by decide), if_pos (by rw [List.length_append]; show (0 : Int) < ((3 + _ : Nat) : Int); omega)]
      rfl
    exact Int.le_of_eq this
/-! ### the choices -/
theorem six_all : ∀ x ∈ List.zip menu6 (List.zip owns6 sixF), finOf x.1.1 x.1.2 = x.2.2 ∧ m_law_tables x.1.1 x.1.2 = x.2.1 ∧ (m_is_irreducible x.1.1 x.1.2 = true ∧ m_power_of x.1.1 ((x.1.2.length : Int) - 1) ≤ 1024 ∧ m_is_prime x.1.1 = true ∧ (x.1.1, x.1.2, m_checked_size x.1.1 x.1.2) ∈ mdSix ∧ 2 ≤ x.1.2.length ∧ x.1.2.length ≤ 11) ∧ ix x.1.2 (-1) = 1 ∧ (∀ z ∈ x.1.2, 0 ≤ z ∧ z < x.1.1) ∧ 2 ≤ x.1.1 ∧ x.1.1 ≤ 997 := by decide +kernel
theorem six_get : ∀ x ∈ menu6, ∃ y ∈ List.zip menu6 (List.zip owns6 sixF), x = y.1 := by decide +kernel
theorem prime_is : ∀ n ∈ rng 2 996, primeB n.toNat = true → m_is_prime n = true := by decide +kernel
theorem irr_one {p c : Int} : m_is_irreducible p [c, 1] = true := by
  unfold m_is_irreducible
  dsimp only [bnd]
  have e : rng 0 (Int.toNat (((([c, 1] : List Int).length : Int) - 1) / 2)) = [] := by
    show rng 0 (Int.toNat (((2 : Int) - 1) / 2)) = []
    rfl
  rw [e]
  rfl
theorem pow_one {p : Int} : m_power_of p 1 = p := by
  show (1 : Int) * p = p
  omega
theorem size_one {p c : Int} (h0 : 0 ≤ c) (h1 : c < p) (h2 : 2 ≤ p) (h3 : p ≤ 997) : m_checked_size p [c, 1] = p := by
  unfold m_checked_size
  rw [if_neg (fun h => h ⟨by show (2 : Int) ≤ 2; decide, by show (2 : Int) ≤ 11; decide⟩)]
  rw [forL_unit (xs := [c, 1]) (fun x hx => if_neg (fun h => h (by
    simp only [List.mem_cons, List.not_mem_nil, or_false] at hx
    rcases hx with e | e <;> rw [e] <;> omega)))]
  show (if ¬ ix [c, 1] (-1) = 1 then default else bnd (m_power_of p 1) fun size_1 => if 1024 < size_1 then default else if ¬ m_is_irreducible p [c, 1] = true then default else size_1) = p
  rw [if_neg (fun h => h rfl), pow_one]
  show (if 1024 < p then default else if ¬ m_is_irreducible p [c, 1] = true then default else p) = p
  rw [if_neg (by omega), if_neg (fun h => h irr_one)]
theorem finOf_one {p c : Int} (h0 : 0 ≤ c) (h1 : c < p) (h2 : 2 ≤ p) (h3 : p ≤ 997) : finOf p [c, 1] = ⟨p, 1, p, [c, 1], [], [], []⟩ := by
  unfold finOf
  rw [if_neg (by show ¬ (1 : Int) < 2 - 1; decide), size_one h0 h1 h2 h3]
  rfl
theorem tab_one {p c : Int} : m_law_tables p [c, 1] = (p, p, []) := by
  unfold m_law_tables
  dsimp only [bnd]
  show (if p < 1 * p then _ else (p, 1 * p, [])) = _
  rw [Int.one_mul, if_neg (Int.lt_irrefl p)]
theorem lk_choice {p : Int} {m : List Int} (h : MdG p m) : Lk (m_law_tables p m) (finOf p m) := by
  rcases h with h | ⟨⟨h1, h2, h3⟩, c, h4, h5, rfl⟩
  · obtain ⟨x, hx, e⟩ := six_get _ h
    obtain ⟨a1, a2, _⟩ := six_all x hx
    have e1 : p = x.1.1 := congrArg Prod.fst e
    have e2 : m = x.1.2 := congrArg Prod.snd e
    rw [e1, e2, a1, a2]
    exact lk_of (lk_six x.2 (List.of_mem_zip hx).2)
  · rw [tab_one, finOf_one h4 h5 h1 h2]
    exact lk_prime h1 h2 h3 h4 h5
theorem mk_ok {p : Int} {m : List Int} (h : MdG p m) : MkP p m := by
  rcases h with h | ⟨⟨h1, h2, h3⟩, c, h4, h5, rfl⟩
  · obtain ⟨x, hx, e⟩ := six_get _ h
    obtain ⟨_, _, ⟨a3, a4, a5, a6, a7, a7'⟩, a8, a9, a10, a11⟩ := six_all x hx
    have e1 : p = x.1.1 := congrArg Prod.fst e
    have e2 : m = x.1.2 := congrArg Prod.snd e
    rw [e1, e2]
    exact ⟨⟨⟨a10, a11, a5, a7, a7', a9, a8⟩, a3, a4⟩, fun _ => a6⟩
  · have hp := prime_is p (rng_in (by omega) (by omega)) h3
    refine ⟨⟨⟨h1, h2, hp, by show 2 ≤ 2; omega, by show 2 ≤ 11; omega, fun z hz => ?_, rfl⟩, irr_one, ?_⟩, fun z => ?_⟩
    · simp only [List.mem_cons, List.not_mem_nil, or_false] at hz
      rcases hz with hz | hz <;> rw [hz] <;> omega
    · show m_power_of p 1 ≤ 1024
      rw [pow_one]
      omega
    · have z : (1 : Int) < 2 - 1 := z
      omega
theorem ratio_F {F : FinS} [FinK F] {o : Ow} (L : Lk o F) (a : Ec F × Ec F) {B : Hp} {v : V} (r : (ySum yN (yT yI)).rp B v (m_law_ratio_f o (a.1.1, a.2.1))) : (ySum yN (yT (yE F))).rp B v (ratioG (id : Ec F → Ec F) a) := by
  unfold m_law_ratio_f at r
  dsimp only [bnd] at r
  unfold ratioG
  by_cases h1 : a.1 = 0 ∧ a.2 = 0
  · rw [if_pos ⟨(c_z _).mpr h1.1, (c_z _).mpr h1.2⟩] at r
    rw [if_pos h1]
    exact r
  · rw [if_neg (fun z => h1 ⟨(c_z _).mp z.1, (c_z _).mp z.2⟩)] at r
    rw [if_neg h1]
    by_cases h2 : a.2 = 0
    · rw [if_pos ((c_z _).mpr h2)] at r
      rw [if_pos h2]
      exact rp_Tsub [(1 : Ec F), 0] r
    · rw [if_neg (fun z => h2 ((c_z _).mp z))] at r
      rw [if_neg h2]
      have e : m_law_times o a.1.1 (m_law_inverse o a.2.1) = (a.1 / a.2).1 := by
        obtain ⟨b, e1, e2⟩ := c_i a.2 h2
        rw [L.iv _ a.2.2 (fun z => h2 ((c_z _).mp z)), e1, show oget (some b) = b from rfl, e2, L.tm _ _ a.1.2 (a.2⁻¹).2]
        rfl
      rw [e] at r
      exact rp_Tsub [a.1 / a.2, 1] r
theorem ratio_Q (a : Int × Int) {B : Hp} {v : V} (r : (ySum yN (yT (yP yI yI))).rp B v (m_law_ratio_q ((0, 10, []) : Ow) a)) : (ySum yN (yT yR)).rp B v (ratioG (fun n : Int => (n : Rat)) a) := by
  unfold m_law_ratio_q at r
  dsimp only [bnd] at r
  unfold ratioG
  by_cases h1 : a.1 = 0 ∧ a.2 = 0
  · rw [if_pos h1] at r
    rw [if_pos h1]
    exact r
  · rw [if_neg h1] at r
    rw [if_neg h1]
    by_cases h2 : a.2 = 0
    · rw [if_pos h2] at r
      rw [if_pos h2]
      exact rp_Tfr [(1 : Rat), 0] r
    · rw [if_neg h2] at r
      rw [if_neg h2]
      rw [law_fraction_val _ _ h2, Rat.divInt_eq_div] at r
      exact rp_Tfr [(a.1 : Rat) / (a.2 : Rat), 1] r
theorem rat_over (r : Unit) (x y : Rat) (h : y ≠ 0) : m_Fractions_over r (fr x) (fr y) = some (fr (x / y)) := by
  unfold m_Fractions_over
  have h1 : (fr y).1 ≠ 0 := fun z => h ((fr_zero y).mp z)
  rw [fraction_val _ _ _ (Int.mul_ne_zero (fr_den x) h1)]
  have e : Rat.divInt ((fr x).1 * (fr y).2) ((fr x).2 * (fr y).1) = x / y := by
    have h2 : (fr y⁻¹) = (fr y⁻¹) := rfl
    rw [Rat.div_def, ← fr_inv y]
    have e1 := Rat.divInt_mul_divInt (fr x).1 (fr y).2 (d₁ := (fr x).2) (d₂ := (fr y).1)
    rw [← e1]
    congr 1
    exact Rat.num_divInt_den x
  rw [e]
def mdrF (T : Tx P K mg) {F : FinS} {o : Ow} (L : Lk o F) : MdR P w K mg base :=
  haveI : FinK F := ⟨L.fin⟩
  { toMd := mdF T L
    ov := (ok_Finite_over T).imp (spF_cv (fun a : Ec F × Ec F => (F, a.1.1, a.2.1)) (fun a B vs _ => aok_cv (by exact fun r => r) (aok_cv (by exact fun r => r) (aok_cv (by exact fun r => r) fun h => h))) (fun a h => ⟨FinK.ok, a.1.2, a.2.2, fun z => h.2 ((c_z a.2).mp z)⟩) fun a B v h r => by
      obtain ⟨b, e, e2⟩ := c_i a.2 h.2
      have r : yI.rp B v (m_Finite_times F a.1.1 (oget (m_Finite_inv F a.2.1))) := r
      rw [e, show oget (some b) = b from rfl, e2] at r
      exact r)
    ratio := (ok_law_ratio_f T).imp (spF_cv (fun a : Ec F × Ec F => (o, (a.1.1, a.2.1))) (fun a B vs _ => aok_cv (by exact fun r => r) (aok_cv (by exact fun r => rp_PP (by exact fun q => q) (by exact fun q => q) r) fun h => h)) (fun a _ => ⟨L.k, by rw [L.q]; exact a.1.2, by rw [L.q]; exact a.2.2⟩) fun a B v _ r => ratio_F L a r) }
def mdrQ (T : Tx P K mg) : MdR P w K mg base where
  toMd := mdQ T
  ov := (ok_Fractions_over T).imp (spOF_cv (fun a : Rat × Rat => ((), fr a.1, fr a.2)) (fun a B vs _ => aok_cv (by exact fun r => r) (aok_cv (by exact fun r => r) (aok_cv (by exact fun r => r) fun h => h))) (fun a h => ⟨(sz_num h.1.1).1, (sz_num h.1.1).2, (sz_num h.1.2).1, (sz_num h.1.2).2⟩) fun a h => ⟨_, rat_over () a.1 a.2 h.2, fun B v r => r⟩)
  ratio := (ok_law_ratio_q T).imp (spF_cv (fun a : Int × Int => (((0, 10, []) : Ow), a)) (fun a B vs _ h => h) (fun a h => ⟨rfl, sz_mono (sz_of h.2) (by decide)⟩) fun a B v _ r => ratio_Q a r)
noncomputable def m_side_F (pool : List Int) (F : FinS) (o : Ow) : Bool × List Int := open Classical in if h : Lk o F then m_law_side_g (mmF h) pool else default
def m_side_Q (pool : List Int) (_ : Unit) (_ : Ow) : Bool × List Int := m_law_side_g mmQ pool
theorem ok_side_F (T : Tx P K mg) : Cl P w K mg base 23 "_law_side" (spP (fun (p : Addr) (a : List Int × FinS × Ow) => [.val (yV (.ref p)) (), .val (y_Finite K) a.2.1, .val yOw a.2.2]) (fun a => cL yI a.1) (fun s => cL yI s) (fun a => Lk a.2.2 a.2.1 ∧ PlB 4000 a.1) yB (fun a => m_side_F a.1 a.2.1 a.2.2)) := by
  refine (ok_law_side_g T).cl fun vs H Q E h => ?_
  obtain ⟨M, p, a, o, h1, h2, h3, h4, h5, h6, h7⟩ := h
  refine ⟨mdrF T h6.1, M, p, a.1, o, h1, h2, h3, h4, ?_, h6.2, ?_⟩
  · exact aok_cv (by exact fun r => r) (aok_cv (by exact fun r => r) (aok_cv (by exact fun r => r) fun h => h)) h5
  · have e : m_side_F a.1 a.2.1 a.2.2 = m_law_side_g (mmF h6.1) a.1 := by unfold m_side_F; rw [dif_pos h6.1]
    dsimp only at h7
    rw [e] at h7
    exact h7
theorem ok_side_Q (T : Tx P K mg) : Cl P w K mg base 23 "_law_side" (spP (fun (p : Addr) (a : List Int × Unit × Ow) => [.val (yV (.ref p)) (), .val (y_Fractions K) a.2.1, .val yOw a.2.2]) (fun a => cL yI a.1) (fun s => cL yI s) (fun a => a.2.2 = (0, 10, []) ∧ PlB 4000 a.1) yB (fun a => m_side_Q a.1 a.2.1 a.2.2)) := by
  refine (ok_law_side_g T).cl fun vs H Q E h => ?_
  obtain ⟨M, p, ⟨pool, u, ow⟩, o, h1, h2, h3, h4, h5, ⟨h6, h6'⟩, h7⟩ := h
  cases h6
  refine ⟨mdrQ T, M, p, pool, o, h1, h2, h3, h4, ?_, h6', h7⟩
  exact aok_cv (by exact fun r => r) (aok_cv (by exact fun r => r) (aok_cv (by exact fun r => r) fun h => h)) h5
theorem p_side_F (w : World) (base : Heap) (T : Tx P K mg) {pool : List Int} {F : FinS} {o : Ow} (hp : Lk o F ∧ PlB 4000 pool) {y : Bool × List Int} (hy : y = m_side_F pool F o) : y.1 = true ∧ Pl2 pool y.2 100 := by
  have e : m_side_F pool F o = m_law_side_g (mmF hp.1) pool := by unfold m_side_F; rw [dif_pos hp.1]
  rw [hy, e]
  exact side_true (i := (mdrF T hp.1 : MdR P w K mg base)) hp.2
theorem p_side_Q (w : World) (base : Heap) (T : Tx P K mg) {pool : List Int} {u : Unit} {o : Ow} (hp : o = (0, 10, []) ∧ PlB 4000 pool) {y : Bool × List Int} (hy : y = m_side_Q pool u o) : y.1 = true ∧ Pl2 pool y.2 100 := by
  rw [hy]
  exact side_true (i := (mdrQ T : MdR P w K mg base)) hp.2

theorem sc_law : FnScope ["script", "pool", "p", "modulus"] ["script"] (defScope s_law) := ⟨rfl, rfl, rfl, by decide +kernel, rfl, by decide +kernel, by decide +kernel⟩
noncomputable def m_law (a_script : (List Int)) : Bool :=
  bnd (m_law_cells (List.take (Int.toNat (63 : Int)) a_script)) fun pool_1 =>
  bnd (m_law_choice pool_1) fun yy_1 =>
  bnd yy_1.1 fun x_1 =>
  bnd (m_side_F yy_1.2 (finOf x_1.1 x_1.2) (m_law_tables x_1.1 x_1.2)) fun yy_2 =>
  (if (¬ (yy_2.1 = true)) then
  false
  else
  bnd (m_side_Q yy_2.2 () ((0 : Int), (10 : Int), ([] : List (List Int)))) fun yy_3 =>
  yy_3.1)

theorem ok_law (T : Tx P K mg) {f : Addr} {fd : FuncData} (FD : FunD K "law" "law" (defArgs s_law) (defBody s_law) (defScope s_law) [] [] f fd) : FnOk P w K mg base (L2.CX P w) 24 f fd ["script"] (spF (fun a : (List Int) => [.val (yF K yI) a]) (fun _ : (List Int) => True) yB (fun a => m_law a)) := by
  refine TL.FunD.okC (N := ["script", "pool", "p", "modulus"]) FD sc_law (lenF fun _ => rfl) fun cdv A outer s H E hr => ?_
  refine ⟨_, (pss_cons (ps_set (i := 1) sc_law.nd rfl (by first | exact .inl rfl | exact .inr rfl) (pe_cl (ok_law_cells T) hr (by decide) (by rfl) passL (pa_cons (pe_slice sl_list (pv 0) po_none (po_some pe_int)) pa_nil))) (pss_cons (ps_asg (pe_cl (ok_law_choice T) hr (by decide) (by rfl) passL (pa_cons (pv 1) pa_nil)) (pg_tupK (K := K) (n := 2) rfl (by rfl) (pgs_cons (pg_name (i := 2) sc_law.nd (by rfl) (by first | exact .inl rfl | exact .inr rfl)) (pgs_cons (pg_name (i := 3) sc_law.nd (by rfl) (by first | exact .inl rfl | exact .inr rfl)) pgs_nil)))) (pss_cons (ps_if (pt_not (pt_val (pe_cl (ok_side_F T) hr (by decide) (by rfl) passL (pa_cons (pv 1) (pa_cons (pe_mkr (mk_Finite T) hr (by decide) (by rfl) passL (pa_cons (pv 2) (pa_cons (pv 3) pa_nil))) (pa_cons (pe_cl (ok_law_tables T) hr (by decide) (by rfl) passL (pa_cons (pv 2) (pa_cons (pv 3) pa_nil))) pa_nil)))))) (pss_cons (ps_ret pe_bl) pss_nil) pss_nil) (pss_cons (ps_ret (pe_cl (ok_side_Q T) hr (by decide) (by rfl) passL (pa_cons (pv 1) (pa_cons (pe_mkr0 (mk_Fractions T) hr (by decide) (by rfl) passL) (pa_cons (pe_lst (pa_cons pe_int (pa_cons pe_int (pa_cons (pe_lst pa_nil) pa_nil)))) pa_nil))))) pss_nil)))), fun vs Q h => run_F (fun F a rt hpre => ?_) vs H Q E h⟩
  show Bd _ _ _ _ _ _ (m_law a)
  unfold m_law
  refine b_flat (l2 := ⟨[.val (yF K yI) a, .any, .any, .any], []⟩) rfl ?_
  refine b_letO (ev_callL (List.take (Int.toNat (63 : Int)) a) (ea_cons (ev_l (evl_uptoF ev_var ev_int (by decide))) ea_nil) rfl (by exact List.length_take_le _ _)) fun p_1 pool_1 hpool_1 => ?_
  have kp : PlB 0 pool_1 := by rw [hpool_1]; exact cells_pl _
  refine b_flat (l2 := ⟨[.val (yF K yI) a, .val (yV (.ref p_1)) (), .any, .any], []⟩) rfl ?_
  refine b_gen fun yy_1 hyy_1 => ?_
  have qyy_1 : PlB 10000 pool_1 := (by decreasing_trivial_pre_omega)
  have pyy_1 := p_choice qyy_1 hyy_1
  refine b_letG (ev_callP 0 pool_1 hyy_1 (ea_cons ev_var ea_nil) rfl rfl rfl qyy_1) (tg_pair (tg_name 2) (tg_name 3)) fun x_1 hx_1 => ?_
  refine b_flat (l2 := ⟨[.val (yF K yI) a, .val (yV (.ref p_1)) (), .val yI x_1.1, .val (yT yI) x_1.2], []⟩) rfl ?_
  refine b_gen fun yy_2 hyy_2 => ?_
  have qyy_2 : Lk (m_law_tables x_1.1 x_1.2) (finOf x_1.1 x_1.2) ∧ PlB 4000 yy_1.2 := (by first | exact ⟨by rw [hx_1]; exact lk_choice pyy_1.1, by decreasing_trivial_pre_omega⟩ | exact ⟨rfl, by decreasing_trivial_pre_omega⟩)
  have pyy_2 := p_side_F w base T qyy_2 hyy_2
  refine b_seq (b_if (tt_not (tt_b (ev_callP 0 (yy_1.2, (finOf x_1.1 x_1.2), (m_law_tables x_1.1 x_1.2)) hyy_2 (ea_cons ev_var (ea_cons (ev_make (ns := ns_Finite) (sl := sl_Finite) (x_1.1, x_1.2) (finOf x_1.1 x_1.2) (ea_cons ev_var (ea_cons ev_var ea_nil)) (fun _ => rfl) (by rw [hx_1]; exact mk_ok pyy_1.1) rfl) (ea_cons (ev_call (x_1.1, x_1.2) (ea_cons ev_var (ea_cons ev_var ea_nil)) rfl (by rw [hx_1]; exact pyy_1.1)) ea_nil))) rfl rfl rfl qyy_2))) (fun h_1 => ?_) (fun h_1 => ?_))
  · refine b_flat (l2 := ⟨[.val (yF K yI) a, .val (yV (.ref p_1)) (), .val yI x_1.1, .val (yT yI) x_1.2], []⟩) rfl ?_
    exact b_seq (b_ret ev_bl (fun h => h _))
  · refine b_fall ?_
    refine b_flat (l2 := ⟨[.val (yF K yI) a, .val (yV (.ref p_1)) (), .val yI x_1.1, .val (yT yI) x_1.2], []⟩) rfl ?_
    refine b_gen fun yy_3 hyy_3 => ?_
    have qyy_3 : ((0 : Int), (10 : Int), ([] : List (List Int))) = (0, 10, []) ∧ PlB 4000 yy_2.2 := (by first | exact ⟨by rw [hx_1]; exact lk_choice pyy_1.1, by decreasing_trivial_pre_omega⟩ | exact ⟨rfl, by decreasing_trivial_pre_omega⟩)
    have pyy_3 := p_side_Q w base T qyy_3 hyy_3
    exact b_seq (b_ret (ev_callP 0 (yy_2.2, (), ((0 : Int), (10 : Int), ([] : List (List Int)))) hyy_3 (ea_cons ev_var (ea_cons (ev_make (ns := ns_Fractions) (sl := sl_Fractions) () () ea_nil (fun _ => rfl) trivial rfl) (ea_cons (ev_h3 (ea_cons ev_int (ea_cons ev_int (ea_cons (ev_l (evl_lst (t := (yL yI)) (xs := []) ea_nil rfl (Nat.zero_le _))) ea_nil)))) ea_nil))) rfl rfl rfl qyy_3) (fun h => h _))

theorem law_true (w : World) (base : Heap) (T : Tx P K mg) (script : List Int) : m_law script = true := by
  unfold m_law
  refine bnd_P (p := fun r => r = true) fun pool hpool => ?_
  have kp : PlB 0 pool := by rw [hpool]; exact cells_pl _
  refine bnd_P (p := fun r => r = true) fun y1 hy1 => ?_
  have p1 := p_choice (pool := pool) (by decreasing_trivial_pre_omega) hy1
  refine bnd_P (p := fun r => r = true) fun x hx => ?_
  refine bnd_P (p := fun r => r = true) fun y2 hy2 => ?_
  have p2 := p_side_F w base T ⟨by rw [hx]; exact lk_choice p1.1, by decreasing_trivial_pre_omega⟩ hy2
  rw [if_neg (fun h => h p2.1)]
  refine bnd_P (p := fun r => r = true) fun y3 hy3 => ?_
  exact (p_side_Q w base T ⟨rfl, by decreasing_trivial_pre_omega⟩ hy3).1


end
/-! ### the head -/
abbrev PR : Program := PySem.Challenge.rw_closefigures_k23_throws.prog
def d0 : He.DefD := ⟨("dot", none), "dot", "dot", defArgs s_dot, defBody s_dot, defScope s_dot, [], []⟩
def d1 : He.DefD := ⟨("cross", none), "cross", "cross", defArgs s_cross, defBody s_cross, defScope s_cross, [], []⟩
def d2 : He.DefD := ⟨("bracket", none), "bracket", "bracket", defArgs s_bracket, defBody s_bracket, defScope s_bracket, [], []⟩
def d3 : He.DefD := ⟨("share", none), "share", "share", defArgs s_share, defBody s_share, defScope s_share, [], []⟩
def d4 : He.DefD := ⟨("throw_pair", none), "throw_pair", "throw_pair", defArgs s_throw_pair, defBody s_throw_pair, defScope s_throw_pair, [], []⟩
def d5 : He.DefD := ⟨("throw", none), "throw", "throw", defArgs s_throw, defBody s_throw, defScope s_throw, [], []⟩
def d6 : He.DefD := ⟨("gcd_pair", none), "gcd_pair", "gcd_pair", defArgs s_gcd_pair, defBody s_gcd_pair, defScope s_gcd_pair, [], []⟩
def d7 : He.DefD := ⟨("power_of", none), "power_of", "power_of", defArgs s_power_of, defBody s_power_of, defScope s_power_of, [], []⟩
def d8 : He.DefD := ⟨("power_modulo", none), "power_modulo", "power_modulo", defArgs s_power_modulo, defBody s_power_modulo, defScope s_power_modulo, [], []⟩
def d9 : He.DefD := ⟨("is_prime", none), "is_prime", "is_prime", defArgs s_is_prime, defBody s_is_prime, defScope s_is_prime, [], []⟩
def d10 : He.DefD := ⟨("check_prime", none), "check_prime", "check_prime", defArgs s_check_prime, defBody s_check_prime, defScope s_check_prime, [], []⟩
def d11 : He.DefD := ⟨("base_digits", none), "base_digits", "base_digits", defArgs s_base_digits, defBody s_base_digits, defScope s_base_digits, [], []⟩
def d12 : He.DefD := ⟨("base_number", none), "base_number", "base_number", defArgs s_base_number, defBody s_base_number, defScope s_base_number, [], []⟩
def d13 : He.DefD := ⟨("trimmed", none), "trimmed", "trimmed", defArgs s_trimmed, defBody s_trimmed, defScope s_trimmed, [], []⟩
def d14 : He.DefD := ⟨("times_modulo", none), "times_modulo", "times_modulo", defArgs s_times_modulo, defBody s_times_modulo, defScope s_times_modulo, [], []⟩
def d15 : He.DefD := ⟨("raised_modulo", none), "raised_modulo", "raised_modulo", defArgs s_raised_modulo, defBody s_raised_modulo, defScope s_raised_modulo, [], []⟩
def d16 : He.DefD := ⟨("_rest", none), "_rest", "_rest", defArgs s_rest, defBody s_rest, defScope s_rest, [], []⟩
def d17 : He.DefD := ⟨("_are_coprime", none), "_are_coprime", "_are_coprime", defArgs s_are_coprime, defBody s_are_coprime, defScope s_are_coprime, [], []⟩
def d18 : He.DefD := ⟨("is_irreducible", none), "is_irreducible", "is_irreducible", defArgs s_is_irreducible, defBody s_is_irreducible, defScope s_is_irreducible, [], []⟩
def d19 : He.DefD := ⟨("_checked_size", none), "_checked_size", "_checked_size", defArgs s_checked_size, defBody s_checked_size, defScope s_checked_size, [], []⟩
def d20 : He.DefD := ⟨("_cycle", none), "_cycle", "_cycle", defArgs s_cycle, defBody s_cycle, defScope s_cycle, [], []⟩
def d21 : He.DefD := ⟨("_all_powers", none), "_all_powers", "_all_powers", defArgs s_all_powers, defBody s_all_powers, defScope s_all_powers, [], []⟩
def d22 : He.DefD := ⟨("_tables", none), "_tables", "_tables", defArgs s_tables, defBody s_tables, defScope s_tables, [], []⟩
def d23 : He.DefD := ⟨("_law_cells", none), "_law_cells", "_law_cells", defArgs s_law_cells, defBody s_law_cells, defScope s_law_cells, [], []⟩
def d24 : He.DefD := ⟨("_law_draw", none), "_law_draw", "_law_draw", defArgs s_law_draw, defBody s_law_draw, defScope s_law_draw, [], []⟩
def d25 : He.DefD := ⟨("_law_prime", none), "_law_prime", "_law_prime", defArgs s_law_prime, defBody s_law_prime, defScope s_law_prime, [], []⟩
def d26 : He.DefD := ⟨("_law_choice", none), "_law_choice", "_law_choice", defArgs s_law_choice, defBody s_law_choice, defScope s_law_choice, [], []⟩
def d27 : He.DefD := ⟨("_law_plus", none), "_law_plus", "_law_plus", defArgs s_law_plus, defBody s_law_plus, defScope s_law_plus, [], []⟩
def d28 : He.DefD := ⟨("_law_minus", none), "_law_minus", "_law_minus", defArgs s_law_minus, defBody s_law_minus, defScope s_law_minus, [], []⟩
def d29 : He.DefD := ⟨("_law_product", none), "_law_product", "_law_product", defArgs s_law_product, defBody s_law_product, defScope s_law_product, [], []⟩
def d30 : He.DefD := ⟨("_law_tables", none), "_law_tables", "_law_tables", defArgs s_law_tables, defBody s_law_tables, defScope s_law_tables, [], []⟩
def d31 : He.DefD := ⟨("_law_times", none), "_law_times", "_law_times", defArgs s_law_times, defBody s_law_times, defScope s_law_times, [], []⟩
def d32 : He.DefD := ⟨("_law_inverse", none), "_law_inverse", "_law_inverse", defArgs s_law_inverse, defBody s_law_inverse, defScope s_law_inverse, [], []⟩
def d33 : He.DefD := ⟨("_law_dot", none), "_law_dot", "_law_dot", defArgs s_law_dot, defBody s_law_dot, defScope s_law_dot, [], []⟩
def d34 : He.DefD := ⟨("_law_cross", none), "_law_cross", "_law_cross", defArgs s_law_cross, defBody s_law_cross, defScope s_law_cross, [], []⟩
def d35 : He.DefD := ⟨("_law_bracket", none), "_law_bracket", "_law_bracket", defArgs s_law_bracket, defBody s_law_bracket, defScope s_law_bracket, [], []⟩
def d36 : He.DefD := ⟨("_law_same", none), "_law_same", "_law_same", defArgs s_law_same, defBody s_law_same, defScope s_law_same, [], []⟩
def d37 : He.DefD := ⟨("_law_vector", none), "_law_vector", "_law_vector", defArgs s_law_vector, defBody s_law_vector, defScope s_law_vector, [], []⟩
def d38 : He.DefD := ⟨("_law_drawn", none), "_law_drawn", "_law_drawn", defArgs s_law_drawn, defBody s_law_drawn, defScope s_law_drawn, [], []⟩
def d39 : He.DefD := ⟨("_law_unlike", none), "_law_unlike", "_law_unlike", defArgs s_law_unlike, defBody s_law_unlike, defScope s_law_unlike, [], []⟩
def d40 : He.DefD := ⟨("_law_beside", none), "_law_beside", "_law_beside", defArgs s_law_beside, defBody s_law_beside, defScope s_law_beside, [], []⟩
def d41 : He.DefD := ⟨("_law_mix", none), "_law_mix", "_law_mix", defArgs s_law_mix, defBody s_law_mix, defScope s_law_mix, [], []⟩
def d42 : He.DefD := ⟨("_law_spanning", none), "_law_spanning", "_law_spanning", defArgs s_law_spanning, defBody s_law_spanning, defScope s_law_spanning, [], []⟩
def d43 : He.DefD := ⟨("_law_carried", none), "_law_carried", "_law_carried", defArgs s_law_carried, defBody s_law_carried, defScope s_law_carried, [], []⟩
def d44 : He.DefD := ⟨("_law_gcd", none), "_law_gcd", "_law_gcd", defArgs s_law_gcd, defBody s_law_gcd, defScope s_law_gcd, [], []⟩
def d45 : He.DefD := ⟨("_law_fraction", none), "_law_fraction", "_law_fraction", defArgs s_law_fraction, defBody s_law_fraction, defScope s_law_fraction, [], []⟩
def d46 : He.DefD := ⟨("_law_products", none), "_law_products", "_law_products", defArgs s_law_products, defBody s_law_products, defScope s_law_products, [], []⟩
def d47 : He.DefD := ⟨("_law_ratio", none), "_law_ratio", "_law_ratio", defArgs s_law_ratio, defBody s_law_ratio, defScope s_law_ratio, [], []⟩
def d48 : He.DefD := ⟨("_law_given", none), "_law_given", "_law_given", defArgs s_law_given, defBody s_law_given, defScope s_law_given, [], []⟩
def d49 : He.DefD := ⟨("_law_answers", none), "_law_answers", "_law_answers", defArgs s_law_answers, defBody s_law_answers, defScope s_law_answers, [], []⟩
def d50 : He.DefD := ⟨("_law_asked", none), "_law_asked", "_law_asked", defArgs s_law_asked, defBody s_law_asked, defScope s_law_asked, [], []⟩
def d51 : He.DefD := ⟨("_law_share", none), "_law_share", "_law_share", defArgs s_law_share, defBody s_law_share, defScope s_law_share, [], []⟩
def d52 : He.DefD := ⟨("_law_side", none), "_law_side", "_law_side", defArgs s_law_side, defBody s_law_side, defScope s_law_side, [], []⟩
def d53 : He.DefD := ⟨("law", none), "law", "law", defArgs s_law, defBody s_law, defScope s_law, [], []⟩
def d54 : He.DefD := ⟨("Finite", some "inv"), "inv", "Finite.inv", defArgs s_Finite_inv, defBody s_Finite_inv, defScope s_Finite_inv, [], []⟩
def d55 : He.DefD := ⟨("Finite", some "is_zero"), "is_zero", "Finite.is_zero", defArgs s_Finite_is_zero, defBody s_Finite_is_zero, defScope s_Finite_is_zero, [], []⟩
def d56 : He.DefD := ⟨("Finite", some "minus"), "minus", "Finite.minus", defArgs s_Finite_minus, defBody s_Finite_minus, defScope s_Finite_minus, [], []⟩
def d57 : He.DefD := ⟨("Finite", some "negated"), "negated", "Finite.negated", defArgs s_Finite_negated, defBody s_Finite_negated, defScope s_Finite_negated, [], []⟩
def d58 : He.DefD := ⟨("Finite", some "of"), "of", "Finite.of", defArgs s_Finite_of, defBody s_Finite_of, defScope s_Finite_of, [], []⟩
def d59 : He.DefD := ⟨("Finite", some "over"), "over", "Finite.over", defArgs s_Finite_over, defBody s_Finite_over, defScope s_Finite_over, [], []⟩
def d60 : He.DefD := ⟨("Finite", some "plus"), "plus", "Finite.plus", defArgs s_Finite_plus, defBody s_Finite_plus, defScope s_Finite_plus, [], []⟩
def d61 : He.DefD := ⟨("Finite", some "times"), "times", "Finite.times", defArgs s_Finite_times, defBody s_Finite_times, defScope s_Finite_times, [], []⟩
def d62 : He.DefD := ⟨("Fractions", some "fraction"), "fraction", "Fractions.fraction", defArgs s_Fractions_fraction, defBody s_Fractions_fraction, defScope s_Fractions_fraction, [], []⟩
def d63 : He.DefD := ⟨("Fractions", some "inv"), "inv", "Fractions.inv", defArgs s_Fractions_inv, defBody s_Fractions_inv, defScope s_Fractions_inv, [], []⟩
def d64 : He.DefD := ⟨("Fractions", some "is_zero"), "is_zero", "Fractions.is_zero", defArgs s_Fractions_is_zero, defBody s_Fractions_is_zero, defScope s_Fractions_is_zero, [], []⟩
def d65 : He.DefD := ⟨("Fractions", some "minus"), "minus", "Fractions.minus", defArgs s_Fractions_minus, defBody s_Fractions_minus, defScope s_Fractions_minus, [], []⟩
def d66 : He.DefD := ⟨("Fractions", some "negated"), "negated", "Fractions.negated", defArgs s_Fractions_negated, defBody s_Fractions_negated, defScope s_Fractions_negated, [], []⟩
def d67 : He.DefD := ⟨("Fractions", some "over"), "over", "Fractions.over", defArgs s_Fractions_over, defBody s_Fractions_over, defScope s_Fractions_over, [], []⟩
def d68 : He.DefD := ⟨("Fractions", some "plus"), "plus", "Fractions.plus", defArgs s_Fractions_plus, defBody s_Fractions_plus, defScope s_Fractions_plus, [], []⟩
def d69 : He.DefD := ⟨("Fractions", some "times"), "times", "Fractions.times", defArgs s_Fractions_times, defBody s_Fractions_times, defScope s_Fractions_times, [], []⟩
def d70 : He.DefD := ⟨("Ring", some "__init__"), "__init__", "Ring.__init__", defArgs s_Ring___init__, defBody s_Ring___init__, defScope s_Ring___init__, [], []⟩
def fn : List He.DefD := [d0, d1, d2, d3, d4, d5, d6, d7, d8, d9, d10, d11, d12, d13, d14, d15, d16, d17, d18, d19, d20, d21, d22, d23, d24, d25, d26, d27, d28, d29, d30, d31, d32, d33, d34, d35, d36, d37, d38, d39, d40, d41, d42, d43, d44, d45, d46, d47, d48, d49, d50, d51, d52, d53, d54, d55, d56, d57, d58, d59, d60, d61, d62, d63, d64, d65, d66, d67, d68, d69, d70]
def fa : List He.Fa := [.glo "dot", .glo "cross", .glo "bracket", .glo "share", .glo "throw_pair", .glo "throw", .glo "gcd_pair", .glo "power_of", .glo "power_modulo", .glo "is_prime", .glo "check_prime", .glo "base_digits", .glo "base_number", .glo "trimmed", .glo "times_modulo", .glo "raised_modulo", .glo "_rest", .glo "_are_coprime", .glo "is_irreducible", .glo "_checked_size", .glo "_cycle", .glo "_all_powers", .glo "_tables", .glo "_law_cells", .glo "_law_draw", .glo "_law_prime", .glo "_law_choice", .glo "_law_plus", .glo "_law_minus", .glo "_law_product", .glo "_law_tables", .glo "_law_times", .glo "_law_inverse", .glo "_law_dot", .glo "_law_cross", .glo "_law_bracket", .glo "_law_same", .glo "_law_vector", .glo "_law_drawn", .glo "_law_unlike", .glo "_law_beside", .glo "_law_mix", .glo "_law_spanning", .glo "_law_carried", .glo "_law_gcd", .glo "_law_fraction", .glo "_law_products", .glo "_law_ratio", .glo "_law_given", .glo "_law_answers", .glo "_law_asked", .glo "_law_share", .glo "_law_side", .glo "law", .meth "Finite" "inv", .meth "Finite" "is_zero", .meth "Finite" "minus", .meth "Finite" "negated", .meth "Finite" "of", .meth "Finite" "over", .meth "Finite" "plus", .meth "Finite" "times", .meth "Fractions" "fraction", .meth "Fractions" "inv", .meth "Fractions" "is_zero", .meth "Fractions" "minus", .meth "Fractions" "negated", .meth "Fractions" "over", .meth "Fractions" "plus", .meth "Fractions" "times", .cls "Finite", .cls "Fractions", .glo "Finite", .glo "Fractions", .glo "ZeroError", .int "MOST_PRIME" 997, .int "MOST_SIZE" 1024, .noat "Finite" "_lifts", .noat "Finite" "_logs", .noat "Finite" "_powers", .noat "Finite" "degree", .noat "Finite" "prime", .noat "Finite" "size", .free "abs", .free "bool", .free "enumerate", .free "int", .free "isinstance", .free "len", .free "list", .free "range", .free "reversed", .free "tuple", .free "zip", .exc "ZeroError", .free "super", .mkr "Finite", .noat "Finite" "characteristic", .noat "Finite" "modulus", .mkr "Fractions", .noat "Fractions" "zero", .noat "Fractions" "one", .noat "Fractions" "characteristic", .noat "Fractions" "size", .noat "Finite" "zero", .noat "Finite" "one"]
def e0 : SDf := ⟨"Field", "__init__", "Field.__init__", s_Field___init__⟩
def e1 : SDf := ⟨"Finite", "__init__", "Finite.__init__", s_Finite___init__⟩
def e2 : SDf := ⟨"Fractions", "__init__", "Fractions.__init__", s_Fractions___init__⟩
def sd : List SDf := [e0, e1, e2]
def exs (K : PySem.W.Frag) : List Bool := [supOk PR K (He.ma K (He.ga K "Field") "__init__") (He.ga K "Field") "Field.__init__",
  supOk PR K (He.ma K (He.ga K "Finite") "__init__") (He.ga K "Finite") "Finite.__init__",
  decide (PySem.W.mroIn K (He.ga K "Finite") (.ref (He.ga K "Finite")) = some true),
  decide (PySem.W.ks_superIn K (He.ga K "Finite") (He.ga K "Finite") "__init__" = some (some (.ref (He.ma K (He.ga K "Field") "__init__")))),
  decide (PySem.W.typeIn K (.ref (He.ma K (He.ga K "Field") "__init__")) = some (.type "function")),
  PySem.W.fnIn K (He.ma K (He.ga K "Field") "__init__"),
  decide (PySem.W.nsIn K cStatics "thirdparty.any" = some none),
  decide (PySem.W.mroIn K (He.ga K "Finite") (.ref (He.ga K "Field")) = some true),
  decide (PySem.W.ks_superIn K (He.ga K "Finite") (He.ga K "Field") "__init__" = some (some (.ref (He.ma K (He.ga K "Ring") "__init__")))),
  decide (PySem.W.typeIn K (.ref (He.ma K (He.ga K "Ring") "__init__")) = some (.type "function")),
  PySem.W.fnIn K (He.ma K (He.ga K "Ring") "__init__"),
  supOk PR K (He.ma K (He.ga K "Fractions") "__init__") (He.ga K "Fractions") "Fractions.__init__",
  decide (PySem.W.mroIn K (He.ga K "Fractions") (.ref (He.ga K "Fractions")) = some true),
  decide (PySem.W.ks_superIn K (He.ga K "Fractions") (He.ga K "Fractions") "__init__" = some (some (.ref (He.ma K (He.ga K "Field") "__init__")))),
  decide (PySem.W.mroIn K (He.ga K "Fractions") (.ref (He.ga K "Field")) = some true),
  decide (PySem.W.ks_superIn K (He.ga K "Fractions") (He.ga K "Field") "__init__" = some (some (.ref (He.ma K (He.ga K "Ring") "__init__"))))]
abbrev R : PySem.W.OpenRow := PySem.W.OpenLaw.row PySem.Challenge.rw_closefigures_k23_throws
abbrev hk : PySem.W.Hook := hookQ 4 fa fn sd exs
def ob (s : PySem.W.SharedT) : AlQ := obsQG 4 fa fn sd exs (HandSHeadRun.getT s)
theorem ob_eq (s : PySem.W.SharedT) : ob s = hk.obs s.abs := obsQG_eq (HandSHeadRun.getT_eq s)
def names : List Str := (["_wall", "ClosingError", "SizeError", "NumberError", "PrimeError", "ModulusError", "ZeroError", "dot", "cross", "bracket", "share", "throw_pair"] : List Str) ++ (["throw", "gcd_pair", "power_of", "power_modulo", "is_prime", "check_prime", "base_digits", "base_number", "trimmed", "times_modulo", "raised_modulo", "_rest"] : List Str) ++ (["_are_coprime", "is_irreducible", "Ring", "Field", "_checked_size", "_cycle", "_all_powers", "_tables", "Finite", "Fractions", "_law_cells", "_law_draw"] : List Str) ++ (["_law_prime", "_law_choice", "_law_plus", "_law_minus", "_law_product", "_law_tables", "_law_times", "_law_inverse", "_law_dot", "_law_cross", "_law_bracket", "_law_same"] : List Str) ++ (["_law_vector", "_law_drawn", "_law_unlike", "_law_beside", "_law_mix", "_law_spanning", "_law_carried", "_law_gcd", "_law_fraction", "_law_products", "_law_ratio", "_law_given"] : List Str) ++ (["_law_answers", "_law_asked", "_law_share", "_law_side", "MOST_PRIME", "MOST_SIZE"] : List Str)
theorem run1 (w : World) (os : OsState) : Option.map (fun s => HandSHeadRun.looksF R.prog (PySem.W.boot_heap w.params) s.abs) (HandSHeadRun.endF (HandSHeadRun.stepQ (HandSHeadRun.denQ HandSHeadRun.tabQ) R.prog w) 20000 R.prog w os) = some true := by kernel_rfl
theorem run2 (w : World) (os : OsState) : Option.map (fun s => HandSHeadRun.seenQ (PySem.W.view R.prog [75]) names (importedModules R.prog.main.body) (fun s => PySem.W.xlAt (PySem.W.view R.prog [75]) [] s && PySem.W.recOk R.records s) s.abs) (HandSHeadRun.endF (HandSHeadRun.stepQ (HandSHeadRun.denQ HandSHeadRun.tabQ) R.prog w) 20000 R.prog w os) = some (PySem.W.openGood (PySem.W.view R.prog [75]) names) := by kernel_rfl
theorem run3 (w : World) (os : OsState) : Option.map (fun s => (ob s).1) (HandSHeadRun.endF (HandSHeadRun.stepQ (HandSHeadRun.denQ HandSHeadRun.tabQ) R.prog w) 20000 R.prog w os) = some ((hk.val w : AlQ).1) := by kernel_rfl
theorem run4 (w : World) (os : OsState) : Option.map (fun s => (ob s).2.1) (HandSHeadRun.endF (HandSHeadRun.stepQ (HandSHeadRun.denQ HandSHeadRun.tabQ) R.prog w) 20000 R.prog w os) = some ((hk.val w : AlQ).2.1) := by kernel_rfl
theorem run5 (w : World) (os : OsState) : Option.map (fun s => (ob s).2.2) (HandSHeadRun.endF (HandSHeadRun.stepQ (HandSHeadRun.denQ HandSHeadRun.tabQ) R.prog w) 20000 R.prog w os) = some ((hk.val w : AlQ).2.2) := by kernel_rfl
theorem map5 {σ A B C D G : Type} {o : Option σ} {f1 : σ → A} {f2 : σ → B} {f : σ → C × D × G} {a : A} {b : B} {c : C × D × G} (h1 : o.map f1 = some a) (h2 : o.map f2 = some b) (h3 : o.map (fun s => (f s).1) = some c.1) (h4 : o.map (fun s => (f s).2.1) = some c.2.1) (h5 : o.map (fun s => (f s).2.2) = some c.2.2) :
    o.map (fun s => (f1 s, f2 s, f s)) = some (a, b, c) := by
  cases o with
  | none => cases h1
  | some s =>
    have e1 := Option.some.inj h1
    have e2 := Option.some.inj h2
    have e3 := Option.some.inj h3
    have e4 := Option.some.inj h4
    have e5 := Option.some.inj h5
    exact congrArg some (Prod.ext e1 (Prod.ext e2 (Prod.ext e3 (Prod.ext e4 e5))))
theorem run (w : World) : HandSHeadRun.RunEq R (PySem.W.view R.prog [75]) hk ob 20000 names w := fun os => map5 (run1 w os) (run2 w os) (run3 w os) (run4 w os) (run5 w os)
theorem facts {K : PySem.W.Frag} {h : Heap} {mg : Str → Option Value} (X : K.In h) (G : h.Ns mainGlobals mg) (c : SaysQ fa fn sd exs K) : Tx PR K mg where
  g_dot := let ⟨fd, F⟩ := c.d.def_ 0 (d := d0) rfl; ⟨_, fd, He.glo_ok X G (c.d.fact 0 (f := .glo "dot") rfl), F⟩
  g_cross := let ⟨fd, F⟩ := c.d.def_ 1 (d := d1) rfl; ⟨_, fd, He.glo_ok X G (c.d.fact 1 (f := .glo "cross") rfl), F⟩
  g_bracket := let ⟨fd, F⟩ := c.d.def_ 2 (d := d2) rfl; ⟨_, fd, He.glo_ok X G (c.d.fact 2 (f := .glo "bracket") rfl), F⟩
  g_share := let ⟨fd, F⟩ := c.d.def_ 3 (d := d3) rfl; ⟨_, fd, He.glo_ok X G (c.d.fact 3 (f := .glo "share") rfl), F⟩
  g_throw_pair := let ⟨fd, F⟩ := c.d.def_ 4 (d := d4) rfl; ⟨_, fd, He.glo_ok X G (c.d.fact 4 (f := .glo "throw_pair") rfl), F⟩
  g_throw := let ⟨fd, F⟩ := c.d.def_ 5 (d := d5) rfl; ⟨_, fd, He.glo_ok X G (c.d.fact 5 (f := .glo "throw") rfl), F⟩
  g_gcd_pair := let ⟨fd, F⟩ := c.d.def_ 6 (d := d6) rfl; ⟨_, fd, He.glo_ok X G (c.d.fact 6 (f := .glo "gcd_pair") rfl), F⟩
  g_power_of := let ⟨fd, F⟩ := c.d.def_ 7 (d := d7) rfl; ⟨_, fd, He.glo_ok X G (c.d.fact 7 (f := .glo "power_of") rfl), F⟩
  g_power_modulo := let ⟨fd, F⟩ := c.d.def_ 8 (d := d8) rfl; ⟨_, fd, He.glo_ok X G (c.d.fact 8 (f := .glo "power_modulo") rfl), F⟩
  g_is_prime := let ⟨fd, F⟩ := c.d.def_ 9 (d := d9) rfl; ⟨_, fd, He.glo_ok X G (c.d.fact 9 (f := .glo "is_prime") rfl), F⟩
  g_check_prime := let ⟨fd, F⟩ := c.d.def_ 10 (d := d10) rfl; ⟨_, fd, He.glo_ok X G (c.d.fact 10 (f := .glo "check_prime") rfl), F⟩
  g_base_digits := let ⟨fd, F⟩ := c.d.def_ 11 (d := d11) rfl; ⟨_, fd, He.glo_ok X G (c.d.fact 11 (f := .glo "base_digits") rfl), F⟩
  g_base_number := let ⟨fd, F⟩ := c.d.def_ 12 (d := d12) rfl; ⟨_, fd, He.glo_ok X G (c.d.fact 12 (f := .glo "base_number") rfl), F⟩
  g_trimmed := let ⟨fd, F⟩ := c.d.def_ 13 (d := d13) rfl; ⟨_, fd, He.glo_ok X G (c.d.fact 13 (f := .glo "trimmed") rfl), F⟩
  g_times_modulo := let ⟨fd, F⟩ := c.d.def_ 14 (d := d14) rfl; ⟨_, fd, He.glo_ok X G (c.d.fact 14 (f := .glo "times_modulo") rfl), F⟩
  g_raised_modulo := let ⟨fd, F⟩ := c.d.def_ 15 (d := d15) rfl; ⟨_, fd, He.glo_ok X G (c.d.fact 15 (f := .glo "raised_modulo") rfl), F⟩
  g_rest := let ⟨fd, F⟩ := c.d.def_ 16 (d := d16) rfl; ⟨_, fd, He.glo_ok X G (c.d.fact 16 (f := .glo "_rest") rfl), F⟩
  g_are_coprime := let ⟨fd, F⟩ := c.d.def_ 17 (d := d17) rfl; ⟨_, fd, He.glo_ok X G (c.d.fact 17 (f := .glo "_are_coprime") rfl), F⟩
  g_is_irreducible := let ⟨fd, F⟩ := c.d.def_ 18 (d := d18) rfl; ⟨_, fd, He.glo_ok X G (c.d.fact 18 (f := .glo "is_irreducible") rfl), F⟩
  g_checked_size := let ⟨fd, F⟩ := c.d.def_ 19 (d := d19) rfl; ⟨_, fd, He.glo_ok X G (c.d.fact 19 (f := .glo "_checked_size") rfl), F⟩
  g_cycle := let ⟨fd, F⟩ := c.d.def_ 20 (d := d20) rfl; ⟨_, fd, He.glo_ok X G (c.d.fact 20 (f := .glo "_cycle") rfl), F⟩
  g_all_powers := let ⟨fd, F⟩ := c.d.def_ 21 (d := d21) rfl; ⟨_, fd, He.glo_ok X G (c.d.fact 21 (f := .glo "_all_powers") rfl), F⟩
  g_tables := let ⟨fd, F⟩ := c.d.def_ 22 (d := d22) rfl; ⟨_, fd, He.glo_ok X G (c.d.fact 22 (f := .glo "_tables") rfl), F⟩
  g_law_cells := let ⟨fd, F⟩ := c.d.def_ 23 (d := d23) rfl; ⟨_, fd, He.glo_ok X G (c.d.fact 23 (f := .glo "_law_cells") rfl), F⟩
  g_law_draw := let ⟨fd, F⟩ := c.d.def_ 24 (d := d24) rfl; ⟨_, fd, He.glo_ok X G (c.d.fact 24 (f := .glo "_law_draw") rfl), F⟩
  g_law_prime := let ⟨fd, F⟩ := c.d.def_ 25 (d := d25) rfl; ⟨_, fd, He.glo_ok X G (c.d.fact 25 (f := .glo "_law_prime") rfl), F⟩
  g_law_choice := let ⟨fd, F⟩ := c.d.def_ 26 (d := d26) rfl; ⟨_, fd, He.glo_ok X G (c.d.fact 26 (f := .glo "_law_choice") rfl), F⟩
  g_law_plus := let ⟨fd, F⟩ := c.d.def_ 27 (d := d27) rfl; ⟨_, fd, He.glo_ok X G (c.d.fact 27 (f := .glo "_law_plus") rfl), F⟩
  g_law_minus := let ⟨fd, F⟩ := c.d.def_ 28 (d := d28) rfl; ⟨_, fd, He.glo_ok X G (c.d.fact 28 (f := .glo "_law_minus") rfl), F⟩
  g_law_product := let ⟨fd, F⟩ := c.d.def_ 29 (d := d29) rfl; ⟨_, fd, He.glo_ok X G (c.d.fact 29 (f := .glo "_law_product") rfl), F⟩
  g_law_tables := let ⟨fd, F⟩ := c.d.def_ 30 (d := d30) rfl; ⟨_, fd, He.glo_ok X G (c.d.fact 30 (f := .glo "_law_tables") rfl), F⟩
  g_law_times := let ⟨fd, F⟩ := c.d.def_ 31 (d := d31) rfl; ⟨_, fd, He.glo_ok X G (c.d.fact 31 (f := .glo "_law_times") rfl), F⟩
  g_law_inverse := let ⟨fd, F⟩ := c.d.def_ 32 (d := d32) rfl; ⟨_, fd, He.glo_ok X G (c.d.fact 32 (f := .glo "_law_inverse") rfl), F⟩
  g_law_dot := let ⟨fd, F⟩ := c.d.def_ 33 (d := d33) rfl; ⟨_, fd, He.glo_ok X G (c.d.fact 33 (f := .glo "_law_dot") rfl), F⟩
  g_law_cross := let ⟨fd, F⟩ := c.d.def_ 34 (d := d34) rfl; ⟨_, fd, He.glo_ok X G (c.d.fact 34 (f := .glo "_law_cross") rfl), F⟩
  g_law_bracket := let ⟨fd, F⟩ := c.d.def_ 35 (d := d35) rfl; ⟨_, fd, He.glo_ok X G (c.d.fact 35 (f := .glo "_law_bracket") rfl), F⟩
  g_law_same := let ⟨fd, F⟩ := c.d.def_ 36 (d := d36) rfl; ⟨_, fd, He.glo_ok X G (c.d.fact 36 (f := .glo "_law_same") rfl), F⟩
  g_law_vector := let ⟨fd, F⟩ := c.d.def_ 37 (d := d37) rfl; ⟨_, fd, He.glo_ok X G (c.d.fact 37 (f := .glo "_law_vector") rfl), F⟩
  g_law_drawn := let ⟨fd, F⟩ := c.d.def_ 38 (d := d38) rfl; ⟨_, fd, He.glo_ok X G (c.d.fact 38 (f := .glo "_law_drawn") rfl), F⟩
  g_law_unlike := let ⟨fd, F⟩ := c.d.def_ 39 (d := d39) rfl; ⟨_, fd, He.glo_ok X G (c.d.fact 39 (f := .glo "_law_unlike") rfl), F⟩
  g_law_beside := let ⟨fd, F⟩ := c.d.def_ 40 (d := d40) rfl; ⟨_, fd, He.glo_ok X G (c.d.fact 40 (f := .glo "_law_beside") rfl), F⟩
  g_law_mix := let ⟨fd, F⟩ := c.d.def_ 41 (d := d41) rfl; ⟨_, fd, He.glo_ok X G (c.d.fact 41 (f := .glo "_law_mix") rfl), F⟩
  g_law_spanning := let ⟨fd, F⟩ := c.d.def_ 42 (d := d42) rfl; ⟨_, fd, He.glo_ok X G (c.d.fact 42 (f := .glo "_law_spanning") rfl), F⟩
  g_law_carried := let ⟨fd, F⟩ := c.d.def_ 43 (d := d43) rfl; ⟨_, fd, He.glo_ok X G (c.d.fact 43 (f := .glo "_law_carried") rfl), F⟩
  g_law_gcd := let ⟨fd, F⟩ := c.d.def_ 44 (d := d44) rfl; ⟨_, fd, He.glo_ok X G (c.d.fact 44 (f := .glo "_law_gcd") rfl), F⟩
  g_law_fraction := let ⟨fd, F⟩ := c.d.def_ 45 (d := d45) rfl; ⟨_, fd, He.glo_ok X G (c.d.fact 45 (f := .glo "_law_fraction") rfl), F⟩
  g_law_products := let ⟨fd, F⟩ := c.d.def_ 46 (d := d46) rfl; ⟨_, fd, He.glo_ok X G (c.d.fact 46 (f := .glo "_law_products") rfl), F⟩
  g_law_ratio := let ⟨fd, F⟩ := c.d.def_ 47 (d := d47) rfl; ⟨_, fd, He.glo_ok X G (c.d.fact 47 (f := .glo "_law_ratio") rfl), F⟩
  g_law_given := let ⟨fd, F⟩ := c.d.def_ 48 (d := d48) rfl; ⟨_, fd, He.glo_ok X G (c.d.fact 48 (f := .glo "_law_given") rfl), F⟩
  g_law_answers := let ⟨fd, F⟩ := c.d.def_ 49 (d := d49) rfl; ⟨_, fd, He.glo_ok X G (c.d.fact 49 (f := .glo "_law_answers") rfl), F⟩
  g_law_asked := let ⟨fd, F⟩ := c.d.def_ 50 (d := d50) rfl; ⟨_, fd, He.glo_ok X G (c.d.fact 50 (f := .glo "_law_asked") rfl), F⟩
  g_law_share := let ⟨fd, F⟩ := c.d.def_ 51 (d := d51) rfl; ⟨_, fd, He.glo_ok X G (c.d.fact 51 (f := .glo "_law_share") rfl), F⟩
  g_law_side := let ⟨fd, F⟩ := c.d.def_ 52 (d := d52) rfl; ⟨_, fd, He.glo_ok X G (c.d.fact 52 (f := .glo "_law_side") rfl), F⟩
  g_law := let ⟨fd, F⟩ := c.d.def_ 53 (d := d53) rfl; ⟨_, fd, He.glo_ok X G (c.d.fact 53 (f := .glo "law") rfl), F⟩
  me_Finite_inv := let ⟨fd, F⟩ := c.d.def_ 54 (d := d54) rfl; ⟨_, fd, He.meth_ok (c.d.fact 54 (f := .meth "Finite" "inv") rfl), F⟩
  me_Finite_is_zero := let ⟨fd, F⟩ := c.d.def_ 55 (d := d55) rfl; ⟨_, fd, He.meth_ok (c.d.fact 55 (f := .meth "Finite" "is_zero") rfl), F⟩
  me_Finite_minus := let ⟨fd, F⟩ := c.d.def_ 56 (d := d56) rfl; ⟨_, fd, He.meth_ok (c.d.fact 56 (f := .meth "Finite" "minus") rfl), F⟩
  me_Finite_negated := let ⟨fd, F⟩ := c.d.def_ 57 (d := d57) rfl; ⟨_, fd, He.meth_ok (c.d.fact 57 (f := .meth "Finite" "negated") rfl), F⟩
  me_Finite_of := let ⟨fd, F⟩ := c.d.def_ 58 (d := d58) rfl; ⟨_, fd, He.meth_ok (c.d.fact 58 (f := .meth "Finite" "of") rfl), F⟩
  me_Finite_over := let ⟨fd, F⟩ := c.d.def_ 59 (d := d59) rfl; ⟨_, fd, He.meth_ok (c.d.fact 59 (f := .meth "Finite" "over") rfl), F⟩
  me_Finite_plus := let ⟨fd, F⟩ := c.d.def_ 60 (d := d60) rfl; ⟨_, fd, He.meth_ok (c.d.fact 60 (f := .meth "Finite" "plus") rfl), F⟩
  me_Finite_times := let ⟨fd, F⟩ := c.d.def_ 61 (d := d61) rfl; ⟨_, fd, He.meth_ok (c.d.fact 61 (f := .meth "Finite" "times") rfl), F⟩
  me_Fractions_fraction := let ⟨fd, F⟩ := c.d.def_ 62 (d := d62) rfl; ⟨_, fd, He.meth_ok (c.d.fact 62 (f := .meth "Fractions" "fraction") rfl), F⟩
  me_Fractions_inv := let ⟨fd, F⟩ := c.d.def_ 63 (d := d63) rfl; ⟨_, fd, He.meth_ok (c.d.fact 63 (f := .meth "Fractions" "inv") rfl), F⟩
  me_Fractions_is_zero := let ⟨fd, F⟩ := c.d.def_ 64 (d := d64) rfl; ⟨_, fd, He.meth_ok (c.d.fact 64 (f := .meth "Fractions" "is_zero") rfl), F⟩
  me_Fractions_minus := let ⟨fd, F⟩ := c.d.def_ 65 (d := d65) rfl; ⟨_, fd, He.meth_ok (c.d.fact 65 (f := .meth "Fractions" "minus") rfl), F⟩
  me_Fractions_negated := let ⟨fd, F⟩ := c.d.def_ 66 (d := d66) rfl; ⟨_, fd, He.meth_ok (c.d.fact 66 (f := .meth "Fractions" "negated") rfl), F⟩
  me_Fractions_over := let ⟨fd, F⟩ := c.d.def_ 67 (d := d67) rfl; ⟨_, fd, He.meth_ok (c.d.fact 67 (f := .meth "Fractions" "over") rfl), F⟩
  me_Fractions_plus := let ⟨fd, F⟩ := c.d.def_ 68 (d := d68) rfl; ⟨_, fd, He.meth_ok (c.d.fact 68 (f := .meth "Fractions" "plus") rfl), F⟩
  me_Fractions_times := let ⟨fd, F⟩ := c.d.def_ 69 (d := d69) rfl; ⟨_, fd, He.meth_ok (c.d.fact 69 (f := .meth "Fractions" "times") rfl), F⟩
  cl_Finite := He.cls_ok (c.d.fact 70 (f := .cls "Finite") rfl)
  cl_Fractions := He.cls_ok (c.d.fact 71 (f := .cls "Fractions") rfl)
  gc_Finite := He.glo_ok X G (c.d.fact 72 (f := .glo "Finite") rfl)
  gc_Fractions := He.glo_ok X G (c.d.fact 73 (f := .glo "Fractions") rfl)
  gc_ZeroError := He.glo_ok X G (c.d.fact 74 (f := .glo "ZeroError") rfl)
  gi_MOST_PRIME := He.int_ok X G (c.d.fact 75 (f := .int "MOST_PRIME" 997) rfl)
  gi_MOST_SIZE := He.int_ok X G (c.d.fact 76 (f := .int "MOST_SIZE" 1024) rfl)
  na_Finite__lifts := He.noat_ok (c.d.fact 77 (f := .noat "Finite" "_lifts") rfl)
  na_Finite__logs := He.noat_ok (c.d.fact 78 (f := .noat "Finite" "_logs") rfl)
  na_Finite__powers := He.noat_ok (c.d.fact 79 (f := .noat "Finite" "_powers") rfl)
  na_Finite_degree := He.noat_ok (c.d.fact 80 (f := .noat "Finite" "degree") rfl)
  na_Finite_prime := He.noat_ok (c.d.fact 81 (f := .noat "Finite" "prime") rfl)
  na_Finite_size := He.noat_ok (c.d.fact 82 (f := .noat "Finite" "size") rfl)
  b_abs := He.free_ok X G (c.d.fact 83 (f := .free "abs") rfl)
  b_bool := He.free_ok X G (c.d.fact 84 (f := .free "bool") rfl)
  b_enumerate := He.free_ok X G (c.d.fact 85 (f := .free "enumerate") rfl)
  b_int := He.free_ok X G (c.d.fact 86 (f := .free "int") rfl)
  b_isinstance := He.free_ok X G (c.d.fact 87 (f := .free "isinstance") rfl)
  b_len := He.free_ok X G (c.d.fact 88 (f := .free "len") rfl)
  b_list := He.free_ok X G (c.d.fact 89 (f := .free "list") rfl)
  b_range := He.free_ok X G (c.d.fact 90 (f := .free "range") rfl)
  b_reversed := He.free_ok X G (c.d.fact 91 (f := .free "reversed") rfl)
  b_tuple := He.free_ok X G (c.d.fact 92 (f := .free "tuple") rfl)
  b_zip := He.free_ok X G (c.d.fact 93 (f := .free "zip") rfl)
  x_ZeroError := (He.exc_ok (c.d.fact 94 (f := .exc "ZeroError") rfl)).1
  k_ZeroError := (He.exc_ok (c.d.fact 94 (f := .exc "ZeroError") rfl)).2.1
  xb_ZeroError := (He.exc_ok (c.d.fact 94 (f := .exc "ZeroError") rfl)).2.2.1
  xt_ZeroError := (He.exc_ok (c.d.fact 94 (f := .exc "ZeroError") rfl)).2.2.2
  ii_Ring := c.d.def_ 70 (d := d70) rfl
  b_super := He.free_ok X G (c.d.fact 95 (f := .free "super") rfl)
  si_Field := supD_of (d := e0) (c.sup 0 rfl) (c.more 0 rfl)
  si_Finite := supD_of (d := e1) (c.sup 1 rfl) (c.more 1 rfl)
  sp_Finite_Finite := ⟨(of_decide_eq_true (c.more 2 rfl)), (of_decide_eq_true (c.more 3 rfl)), (of_decide_eq_true (c.more 4 rfl)), c.more 5 rfl, (of_decide_eq_true (c.more 6 rfl))⟩
  sp_Finite_Field := ⟨(of_decide_eq_true (c.more 7 rfl)), (of_decide_eq_true (c.more 8 rfl)), (of_decide_eq_true (c.more 9 rfl)), c.more 10 rfl, (of_decide_eq_true (c.more 6 rfl))⟩
  mk_Finite := He.mkr_ok (c.d.fact 96 (f := .mkr "Finite") rfl)
  na_Finite_characteristic := He.noat_ok (c.d.fact 97 (f := .noat "Finite" "characteristic") rfl)
  na_Finite_modulus := He.noat_ok (c.d.fact 98 (f := .noat "Finite" "modulus") rfl)
  si_Fractions := supD_of (d := e2) (c.sup 2 rfl) (c.more 11 rfl)
  sp_Fractions_Fractions := ⟨(of_decide_eq_true (c.more 12 rfl)), (of_decide_eq_true (c.more 13 rfl)), (of_decide_eq_true (c.more 4 rfl)), c.more 5 rfl, (of_decide_eq_true (c.more 6 rfl))⟩
  sp_Fractions_Field := ⟨(of_decide_eq_true (c.more 14 rfl)), (of_decide_eq_true (c.more 15 rfl)), (of_decide_eq_true (c.more 9 rfl)), c.more 10 rfl, (of_decide_eq_true (c.more 6 rfl))⟩
  mk_Fractions := He.mkr_ok (c.d.fact 99 (f := .mkr "Fractions") rfl)
  na_Fractions_zero := He.noat_ok (c.d.fact 100 (f := .noat "Fractions" "zero") rfl)
  na_Fractions_one := He.noat_ok (c.d.fact 101 (f := .noat "Fractions" "one") rfl)
  na_Fractions_characteristic := He.noat_ok (c.d.fact 102 (f := .noat "Fractions" "characteristic") rfl)
  na_Fractions_size := He.noat_ok (c.d.fact 103 (f := .noat "Fractions" "size") rfl)
  na_Finite_zero := He.noat_ok (c.d.fact 104 (f := .noat "Finite" "zero") rfl)
  na_Finite_one := He.noat_ok (c.d.fact 105 (f := .noat "Finite" "one") rfl)
theorem lawAt {w : World} {K : PySem.W.Frag} {h : Heap} {mg : Str → Option Value} {fa0 : Addr} (X : K.In h) (G : h.Ns mainGlobals mg) (hfa : mg ("law" : Str) = some (.ref fa0)) (c : SaysQ fa fn sd exs K) : LamX.LawAtS PySem.Challenge.rw_closefigures_k23_throws w K (L2.CX (PySem.Challenge.rw_closefigures_k23_throws).prog w) 24 63 "script" mg fa0 h := by
  have T := facts X G c
  obtain ⟨f, fd, hg, FD⟩ := T.g_law
  have e := hfa.symm.trans hg
  cases e
  exact ⟨fd, [], _, (fun _ z => nomatch z), (fun _ z => nomatch z), (fun _ z => nomatch z), fun s u => FunD.bindsA (ps := ["script"]) FD (fun _ _ _ _ _ _ us hl => match us, hl with | [_], _ => rfl) s [u] rfl,
    fun H a ns hl hb _ hS => law_sp _ trivial hl hS (law_true w h T ns), fun base _ _ _ => ok_law T FD⟩
end K23
open PySem PySem.W PySem.Calls PyProof.Rows
theorem PySem.Challenge.cw_closefigures_k23_throws_holds : PySem.Challenge.rw_closefigures_k23_throws.Holds := by
  w_on; o_law
  refine HandSHeadRun.head_any (r := OpenLaw.row PySem.Challenge.rw_closefigures_k23_throws) (q := view (OpenLaw.row PySem.Challenge.rw_closefigures_k23_throws).prog [75]) (H := K23.hk) (ob := K23.ob) (M := 20000) (loose := K23.names) (d := HandSHeadRun.topDef (OpenLaw.row PySem.Challenge.rw_closefigures_k23_throws).prog 75) (kwd := []) K23.ob_eq
    (by kernel_rfl) (fun s => by kernel_rfl) K23.run (by kernel_rfl) (by kernel_rfl) (by kernel_rfl) (by rfl) (by first | assumption | decide +kernel) (by decide +kernel) ⟨rfl, rfl, rfl, rfl, rfl, by decide +kernel⟩ ?hw ?hc
  case hw => w_witness2
  case hc =>
    refine LamX.walk_ofTsE (l := PySem.Challenge.rw_closefigures_k23_throws) (n := 63) (k := 24) (x := "script") (CX := fun w => L2.CX (PySem.Challenge.rw_closefigures_k23_throws).prog w) rfl (by decide) (by kernel_rfl) ⟨rfl, by decide, by decide⟩ ?F (fun w H s e s' z => TL.cx_never z)
    intro w mg fa h Y G hmg0
    obtain ⟨K, KX, c⟩ := Y
    have hmg : mg ("law" : PySem.Str) = some (.ref fa) := by
      have e : (HandSHeadRun.topDef (OpenLaw.row PySem.Challenge.rw_closefigures_k23_throws).prog 75).name = ("law" : PySem.Str) := by kernel_rfl
      rw [← e]
      exact hmg0
    exact ⟨K, KX, K23.lawAt KX G hmg c⟩
