import PyProof.Rows.All
import Wide.All
import OpenK.AllK
import Wide.FinOn
import HandS.ForMost
import HandS.Defaults
import HandS.IsInst
import HandS.Property
import HandS.OwnEq
import HandS.More
import HandS.Evl
import HandS.HeadHook1
import KE.KStateDown
import HandS.Head0
import HandS.Head1
import HandS.Head2
import HandS.HeadEnd
import HandS.HeadHook2
import HandS.HeadHook3
import HandS.TupAny
import HandS.ExcInit
import HandS.ExcField
import HandS.ExcIs
import HandS.TryMany
import HandS.CallSlots
import HandS.FStr
import HandS.Lambda
import KE.KExcSuper
import HandS.CallLocal
import HandS.Style
import HandS.EndTab
import PySem.Challenge.RW_foldplans_k30_letters_and_values
set_option Elab.async false
set_option linter.all false
set_option maxRecDepth 100000
set_option maxHeartbeats 4000000
/-! ## A layer of its own: typed data over the abstract heap.
Ke M H H': the heap has grown, and what stood stands, but for the objects at M (the mutable ones). Ty: how a value and the heap tell a datum
of plain Lean; nothing of it lies at M. Vl, Vt, Va: an expression, a test, arguments evaluate to a datum and change nothing. -/
namespace Fp
open PySem L2
structure Ke (M : List Addr) (H H' : Hp) : Prop where
  keep : ∀ a o, a ∉ M → H a = some o → H' a = some o
  there : ∀ a o, H a = some o → ∃ o', H' a = some o'
section
variable {M M' : List Addr} {H H1 H2 H' : Hp} {p : Addr} {o : HO}
theorem Ke.refl : Ke M H H := ⟨fun _ _ _ h => h, fun _ o h => ⟨o, h⟩⟩
theorem Ke.trans (a : Ke M H H1) (b : Ke M H1 H2) : Ke M H H2 := ⟨fun c o n h => b.keep c o n (a.keep c o n h), fun c o h => by
  obtain ⟨o', h'⟩ := a.there c o h
  exact b.there c o' h'⟩
theorem Ke.new (h : H p = none) : Ke M H (upd H p o) := ⟨fun a u _ e => by rw [upd_ne (ne_of_none e h)]; exact e, fun a u e => ⟨u, by rw [upd_ne (ne_of_none e h)]; exact e⟩⟩
theorem Ke.mut (h : p ∈ M) : Ke M H (upd H p o) := ⟨fun a u n e => by rw [upd_ne (fun z => n (by rw [z]; exact h))]; exact e, fun a u e => by
  by_cases z : a = p
  · exact ⟨o, by rw [z, upd_same]⟩
  · exact ⟨u, by rw [upd_ne z]; exact e⟩⟩
theorem Ke.sub (hs : ∀ a ∈ M, a ∈ M') (k : Ke M H H') : Ke M' H H' := ⟨fun a o n h => k.keep a o (fun z => n (hs a z)) h, k.there⟩
theorem Ke.all (k : Ke [] H H') : Ke M H H' := k.sub (fun _ h => by cases h)
theorem Ke.old (k : Ke (p :: M) H H') (h : H p = none) : Ke M H H' := ⟨fun a o n e => k.keep a o (fun z => by
  rcases List.mem_cons.mp z with z | z
  · rw [z, h] at e; cases e
  · exact n z) e, k.there⟩
theorem Ke.free (k : Ke M H H') (h : H' p = none) : H p = none := by
  cases e : H p with
  | none => rfl
  | some u =>
    obtain ⟨o', e'⟩ := k.there p u e
    rw [e'] at h; cases h
theorem Ke.one (k : Ke [] H H') {a : Addr} (h : H a = some o) : H' a = some o := k.keep a o (fun z => by cases z) h
theorem Ke.same (k : Ke [] H H') : Same H H' := fun a o h => k.one h
/-- the mutable ones are there -/
def Wf (M : List Addr) (H : Hp) : Prop := ∀ a ∈ M, ∃ o, H a = some o
theorem Wf.keep (w : Wf M H) (k : Ke M' H H') : Wf M H' := fun a h => by
  obtain ⟨o, e⟩ := w a h
  exact k.there a o e
theorem Wf.not (w : Wf M H) (h : H p = none) : p ∉ M := fun z => by
  obtain ⟨o, e⟩ := w p z
  rw [h] at e; cases e
theorem Wf.cons (w : Wf M H) (h : H p = some o) : Wf (p :: M) H := fun a z => by
  rcases List.mem_cons.mp z with z | z
  · exact ⟨o, by rw [z]; exact h⟩
  · exact w a z
theorem Wf.nil : Wf [] H := fun _ h => by cases h
end
/-- a datum of plain Lean, as a value and the heap tell it -/
structure Ty (α : Type) where
  rep : List Addr → Hp → V → α → Prop
  keep : ∀ {M : List Addr} {H H' : Hp} {v : V} {x : α}, Ke M H H' → rep M H v x → rep M H' v x
  less : ∀ {M M' : List Addr} {H : Hp} {v : V} {x : α}, (∀ a ∈ M', a ∈ M) → rep M H v x → rep M' H v x
  more : ∀ {M : List Addr} {H : Hp} {v : V} {x : α} {p : Addr}, H p = none → rep M H v x → rep (p :: M) H v x
def yInt : Ty Int := ⟨fun _ _ v x => v = .int x, fun _ h => h, fun _ h => h, fun _ h => h⟩
def yStr : Ty Str := ⟨fun _ _ v x => v = .str x, fun _ h => h, fun _ h => h, fun _ h => h⟩
def yBool : Ty Bool := ⟨fun _ _ v x => v = .bl x, fun _ h => h, fun _ h => h, fun _ h => h⟩
def yNon : Ty Unit := ⟨fun _ _ v _ => v = .non, fun _ h => h, fun _ h => h, fun _ h => h⟩
/-- two lists, item by item -/
def P2 {α : Type} (R : V → α → Prop) : List V → List α → Prop
  | [], [] => True
  | v :: vs, x :: xs => R v x ∧ P2 R vs xs
  | _, _ => False
section
variable {α : Type} {R R' : V → α → Prop}
theorem P2.imp (f : ∀ v x, R v x → R' v x) : ∀ {vs : List V} {xs : List α}, P2 R vs xs → P2 R' vs xs
  | [], [], _ => trivial
  | [], _ :: _, h => h.elim
  | _ :: _, [], h => h.elim
  | _ :: _, _ :: _, h => ⟨f _ _ h.1, h.2.imp f⟩
theorem P2.len : ∀ {vs : List V} {xs : List α}, P2 R vs xs → vs.length = xs.length
  | [], [], _ => rfl
  | [], _ :: _, h => h.elim
  | _ :: _, [], h => h.elim
  | _ :: _, _ :: _, h => congrArg Nat.succ h.2.len
theorem P2.app : ∀ {vs : List V} {xs : List α} {ws : List V} {ys : List α}, P2 R vs xs → P2 R ws ys → P2 R (vs ++ ws) (xs ++ ys)
  | [], [], _, _, _, k => k
  | [], _ :: _, _, _, h, _ => h.elim
  | _ :: _, [], _, _, h, _ => h.elim
  | _ :: _, _ :: _, _, _, h, k => ⟨h.1, h.2.app k⟩
theorem P2.get : ∀ {vs : List V} {xs : List α} {i : Nat} {v : V}, P2 R vs xs → vs[i]? = some v → ∃ x, xs[i]? = some x ∧ R v x
  | [], [], _, _, _, e => by cases e
  | [], _ :: _, _, _, h, _ => h.elim
  | _ :: _, [], _, _, h, _ => h.elim
  | _ :: _, x :: _, 0, _, h, e => ⟨x, rfl, by have e' := Option.some.inj e; rw [← e']; exact h.1⟩
  | _ :: _, _ :: _, i + 1, _, h, e => by
    obtain ⟨x, e', r⟩ := h.2.get (i := i) e
    exact ⟨x, e', r⟩
theorem P2.tog : ∀ {vs : List V} {xs : List α} {i : Nat} {x : α}, P2 R vs xs → xs[i]? = some x → ∃ v, vs[i]? = some v ∧ R v x
  | [], [], _, _, _, e => by cases e
  | [], _ :: _, _, _, h, _ => h.elim
  | _ :: _, [], _, _, h, _ => h.elim
  | v :: _, _ :: _, 0, _, h, e => ⟨v, rfl, by have e' := Option.some.inj e; rw [← e']; exact h.1⟩
  | _ :: _, _ :: _, i + 1, _, h, e => by
    obtain ⟨x, e', r⟩ := h.2.tog (i := i) e
    exact ⟨x, e', r⟩
theorem P2.map {β : Type} {f : β → V} {g : β → α} (h : ∀ b, R (f b) (g b)) : ∀ l : List β, P2 R (l.map f) (l.map g)
  | [] => trivial
  | b :: l => ⟨h b, P2.map h l⟩
end
/-- a list that stands, and no mutable one -/
def yList {α : Type} (t : Ty α) : Ty (List α) where
  rep := fun M H v xs => ∃ a vs, v = .ref a ∧ a ∉ M ∧ H a = some (.lst vs) ∧ P2 (t.rep M H) vs xs
  keep := fun k ⟨a, vs, e, n, h, p⟩ => ⟨a, vs, e, n, k.keep a _ n h, p.imp fun _ _ => t.keep k⟩
  less := fun s ⟨a, vs, e, n, h, p⟩ => ⟨a, vs, e, fun z => n (s a z), h, p.imp fun _ _ => t.less s⟩
  more := fun f ⟨a, vs, e, n, h, p⟩ => ⟨a, vs, e, fun z => by
    rcases List.mem_cons.mp z with z | z
    · rw [z, f] at h; cases h
    · exact n z, h, p.imp fun _ _ => t.more f⟩
/-- a tuple, of the call's own or of the text -/
def TupAt (K : PySem.W.Frag) (M : List Addr) (H : Hp) (a : Addr) (vs : List V) : Prop := (a ∉ M ∧ H a = some (.tup vs)) ∨ SqT K (fun _ => none) a vs
section
variable {K : PySem.W.Frag} {M M' : List Addr} {H H' : Hp} {a p : Addr} {vs : List V}
theorem TupAt.sq (h : TupAt K M H a vs) : SqT K H a vs := by
  rcases h with h | h
  · exact SqT.of h.2
  · rcases h with h | h
    · rcases h with h | ⟨_, h⟩ <;> cases h
    · exact .inr h
theorem TupAt.keep (k : Ke M H H') (h : TupAt K M H a vs) : TupAt K M H' a vs := h.imp (fun h => ⟨h.1, k.keep a _ h.1 h.2⟩) id
theorem TupAt.less (s : ∀ a ∈ M', a ∈ M) (h : TupAt K M H a vs) : TupAt K M' H a vs := h.imp (fun h => ⟨fun z => h.1 (s a z), h.2⟩) id
theorem TupAt.more (f : H p = none) (h : TupAt K M H a vs) : TupAt K (p :: M) H a vs := h.imp (fun h => ⟨fun z => by
  rcases List.mem_cons.mp z with z | z
  · have e := h.2
    rw [z, f] at e; cases e
  · exact h.1 z, h.2⟩) id
end
def yTup {α : Type} (K : PySem.W.Frag) (t : Ty α) : Ty (List α) where
  rep := fun M H v xs => ∃ a vs, v = .ref a ∧ TupAt K M H a vs ∧ P2 (t.rep M H) vs xs
  keep := fun k ⟨a, vs, e, h, p⟩ => ⟨a, vs, e, h.keep k, p.imp fun _ _ => t.keep k⟩
  less := fun s ⟨a, vs, e, h, p⟩ => ⟨a, vs, e, h.less s, p.imp fun _ _ => t.less s⟩
  more := fun f ⟨a, vs, e, h, p⟩ => ⟨a, vs, e, h.more f, p.imp fun _ _ => t.more f⟩
/-- a tuple of two -/
def yPair {α β : Type} (K : PySem.W.Frag) (t : Ty α) (u : Ty β) : Ty (α × β) where
  rep := fun M H v x => ∃ a y z, v = .ref a ∧ TupAt K M H a [y, z] ∧ t.rep M H y x.1 ∧ u.rep M H z x.2
  keep := fun k ⟨a, y, z, e, h, p, q⟩ => ⟨a, y, z, e, h.keep k, t.keep k p, u.keep k q⟩
  less := fun s ⟨a, y, z, e, h, p, q⟩ => ⟨a, y, z, e, h.less s, t.less s p, u.less s q⟩
  more := fun f ⟨a, y, z, e, h, p, q⟩ => ⟨a, y, z, e, h.more f, t.more f p, u.more f q⟩
def yTrip {α β γ : Type} (K : PySem.W.Frag) (t : Ty α) (u : Ty β) (w : Ty γ) : Ty (α × β × γ) where
  rep := fun M H v x => ∃ a y z b, v = .ref a ∧ TupAt K M H a [y, z, b] ∧ t.rep M H y x.1 ∧ u.rep M H z x.2.1 ∧ w.rep M H b x.2.2
  keep := fun k ⟨a, y, z, b, e, h, p, q, r⟩ => ⟨a, y, z, b, e, h.keep k, t.keep k p, u.keep k q, w.keep k r⟩
  less := fun s ⟨a, y, z, b, e, h, p, q, r⟩ => ⟨a, y, z, b, e, h.less s, t.less s p, u.less s q, w.less s r⟩
  more := fun f ⟨a, y, z, b, e, h, p, q, r⟩ => ⟨a, y, z, b, e, h.more f, t.more f p, u.more f q, w.more f r⟩
def yOpt {α : Type} (t : Ty α) : Ty (Option α) where
  rep := fun M H v x => match x with
    | none => v = .non
    | some y => t.rep M H v y
  keep := fun {M H H' v x} k h => match x, h with
    | none, h => h
    | some _, h => t.keep k h
  less := fun {M M' H v x} s h => match x, h with
    | none, h => h
    | some _, h => t.less s h
  more := fun {M H v x p} f h => match x, h with
    | none, h => h
    | some _, h => t.more f h

/-! ### evaluation -/
def Vl {α : Type} (M : List Addr) (te : TE) (σ : L2.St) (H : Hp) (t : Ty α) (x : α) : Prop := Wf M H → ∀ H1, Ke M H H1 → ∀ Q : VK, (∀ v H2, Ke [] H1 H2 → t.rep M H2 v x → Q v H2) → te σ H1 Q
def Vt (M : List Addr) (tt : TT) (σ : L2.St) (H : Hp) (b : Bool) : Prop := Wf M H → ∀ H1, Ke M H H1 → ∀ Q : Bool → Hp → Prop, (∀ H2, Ke [] H1 H2 → Q b H2) → tt σ H1 Q
def Va (M : List Addr) (ta : TA) (σ : L2.St) (H : Hp) (R : Hp → List V → Prop) : Prop := Wf M H → ∀ H1, Ke M H H1 → ∀ Q : List V → Hp → Prop, (∀ vs H2, Ke [] H1 H2 → R H2 vs → Q vs H2) → ta σ H1 Q
section
variable {α β γ : Type} {K : PySem.W.Frag} {M : List Addr} {σ : L2.St} {H H' : Hp} {t : Ty α} {u : Ty β} {te ta tb : TE} {x : α} {y : β} {v : V}
theorem Vl.at (e : Ke M H H') (w : Wf M H) (h : Vl M te σ H t x) : Vl M te σ H' t x := fun _ H1 k Q q => h w H1 (e.trans k) Q q
theorem Vt.at {tt : TT} {b : Bool} (e : Ke M H H') (w : Wf M H) (h : Vt M tt σ H b) : Vt M tt σ H' b := fun _ H1 k Q q => h w H1 (e.trans k) Q q
theorem vl_var {i : Nat} (h : σ[i]? = some (some v)) (r : t.rep M H v x) : Vl M (tVar i) σ H t x := fun _ H1 k _ q => ⟨v, h, q v H1 Ke.refl (t.keep k r)⟩
theorem vl_c (r : t.rep M H v x) : Vl M (tC v) σ H t x := fun _ H1 k _ q => q v H1 Ke.refl (t.keep k r)
theorem vl_int {i : Int} : Vl M (tC (.int i)) σ H yInt i := vl_c rfl
theorem vl_str {s : Str} : Vl M (tC (.str s)) σ H yStr s := vl_c rfl
theorem vl_bl {b : Bool} : Vl M (tC (.bl b)) σ H yBool b := vl_c rfl
theorem vl_non : Vl M (tC .non) σ H yNon () := vl_c rfl
theorem vl_is (h : Vl M te σ H t x) {x' : α} (e : x = x') : Vl M te σ H t x' := e ▸ h
theorem vt_is {tt : TT} {b b' : Bool} (h : Vt M tt σ H b) (e : b = b') : Vt M tt σ H b' := e ▸ h
/-- an operation of two operands -/
theorem vl_op {r : R2} {w : Ty γ} {z : γ} (ha : Vl M ta σ H t x) (hb : Vl M tb σ H u y)
    (hr : ∀ v1 v2 H1, Ke M H H1 → Wf M H1 → t.rep M H1 v1 x → u.rep M H1 v2 y → ∀ Q : VK, (∀ v H2, Ke [] H1 H2 → w.rep M H2 v z → Q v H2) → r v1 v2 H1 Q) : Vl M (tOp r ta tb) σ H w z :=
  fun wf H1 k Q q => ha wf H1 k _ fun v1 H2 k2 r1 => hb wf H2 (k.trans k2.all) _ fun v2 H3 k3 r2 =>
    hr v1 v2 H3 ((k.trans k2.all).trans k3.all) (wf.keep ((k.trans k2.all).trans k3.all)) (t.keep k3.all r1) r2 Q fun v H4 k4 r4 => q v H4 ((k2.trans k3).trans k4) r4
theorem vl_I0 {g : Int → Int → V} {w : Ty γ} {f : Int → Int → γ} {i j : Int} (hg : ∀ M H, w.rep M H (g i j) (f i j)) (ha : Vl M ta σ H yInt i) (hb : Vl M tb σ H yInt j) : Vl M (tOp (rI0 g) ta tb) σ H w (f i j) :=
  vl_op ha hb fun v1 v2 H1 _ _ r1 r2 Q q => ⟨i, j, r1, r2, q _ H1 Ke.refl (hg _ _)⟩
theorem vl_I {C : Int → Int → Prop} {g : Int → Int → V} {w : Ty γ} {f : Int → Int → γ} {i j : Int} (hc : C i j) (hg : ∀ M H, w.rep M H (g i j) (f i j)) (ha : Vl M ta σ H yInt i) (hb : Vl M tb σ H yInt j) : Vl M (tOp (rI C g) ta tb) σ H w (f i j) :=
  vl_op ha hb fun v1 v2 H1 _ _ r1 r2 Q q => ⟨i, j, r1, r2, hc, q _ H1 Ke.refl (hg _ _)⟩
theorem vl_add {i j : Int} (ha : Vl M ta σ H yInt i) (hb : Vl M tb σ H yInt j) : Vl M (tOp (rI0 fun i j => .int (i + j)) ta tb) σ H yInt (i + j) := vl_I0 (f := fun i j => i + j) (fun _ _ => rfl) ha hb
theorem vl_sub {i j : Int} (ha : Vl M ta σ H yInt i) (hb : Vl M tb σ H yInt j) : Vl M (tOp (rI0 fun i j => .int (i - j)) ta tb) σ H yInt (i - j) := vl_I0 (f := fun i j => i - j) (fun _ _ => rfl) ha hb
theorem vl_lt {i j : Int} (ha : Vl M ta σ H yInt i) (hb : Vl M tb σ H yInt j) : Vl M (tOp (rI0 fun i j => .bl (decide (i < j))) ta tb) σ H yBool (decide (i < j)) := vl_I0 (f := fun i j => decide (i < j)) (fun _ _ => rfl) ha hb
theorem vl_le {i j : Int} (ha : Vl M ta σ H yInt i) (hb : Vl M tb σ H yInt j) : Vl M (tOp (rI0 fun i j => .bl (decide (i ≤ j))) ta tb) σ H yBool (decide (i ≤ j)) := vl_I0 (f := fun i j => decide (i ≤ j)) (fun _ _ => rfl) ha hb
theorem vl_gt {i j : Int} (ha : Vl M ta σ H yInt i) (hb : Vl M tb σ H yInt j) : Vl M (tOp (rI0 fun i j => .bl (decide (j < i))) ta tb) σ H yBool (decide (j < i)) := vl_I0 (f := fun i j => decide (j < i)) (fun _ _ => rfl) ha hb
theorem vl_ge {i j : Int} (ha : Vl M ta σ H yInt i) (hb : Vl M tb σ H yInt j) : Vl M (tOp (rI0 fun i j => .bl (decide (j ≤ i))) ta tb) σ H yBool (decide (j ≤ i)) := vl_I0 (f := fun i j => decide (j ≤ i)) (fun _ _ => rfl) ha hb
/-- == and != of what is no object -/
class Sca {α : Type} (t : Ty α) [DecidableEq α] : Prop where
  s : ∀ {M : List Addr} {H : Hp} {v w : V} {x y : α}, t.rep M H v x → t.rep M H w y → scal v w = true ∧ decide (v = w) = decide (x = y)
instance : Sca yInt := ⟨fun {_ _ v w x y} h k => by
  have e1 : v = .int x := h
  have e2 : w = .int y := k
  subst e1 e2
  exact ⟨rfl, by by_cases e : x = y <;> simp [e]⟩⟩
instance : Sca yStr := ⟨fun {_ _ v w x y} h k => by
  have e1 : v = .str x := h
  have e2 : w = .str y := k
  subst e1 e2
  exact ⟨rfl, by by_cases e : x = y <;> simp [e]⟩⟩
instance : Sca yBool := ⟨fun {_ _ v w x y} h k => by
  have e1 : v = .bl x := h
  have e2 : w = .bl y := k
  subst e1 e2
  exact ⟨rfl, by by_cases e : x = y <;> simp [e]⟩⟩
theorem vl_eq [DecidableEq α] [Sca t] {x y : α} (ha : Vl M ta σ H t x) (hb : Vl M tb σ H t y) : Vl M (tOp rEq ta tb) σ H yBool (decide (x = y)) :=
  vl_op ha hb fun v1 v2 H1 _ _ r1 r2 Q q => ⟨(Sca.s r1 r2).1, q _ H1 Ke.refl (congrArg V.bl (Sca.s r1 r2).2)⟩
theorem vl_ne [DecidableEq α] [Sca t] {x y : α} (ha : Vl M ta σ H t x) (hb : Vl M tb σ H t y) : Vl M (tOp rNe ta tb) σ H yBool (!decide (x = y)) :=
  vl_op ha hb fun v1 v2 H1 _ _ r1 r2 Q q => ⟨(Sca.s r1 r2).1, q _ H1 Ke.refl (by rw [(Sca.s r1 r2).2]; rfl)⟩
/-! tests -/
theorem vt_B {b : Bool} (h : Vl M te σ H yBool b) : Vt M (tB te) σ H b := fun wf H1 k _ q => h wf H1 k _ fun v H2 k2 r => ⟨b, r, q H2 k2⟩
theorem vt_test {b : Bool} (h : Vl M te σ H yBool b) : Vt M (tTest te) σ H b := fun wf H1 k _ q => h wf H1 k _ fun v H2 k2 r => ⟨b, r, q H2 k2⟩
theorem vt_and {tt tu : TT} {a b : Bool} (h1 : Vt M tt σ H a) (h2 : a = true → Vt M tu σ H b) : Vt M (tAnd tt tu) σ H (a && b) := fun wf H1 k Q q => h1 wf H1 k _ fun H2 k2 => by
  cases a with
  | true =>
    show tu σ H2 Q
    exact h2 rfl wf H2 (k.trans k2.all) Q fun H3 k3 => q H3 (k2.trans k3)
  | false =>
    show Q false H2
    exact q H2 k2
theorem vt_or {tt tu : TT} {a b : Bool} (h1 : Vt M tt σ H a) (h2 : a = false → Vt M tu σ H b) : Vt M (tOr tt tu) σ H (a || b) := fun wf H1 k Q q => h1 wf H1 k _ fun H2 k2 => by
  cases a with
  | true =>
    show Q true H2
    exact q H2 k2
  | false =>
    show tu σ H2 Q
    exact h2 rfl wf H2 (k.trans k2.all) Q fun H3 k3 => q H3 (k2.trans k3)
theorem vt_not {tt : TT} {a : Bool} (h : Vt M tt σ H a) : Vt M (tNot tt) σ H (!a) := fun wf H1 k _ q => h wf H1 k _ fun H2 k2 => q H2 k2
theorem vt_yes : Vt M tYes σ H true := fun _ H1 _ _ q => q H1 Ke.refl
theorem vl_not {a : Bool} (h : Vl M te σ H yBool a) : Vl M (tNotV te) σ H yBool (!a) := fun wf H1 k Q q => h wf H1 k _ fun v H2 k2 r => ⟨a, r, q _ H2 k2 rfl⟩
theorem vl_and {a b : Bool} (h1 : Vl M ta σ H yBool a) (h2 : a = true → Vl M tb σ H yBool b) : Vl M (tAndV ta tb) σ H yBool (a && b) := fun wf H1 k Q q => h1 wf H1 k _ fun v H2 k2 r => ⟨a, r, by
  cases a with
  | true =>
    show tb σ H2 Q
    exact h2 rfl wf H2 (k.trans k2.all) Q fun w H3 k3 => q w H3 (k2.trans k3)
  | false =>
    show Q (.bl false) H2
    exact q _ H2 k2 rfl⟩
theorem vl_or {a b : Bool} (h1 : Vl M ta σ H yBool a) (h2 : a = false → Vl M tb σ H yBool b) : Vl M (tOrV ta tb) σ H yBool (a || b) := fun wf H1 k Q q => h1 wf H1 k _ fun v H2 k2 r => ⟨a, r, by
  cases a with
  | true =>
    show Q (.bl true) H2
    exact q _ H2 k2 rfl
  | false =>
    show tb σ H2 Q
    exact h2 rfl wf H2 (k.trans k2.all) Q fun w H3 k3 => q w H3 (k2.trans k3)⟩
theorem vl_if {tt : TT} {b : Bool} (h : Vt M tt σ H b) (h1 : b = true → Vl M ta σ H t x) (h2 : b = false → Vl M tb σ H t x) : Vl M (tIf tt ta tb) σ H t x := fun wf H1 k Q q => h wf H1 k _ fun H2 k2 => by
  cases b with
  | true =>
    show ta σ H2 Q
    exact h1 rfl wf H2 (k.trans k2.all) Q fun w H3 k3 => q w H3 (k2.trans k3)
  | false =>
    show tb σ H2 Q
    exact h2 rfl wf H2 (k.trans k2.all) Q fun w H3 k3 => q w H3 (k2.trans k3)
/-! arguments -/
theorem va_nil : Va M tNil σ H (fun _ vs => vs = []) := fun _ H1 _ _ q => q [] H1 Ke.refl rfl
theorem va_cons {tr : TA} {R : Hp → List V → Prop} (h : Vl M te σ H t x) (hr : Va M tr σ H R) : Va M (tCons te tr) σ H (fun H2 vs => ∃ v r, vs = v :: r ∧ t.rep M H2 v x ∧ R H2 r) := fun wf H1 k _ q =>
  h wf H1 k _ fun v H2 k2 r2 => hr wf H2 (k.trans k2.all) _ fun vs H3 k3 r3 => q _ H3 (k2.trans k3) ⟨v, vs, rfl, t.keep k3.all r2, r3⟩
theorem va_one (h : Vl M te σ H t x) : Va M (tCons te tNil) σ H (fun H2 vs => ∃ v, vs = [v] ∧ t.rep M H2 v x) := fun wf H1 k _ q =>
  h wf H1 k _ fun v H2 k2 r2 => q [v] H2 k2 ⟨v, rfl, r2⟩
theorem va_two (h : Vl M ta σ H t x) (h' : Vl M tb σ H u y) : Va M (tCons ta (tCons tb tNil)) σ H (fun H2 vs => ∃ v w, vs = [v, w] ∧ t.rep M H2 v x ∧ u.rep M H2 w y) := fun wf H1 k _ q =>
  h wf H1 k _ fun v H2 k2 r2 => h' wf H2 (k.trans k2.all) _ fun w H3 k3 r3 => q [v, w] H3 (k2.trans k3) ⟨v, w, rfl, t.keep k3.all r2, r3⟩
/-- items of one kind -/
theorem va_snil : Va M tNil σ H (fun H2 vs => P2 (t.rep M H2) vs []) := fun _ H1 _ _ q => q [] H1 Ke.refl trivial
theorem va_scons {tr : TA} {xs : List α} (h : Vl M te σ H t x) (hr : Va M tr σ H (fun H2 vs => P2 (t.rep M H2) vs xs)) : Va M (tCons te tr) σ H (fun H2 vs => P2 (t.rep M H2) vs (x :: xs)) := fun wf H1 k _ q =>
  h wf H1 k _ fun v H2 k2 r2 => hr wf H2 (k.trans k2.all) _ fun vs H3 k3 r3 => q _ H3 (k2.trans k3) ⟨t.keep k3.all r2, r3⟩
theorem szle {n : Nat} (h : n ≤ 1000000) : n ≤ sizeLine := Nat.le_trans h (by decide)
theorem szlt {n : Nat} (h : n ≤ 1000000) : n < sizeLine := Nat.lt_of_le_of_lt h (by decide)
theorem vl_lst {ta : TA} {xs : List α} (h : Va M ta σ H (fun H2 vs => P2 (t.rep M H2) vs xs)) (hz : xs.length ≤ 1000000) : Vl M (tLst ta) σ H (yList t) xs := fun wf H1 k _ q =>
  h wf H1 k _ fun vs H2 k2 r => ⟨szle (by rw [r.len]; exact hz), fun p hp => q _ _ (k2.trans (Ke.new hp)) ⟨p, vs, rfl, (wf.keep (k.trans k2.all)).not hp, upd_same, r.imp fun _ _ => t.keep (Ke.new hp)⟩⟩
theorem vl_pair {ta tb : TE} (h : Vl M ta σ H t x) (h' : Vl M tb σ H u y) : Vl M (tTup (tCons ta (tCons tb tNil))) σ H (yPair K t u) (x, y) := fun wf H1 k _ q =>
  va_two h h' wf H1 k _ fun vs H2 k2 r => by
    obtain ⟨v, w, rfl, r1, r2⟩ := r
    exact ⟨by show 2 ≤ sizeLine; decide, fun p hp => q _ _ (k2.trans (Ke.new hp)) ⟨p, v, w, rfl, .inl ⟨(wf.keep (k.trans k2.all)).not hp, upd_same⟩, t.keep (Ke.new hp) r1, u.keep (Ke.new hp) r2⟩⟩
/-! calls of built-ins -/
theorem vl_cb {r : List V → Hp → VK → Prop} {ta : TA} {R : Hp → List V → Prop} (h : Va M ta σ H R) (hr : ∀ vs H1, Ke M H H1 → Wf M H1 → R H1 vs → ∀ Q : VK, (∀ v H2, Ke [] H1 H2 → t.rep M H2 v x → Q v H2) → r vs H1 Q) : Vl M (tCB r ta) σ H t x :=
  fun wf H1 k Q q => h wf H1 k _ fun vs H2 k2 r2 => hr vs H2 (k.trans k2.all) (wf.keep (k.trans k2.all)) r2 Q fun v H3 k3 => q v H3 (k2.trans k3)
end
/-! ### sequences -/
section
variable {α β γ : Type} {K : PySem.W.Frag} {M : List Addr} {σ : L2.St} {H H' : Hp} {t : Ty α} {u : Ty β} {te ta tb : TE} {x : α} {y : β} {v : V} {xs ys : List α}
/-- a list or a tuple of the datum xs -/
structure SeqY (K : PySem.W.Frag) (t : Ty α) (s : Ty (List α)) : Prop where
  sq : ∀ {M : List Addr} {H : Hp} {v : V} {xs : List α}, s.rep M H v xs → ∃ a vs, v = .ref a ∧ (SqL K H a vs ∨ SqT K H a vs) ∧ P2 (t.rep M H) vs xs
theorem seqL : SeqY K t (yList t) := ⟨fun ⟨a, vs, e, _, h, p⟩ => ⟨a, vs, e, .inl (SqL.of h), p⟩⟩
theorem seqT : SeqY K t (yTup K t) := ⟨fun ⟨a, vs, e, h, p⟩ => ⟨a, vs, e, .inr h.sq, p⟩⟩
def rLen (K : PySem.W.Frag) : List V → Hp → VK → Prop := fun xs H Q => ∃ p ys, xs = [.ref p] ∧ (SqL K H p ys ∨ SqT K H p ys) ∧ Q (.int ys.length) H
theorem vl_len {s : Ty (List α)} (S : SeqY K t s) (h : Vl M te σ H s xs) : Vl M (tCB (fun xs H Q => ∃ p ys, xs = [.ref p] ∧ (SqL K H p ys ∨ SqT K H p ys) ∧ Q (.int ys.length) H) (tCons te tNil)) σ H yInt (xs.length : Int) :=
  vl_cb (va_one h) fun vs H1 _ _ ⟨v, e, r⟩ Q q => by
    obtain ⟨a, ws, rfl, hs, p⟩ := S.sq r
    exact ⟨a, ws, e, hs, q _ H1 Ke.refl (by show V.int _ = V.int _; rw [p.len])⟩
theorem vl_listOf {s : Ty (List α)} (S : SeqY K t s) (h : Vl M te σ H s xs) : Vl M (tCB (fun xs H Q => ∃ p ys, xs = [.ref p] ∧ (SqL K H p ys ∨ SqT K H p ys) ∧ ∀ l, H l = none → Q (.ref l) (upd H l (.lst ys))) (tCons te tNil)) σ H (yList t) xs :=
  vl_cb (va_one h) fun vs H1 _ wf ⟨v, e, r⟩ Q q => by
    obtain ⟨a, ws, rfl, hs, p⟩ := S.sq r
    exact ⟨a, ws, e, hs, fun l hl => q _ _ (Ke.new hl) ⟨l, ws, rfl, wf.not hl, upd_same, p.imp fun _ _ => t.keep (Ke.new hl)⟩⟩
theorem vl_tupleOf (h : Vl M te σ H (yList t) xs) : Vl M (tCB (fun xs H Q => ∃ p ys, xs = [.ref p] ∧ ((SqL K H p ys ∧ ∀ l, H l = none → Q (.ref l) (upd H l (.tup ys))) ∨ (SqT K H p ys ∧ Q (.ref p) H))) (tCons te tNil)) σ H (yTup K t) xs :=
  vl_cb (va_one h) fun vs H1 _ wf ⟨v, e, r⟩ Q q => by
    obtain ⟨a, ws, rfl, n, hs, p⟩ := r
    exact ⟨a, ws, e, .inl ⟨SqL.of hs, fun l hl => q _ _ (Ke.new hl) ⟨l, ws, rfl, .inl ⟨wf.not hl, upd_same⟩, p.imp fun _ _ => t.keep (Ke.new hl)⟩⟩⟩
theorem vl_int1 {i : Int} (h : Vl M te σ H yInt i) : Vl M (tCB (fun xs H Q => (∃ i, xs = [.int i] ∧ Q (.int i) H) ∨ ∃ k, xs = [.bl k] ∧ Q (.int (if k then 1 else 0)) H) (tCons te tNil)) σ H yInt i :=
  vl_cb (va_one h) fun vs H1 _ _ ⟨v, e, r⟩ Q q => .inl ⟨i, by rw [e]; exact congrArg (fun z => [z]) r, q _ H1 Ke.refl rfl⟩
/-- in, not in -/
class Flat {α : Type} (t : Ty α) [DecidableEq α] : Prop where
  f : ∀ {M : List Addr} {H : Hp} {v : V} {x : α}, t.rep M H v x → flatV v = true
  e : ∀ {M : List Addr} {H : Hp} {v w : V} {x y : α}, t.rep M H v x → t.rep M H w y → eqV v w = decide (x = y)
instance : Flat yInt := ⟨fun {_ _ v x} h => by have e : v = .int x := h; subst e; rfl, fun {_ _ v w x y} h k => by
  have e1 : v = .int x := h
  have e2 : w = .int y := k
  subst e1 e2
  show (x == y) = decide (x = y)
  by_cases e : x = y <;> simp [e]⟩
instance : Flat yStr := ⟨fun {_ _ v x} h => by have e : v = .str x := h; subst e; rfl, fun {_ _ v w x y} h k => by
  have e1 : v = .str x := h
  have e2 : w = .str y := k
  subst e1 e2
  show (x == y) = decide (x = y)
  by_cases e : x = y <;> simp [e]⟩
theorem P2.flat [DecidableEq α] [Flat t] : ∀ {vs : List V} {xs : List α}, P2 (t.rep M H) vs xs → vs.all flatV = true
  | [], [], _ => rfl
  | [], _ :: _, h => h.elim
  | _ :: _, [], h => h.elim
  | _ :: _, _ :: _, h => by rw [List.all_cons, Flat.f h.1, h.2.flat] <;> rfl
theorem P2.isin [DecidableEq α] [Flat t] {v : V} {x : α} (r : t.rep M H v x) : ∀ {vs : List V} {xs : List α}, P2 (t.rep M H) vs xs → inV v vs = decide (x ∈ xs)
  | [], [], _ => by simp [inV]
  | [], _ :: _, h => h.elim
  | _ :: _, [], h => h.elim
  | w :: ws, y :: ys, h => by
    have ih : inV v ws = decide (x ∈ ys) := P2.isin r h.2
    show (eqV w v || inV v ws) = _
    rw [ih, Flat.e h.1 r]
    by_cases e : y = x
    · simp [e]
    · have e' : ¬ x = y := fun z => e z.symm
      simp [e, e']
theorem vl_in [DecidableEq α] [Flat t] {s : Ty (List α)} (S : SeqY K t s) (ha : Vl M ta σ H t x) (hb : Vl M tb σ H s xs) : Vl M (tOp (rIn K false) ta tb) σ H yBool (decide (x ∈ xs)) :=
  vl_op ha hb fun v1 v2 H1 _ _ r1 r2 Q q => by
    obtain ⟨a, ws, rfl, hs, p⟩ := S.sq r2
    exact ⟨a, ws, rfl, hs, Flat.f r1, p.flat, q _ H1 Ke.refl (congrArg V.bl (p.isin r1))⟩
theorem vl_notin [DecidableEq α] [Flat t] {s : Ty (List α)} (S : SeqY K t s) (ha : Vl M ta σ H t x) (hb : Vl M tb σ H s xs) : Vl M (tOp (rIn K true) ta tb) σ H yBool (!decide (x ∈ xs)) :=
  vl_op ha hb fun v1 v2 H1 _ _ r1 r2 Q q => by
    obtain ⟨a, ws, rfl, hs, p⟩ := S.sq r2
    exact ⟨a, ws, rfl, hs, Flat.f r1, p.flat, q _ H1 Ke.refl (congrArg (fun b => V.bl (!b)) (p.isin r1))⟩
/-- xs + ys -/
theorem vl_cat (ha : Vl M ta σ H (yList t) xs) (hb : Vl M tb σ H (yList t) ys) (hz : xs.length + ys.length ≤ 1000000) : Vl M (tOp rCat ta tb) σ H (yList t) (xs ++ ys) :=
  vl_op ha hb fun v1 v2 H1 _ wf r1 r2 Q q => by
    obtain ⟨a, ws, rfl, n, h, p⟩ := r1
    obtain ⟨b, zs, rfl, n', h', p'⟩ := r2
    exact ⟨a, b, ws, zs, rfl, rfl, h, h', szle (by rw [p.len, p'.len]; exact hz), fun l hl => q _ _ (Ke.new hl) ⟨l, _, rfl, wf.not hl, upd_same, (p.app p').imp fun _ _ => t.keep (Ke.new hl)⟩⟩
/-- xs[i] -/
theorem vl_ixL {i : Nat} {j : Int} (ha : Vl M ta σ H (yList t) xs) (hb : Vl M tb σ H yInt j) (hj : j = (i : Int)) (hx : xs[i]? = some x) : Vl M (tOp (rIxL K) ta tb) σ H t x :=
  vl_op ha hb fun v1 v2 H1 _ _ r1 r2 Q q => by
    obtain ⟨a, ws, rfl, n, h, p⟩ := r1
    obtain ⟨v, e, r⟩ := p.tog hx
    exact ⟨a, ws, j, v, rfl, r2, SqL.of h, by rw [hj]; exact atI_nat e, q _ H1 Ke.refl r⟩
theorem vl_ixT {i : Nat} {j : Int} (ha : Vl M ta σ H (yTup K t) xs) (hb : Vl M tb σ H yInt j) (hj : j = (i : Int)) (hx : xs[i]? = some x) : Vl M (tOp (rIxT K) ta tb) σ H t x :=
  vl_op ha hb fun v1 v2 H1 _ _ r1 r2 Q q => by
    obtain ⟨a, ws, rfl, h, p⟩ := r1
    obtain ⟨v, e, r⟩ := p.tog hx
    exact ⟨a, ws, j, v, rfl, r2, h.sq, by rw [hj]; exact atI_nat e, q _ H1 Ke.refl r⟩
/-- == and != of data -/
structure IsD {α : Type} (K : PySem.W.Frag) (t : Ty α) (d : α → PyData) : Prop where
  dp : ∀ {M : List Addr} {H : Hp} {v : V} {x : α}, t.rep M H v x → Dp K H v (d x)
theorem isD_int : IsD K yInt PyData.int := ⟨fun {M H v x} h => by have e : v = .int x := h; subst e; exact .int x⟩
theorem isD_str : IsD K yStr PyData.str := ⟨fun {M H v x} h => by have e : v = .str x := h; subst e; exact .str x⟩
theorem isD_bool : IsD K yBool PyData.bool := ⟨fun {M H v x} h => by have e : v = .bl x := h; subst e; exact .bl x⟩
theorem P2.dp {d : α → PyData} (D : IsD K t d) : ∀ {vs : List V} {xs : List α}, P2 (t.rep M H) vs xs → DpAll K H vs (xs.map d)
  | [], [], _ => .nil
  | [], _ :: _, h => h.elim
  | _ :: _, [], h => h.elim
  | _ :: _, _ :: _, h => .cons (D.dp h.1) (h.2.dp D)
theorem isD_list {d : α → PyData} (D : IsD K t d) : IsD K (yList t) (fun xs => PyData.list (xs.map d)) := ⟨fun {M H v x} ⟨a, vs, e, n, h, p⟩ => by subst e; exact .lst (SqL.of h) (p.dp D)⟩
theorem isD_tup {d : α → PyData} (D : IsD K t d) : IsD K (yTup K t) (fun xs => PyData.tuple (xs.map d)) := ⟨fun {M H v x} ⟨a, vs, e, h, p⟩ => by subst e; exact .tup h.sq (p.dp D)⟩
theorem isD_pair {d : α → PyData} {d' : β → PyData} (D : IsD K t d) (D' : IsD K u d') : IsD K (yPair K t u) (fun x => PyData.tuple [d x.1, d' x.2]) := ⟨fun {M H v x} ⟨a, y, z, e, h, p, q⟩ => by subst e; exact .tup h.sq (.cons (D.dp p) (.cons (D'.dp q) .nil))⟩
theorem vl_eqD {d : α → PyData} {d' : β → PyData} {b : Bool} (D : IsD K t d) (D' : IsD K u d') (ha : Vl M ta σ H t x) (hb : Vl M tb σ H u y) (s1 : SeqAt.shaped (d x) = true) (s2 : SeqAt.shaped (d' y) = true) (hb' : PyData.eqv (d x) (d' y) = b) : Vl M (tOp (rEqD K) ta tb) σ H yBool b :=
  vl_op ha hb fun v1 v2 H1 _ _ r1 r2 Q q => ⟨_, _, D.dp r1, D'.dp r2, s1, s2, q _ H1 Ke.refl (congrArg V.bl hb')⟩
theorem vl_neD {d : α → PyData} {d' : β → PyData} {b : Bool} (D : IsD K t d) (D' : IsD K u d') (ha : Vl M ta σ H t x) (hb : Vl M tb σ H u y) (s1 : SeqAt.shaped (d x) = true) (s2 : SeqAt.shaped (d' y) = true) (hb' : PyData.eqv (d x) (d' y) = b) : Vl M (tOp (rNeD K) ta tb) σ H yBool (!b) :=
  vl_op ha hb fun v1 v2 H1 _ _ r1 r2 Q q => ⟨_, _, D.dp r1, D'.dp r2, s1, s2, q _ H1 Ke.refl (congrArg (fun b => V.bl (!b)) hb')⟩
end
/-! equality of data -/
theorem eqvAll_map {α : Type} [DecidableEq α] {d : α → PyData} (h : ∀ x y, PyData.eqv (d x) (d y) = decide (x = y)) : ∀ xs ys : List α, PyData.eqvAll (xs.map d) (ys.map d) = decide (xs = ys)
  | [], [] => by simp [PyData.eqvAll]
  | [], _ :: _ => by simp [PyData.eqvAll]
  | _ :: _, [] => by simp [PyData.eqvAll]
  | x :: xs, y :: ys => by
    show (PyData.eqv (d x) (d y) && PyData.eqvAll (xs.map d) (ys.map d)) = _
    rw [h, eqvAll_map h xs ys]
    by_cases e : x = y <;> by_cases e' : xs = ys <;> simp [e, e']
theorem eqv_str (x y : Str) : PyData.eqv (.str x) (.str y) = decide (x = y) := by
  show (x == y) = _
  by_cases e : x = y <;> simp [e]
theorem eqv_int (x y : Int) : PyData.eqv (.int x) (.int y) = decide (x = y) := by
  show (x == y) = _
  by_cases e : x = y <;> simp [e]
theorem eqv_strs (xs ys : List Str) : PyData.eqv (.list (xs.map .str)) (.list (ys.map .str)) = decide (xs = ys) := eqvAll_map eqv_str xs ys
theorem eqv_ints (xs ys : List Int) : PyData.eqv (.list (xs.map .int)) (.list (ys.map .int)) = decide (xs = ys) := eqvAll_map eqv_int xs ys
theorem eqv_strsT (xs ys : List Str) : PyData.eqv (.tuple (xs.map .str)) (.tuple (ys.map .str)) = decide (xs = ys) := eqvAll_map eqv_str xs ys
/-! ### environments: what the slots hold, as data -/
structure Slot where
  {α : Type}
  t : Ty α
  x : α
abbrev SS := List (Option Slot)
def Env (M : List Addr) (H : Hp) : L2.St → SS → Prop
  | [], [] => True
  | _ :: σ, none :: ss => Env M H σ ss
  | some v :: σ, some s :: ss => s.t.rep M H v s.x ∧ Env M H σ ss
  | _, _ => False
section
variable {M M' : List Addr} {H H' : Hp} {p : Addr}
theorem Env.keep (k : Ke M H H') : ∀ {σ : L2.St} {ss : SS}, Env M H σ ss → Env M H' σ ss
  | [], [], _ => trivial
  | [], _ :: _, h => h.elim
  | _ :: _, [], h => h.elim
  | none :: σ, none :: ss, h => Env.keep (σ := σ) (ss := ss) k h
  | some _ :: σ, none :: ss, h => Env.keep (σ := σ) (ss := ss) k h
  | none :: _, some _ :: _, h => h.elim
  | some _ :: σ, some s :: ss, h => ⟨s.t.keep k h.1, Env.keep (σ := σ) (ss := ss) k h.2⟩
theorem Env.less (k : ∀ a ∈ M', a ∈ M) : ∀ {σ : L2.St} {ss : SS}, Env M H σ ss → Env M' H σ ss
  | [], [], _ => trivial
  | [], _ :: _, h => h.elim
  | _ :: _, [], h => h.elim
  | none :: σ, none :: ss, h => Env.less (σ := σ) (ss := ss) k h
  | some _ :: σ, none :: ss, h => Env.less (σ := σ) (ss := ss) k h
  | none :: _, some _ :: _, h => h.elim
  | some _ :: σ, some s :: ss, h => ⟨s.t.less k h.1, Env.less (σ := σ) (ss := ss) k h.2⟩
theorem Env.more (f : H p = none) : ∀ {σ : L2.St} {ss : SS}, Env M H σ ss → Env (p :: M) H σ ss
  | [], [], _ => trivial
  | [], _ :: _, h => h.elim
  | _ :: _, [], h => h.elim
  | none :: σ, none :: ss, h => Env.more (σ := σ) (ss := ss) f h
  | some _ :: σ, none :: ss, h => Env.more (σ := σ) (ss := ss) f h
  | none :: _, some _ :: _, h => h.elim
  | some _ :: σ, some s :: ss, h => ⟨s.t.more f h.1, Env.more (σ := σ) (ss := ss) f h.2⟩
theorem Env.get {α : Type} {t : Ty α} {x : α} : ∀ {σ : L2.St} {ss : SS} {i : Nat}, Env M H σ ss → ss[i]? = some (some ⟨t, x⟩) → ∃ v, σ[i]? = some (some v) ∧ t.rep M H v x
  | [], [], _, _, e => by cases e
  | [], _ :: _, _, h, _ => h.elim
  | _ :: _, [], _, h, _ => h.elim
  | _ :: _, none :: _, 0, _, e => by cases e
  | _ :: _, none :: _, i + 1, h, e => by
    rename_i o σ ss
    have h' : Env M H σ ss := by cases o <;> exact h
    obtain ⟨v, e', r⟩ := Env.get (i := i) h' e
    exact ⟨v, e', r⟩
  | none :: _, some _ :: _, _, h, _ => h.elim
  | some v :: _, some s :: _, 0, h, e => by
    have e' := Option.some.inj (Option.some.inj e)
    subst e'
    exact ⟨v, rfl, h.1⟩
  | some _ :: _, some _ :: _, i + 1, h, e => by
    obtain ⟨v, e', r⟩ := Env.get (i := i) h.2 e
    exact ⟨v, e', r⟩
theorem Env.set {α : Type} {t : Ty α} {x : α} {v : V} (r : t.rep M H v x) : ∀ {σ : L2.St} {ss : SS} (i : Nat), Env M H σ ss → Env M H (σ.set i (some v)) (ss.set i (some ⟨t, x⟩))
  | [], [], _, _ => trivial
  | [], _ :: _, _, h => h.elim
  | _ :: _, [], _, h => h.elim
  | none :: _, none :: _, 0, h => ⟨r, h⟩
  | some _ :: _, none :: _, 0, h => ⟨r, h⟩
  | none :: σ, none :: ss, i + 1, h => Env.set (σ := σ) (ss := ss) r i h
  | some _ :: σ, none :: ss, i + 1, h => Env.set (σ := σ) (ss := ss) r i h
  | none :: _, some _ :: _, _, h => h.elim
  | some _ :: _, some _ :: _, 0, h => ⟨r, h.2⟩
  | some _ :: σ, some _ :: ss, i + 1, h => ⟨h.1, Env.set (σ := σ) (ss := ss) r i h.2⟩
theorem Env.clear : ∀ {σ : L2.St} {ss : SS} (i : Nat), Env M H σ ss → Env M H (σ.set i none) (ss.set i none)
  | [], [], _, _ => trivial
  | [], _ :: _, _, h => h.elim
  | _ :: _, [], _, h => h.elim
  | none :: _, none :: _, 0, h => h
  | some _ :: _, none :: _, 0, h => h
  | none :: σ, none :: ss, i + 1, h => Env.clear (σ := σ) (ss := ss) i h
  | some _ :: σ, none :: ss, i + 1, h => Env.clear (σ := σ) (ss := ss) i h
  | none :: _, some _ :: _, _, h => h.elim
  | some _ :: _, some _ :: _, 0, h => h.2
  | some _ :: σ, some _ :: ss, i + 1, h => ⟨h.1, Env.clear (σ := σ) (ss := ss) i h.2⟩
end
def wipeS (ss : SS) : List Nat → SS
  | [] => ss
  | v :: vs => (wipeS ss vs).set v none
theorem Env.wipe {M : List Addr} {H : Hp} {σ : L2.St} {ss : SS} (E : Env M H σ ss) : ∀ ws : List Nat, Env M H (L2.wipe σ ws) (wipeS ss ws)
  | [] => E
  | v :: vs => Env.clear v (Env.wipe E vs)
theorem wipe_at {σ : L2.St} {j : Nat} : ∀ {ws : List Nat}, j ∈ ws → (wipe σ ws).set j none = wipe σ ws
  | [], h => by cases h
  | w :: ws, h => by
    show ((wipe σ ws).set w none).set j none = (wipe σ ws).set w none
    by_cases e : w = j
    · rw [e, List.set_set]
    · rw [List.set_comm _ _ e, wipe_at (by rcases List.mem_cons.mp h with z | z; exact absurd z.symm e; exact z)]
theorem wipe_set {σ : L2.St} {o : Option V} {j : Nat} : ∀ {ws : List Nat}, j ∈ ws → wipe (σ.set j o) ws = wipe σ ws
  | [], h => by cases h
  | w :: ws, h => by
    show (wipe (σ.set j o) ws).set w none = (wipe σ ws).set w none
    by_cases m : j ∈ ws
    · rw [wipe_set m]
    · have e : w = j := by
        rcases List.mem_cons.mp h with z | z
        · exact z.symm
        · exact absurd z m
      have key : ∀ (us : List Nat) (τ : L2.St), (wipe (τ.set j o) us).set j none = (wipe τ us).set j none := by
        intro us
        induction us with
        | nil => intro τ; show (τ.set j o).set j none = τ.set j none; rw [List.set_set]
        | cons u us ih =>
          intro τ
          show ((wipe (τ.set j o) us).set u none).set j none = ((wipe τ us).set u none).set j none
          by_cases e' : u = j
          · rw [e', List.set_set, List.set_set, ih]
          · rw [List.set_comm _ _ e', List.set_comm _ _ e', ih]
      rw [e]
      exact key ws σ
theorem wipe_wipe {σ : L2.St} : ∀ {us ws : List Nat}, (∀ j ∈ us, j ∈ ws) → wipe (wipe σ us) ws = wipe σ ws
  | [], _, _ => rfl
  | u :: us, ws, h => by
    show wipe ((wipe σ us).set u none) ws = wipe σ ws
    rw [wipe_set (h u List.mem_cons_self), wipe_wipe fun j hj => h j (List.mem_cons_of_mem _ hj)]

/-! ### evaluation over an environment -/
def Ve {α : Type} (te : TE) (ss : SS) (t : Ty α) (x : α) : Prop := ∀ M σ H, Env M H σ ss → Vl M te σ H t x
def Vb (tt : TT) (ss : SS) (b : Bool) : Prop := ∀ M σ H, Env M H σ ss → Vt M tt σ H b
/-- a target takes a datum: the slots ws alone are changed -/
def Tg {α : Type} (g : TG) (t : Ty α) (ws : List Nat) (f : α → SS → SS) : Prop := ∀ M σ H ss v x, Env M H σ ss → t.rep M H v x → ∀ Q : L2.St → Hp → Prop, (∀ σ', wipe σ' ws = wipe σ ws → Env M H σ' (f x ss) → Q σ' H) → g v σ H Q
section
variable {α β γ δ : Type} {K : PySem.W.Frag} {ss : SS} {t : Ty α} {u : Ty β} {te ta tb tl : TE} {tt tu : TT} {x : α} {y : β} {xs ys : List α}
theorem ve_v {i : Nat} (h : ss[i]? = some (some ⟨t, x⟩)) : Ve (tVar i) ss t x := fun _ _ _ E => by
  obtain ⟨v, e, r⟩ := E.get h
  exact vl_var e r
theorem tg_name {j : Nat} {ws : List Nat} (h : j ∈ ws) : Tg (gName j) t ws (fun x ss => ss.set j (some ⟨t, x⟩)) := fun M σ H ss v x E r Q q => q _ (wipe_set h) (E.set r j)
theorem tg_pair {i j : Nat} {ws : List Nat} (hi : i ∈ ws) (hj : j ∈ ws) : Tg (gTup K 2 (gCons (gName i) (gCons (gName j) gNil))) (yPair K t u) ws (fun x ss => (ss.set i (some ⟨t, x.1⟩)).set j (some ⟨u, x.2⟩)) := fun M σ H ss v x E r Q q => by
  obtain ⟨a, y, z, rfl, h, r1, r2⟩ := r
  exact ⟨a, _, rfl, h.sq, rfl, _, _, rfl, _, _, rfl, rfl, q _ (by rw [wipe_set hj, wipe_set hi]) ((E.set r1 i).set r2 j)⟩
/-- what the comprehension's list at Dl holds -/
def Cw (M : List Addr) (H : Hp) (u : Ty β) (Dl : Addr) (ys : List β) (H' : Hp) : Prop := H Dl = none ∧ Ke [Dl] H H' ∧ ∃ vs, H' Dl = some (.lst vs) ∧ P2 (u.rep (Dl :: M) H') vs ys
theorem cw_turn {M : List Addr} {H H' : Hp} {Dl : Addr} {σ2 : L2.St} {ys : List β} {b : Bool} {y : β} (wf : Wf M H) (c : Cw M H u Dl ys H') (hz : ys.length ≤ 1000000) (ht : Vt (Dl :: M) tt σ2 H' b) (he : b = true → Vl (Dl :: M) te σ2 H' u y) :
    tt σ2 H' fun c H3 => if c = true then te σ2 H3 fun z H4 => ∃ acc, H4 Dl = some (.lst acc) ∧ acc.length < sizeLine ∧ Cw M H u Dl (if b = true then ys ++ [y] else ys) (upd H4 Dl (.lst (acc ++ [z]))) else Cw M H u Dl (if b = true then ys ++ [y] else ys) H3 := by
  obtain ⟨c1, c2, vs, c3, c4⟩ := c
  have wf' : Wf (Dl :: M) H' := (wf.keep c2).cons c3
  refine ht wf' H' Ke.refl _ fun H3 k3 => ?_
  cases b with
  | true =>
    show te σ2 H3 fun z H4 => ∃ acc, H4 Dl = some (.lst acc) ∧ acc.length < sizeLine ∧ Cw M H u Dl (ys ++ [y]) (upd H4 Dl (.lst (acc ++ [z])))
    refine he rfl wf' H3 k3.all _ fun v H4 k4 r => ⟨vs, (k3.trans k4).one c3, szlt (by rw [c4.len]; exact hz), c1, (c2.trans (k3.trans k4).all).trans (Ke.mut List.mem_cons_self), _, upd_same, ?_⟩
    exact (c4.imp fun _ _ => u.keep ((k3.trans k4).all.trans (Ke.mut List.mem_cons_self))).app ⟨u.keep (Ke.mut List.mem_cons_self) r, trivial⟩
  | false =>
    show Cw M H u Dl ys H3
    exact ⟨c1, c2.trans k3.all, vs, k3.one c3, c4.imp fun _ _ => u.keep k3.all⟩
theorem Cw.ke {M : List Addr} {H H' : Hp} {Dl : Addr} {ys : List β} (c : Cw M H u Dl ys H') : Ke (Dl :: M) H H' := c.2.1.sub fun _ h => by rw [List.mem_singleton.mp h]; exact List.mem_cons_self
theorem take_turn {p : α → Bool} {g : α → β} {i : Nat} (h : xs[i]? = some x) : ((xs.take (i + 1)).filter p).map g = if p x = true then ((xs.take i).filter p).map g ++ [g x] else ((xs.take i).filter p).map g := by
  rw [List.take_add_one, h, List.filter_append, List.map_append]
  cases e : p x with
  | true => simp [e]
  | false => simp [e]
theorem take_len {p : α → Bool} {g : α → β} {i n : Nat} (h : xs.length ≤ n) : (((xs.take i).filter p).map g).length ≤ n := by
  rw [List.length_map]
  refine Nat.le_trans (List.length_filter_le _ _) ?_
  rw [List.length_take]
  omega
theorem ve_lcL {g : TG} {ws : List Nat} {f : α → SS → SS} (p : α → Bool) (m : α → β) (T : Tg g t ws f) (hl : Ve tl ss (yList t) xs) (hz : xs.length ≤ 1000000) (ht : ∀ x ∈ xs, Vb tt (f x (wipeS ss ws)) (p x)) (he : ∀ x ∈ xs, p x = true → Ve te (f x (wipeS ss ws)) u (m x)) :
    Ve (tLc (iList K tl) g tt te ws) ss (yList u) ((xs.filter p).map m) := fun M σ H E wf H1 k Q q => hl M σ H E wf H1 k _ fun v H2 k2 r => by
  obtain ⟨a, vs, rfl, n, ha, pr⟩ := r
  have E2 : Env M H2 σ ss := E.keep (k.trans k2.all)
  have wf2 : Wf M H2 := wf.keep (k.trans k2.all)
  refine ⟨a, rfl, ⟨vs, SqL.of ha⟩, fun Dl hD => lc_list (xs := vs) (fun i H' => Cw M H2 u Dl (((xs.take i).filter p).map m) H') ⟨hD, (Ke.new hD), [], upd_same, trivial⟩ (fun i H' _ c => ?_) (fun i v H' hv c => ?_) (fun H' c => ?_)⟩
  · exact SqL.of (c.2.1.keep a _ (fun z => by rw [List.mem_singleton.mp z, hD] at ha; cases ha) ha)
  · obtain ⟨x, hx, rx⟩ := pr.get hv
    have E3 : Env (Dl :: M) H' (wipe σ ws) (wipeS ss ws) := ((E2.more hD).keep c.ke).wipe ws
    refine T (Dl :: M) (wipe σ ws) H' (wipeS ss ws) v x E3 (t.keep c.ke (t.more hD rx)) _ fun σ' hw E4 => ⟨hw.trans (wipe_wipe fun _ h => h), ?_⟩
    have hm : x ∈ xs := List.mem_of_getElem? hx
    rw [take_turn hx]
    exact cw_turn wf2 c (take_len hz) (ht x hm (Dl :: M) σ' H' E4) fun hb => he x hm hb (Dl :: M) σ' H' E4
  · obtain ⟨c1, c2, ws', c3, c4⟩ := c
    rw [pr.len, List.take_length] at c4
    exact q _ H' (k2.trans (c2.old c1)) ⟨Dl, ws', rfl, wf2.not hD, c3, c4.imp fun _ _ => u.less fun _ h => List.mem_cons_of_mem _ h⟩
end
section
variable {α β γ δ : Type} {K : PySem.W.Frag} {ss : SS} {t : Ty α} {u : Ty β} {te ta tb tl : TE} {tt tu : TT} {x : α} {y : β} {xs ys : List α}
theorem ve_lcT {g : TG} {ws : List Nat} {f : α → SS → SS} (p : α → Bool) (m : α → β) (T : Tg g t ws f) (hl : Ve tl ss (yTup K t) xs) (hz : xs.length ≤ 1000000) (ht : ∀ x ∈ xs, Vb tt (f x (wipeS ss ws)) (p x)) (he : ∀ x ∈ xs, p x = true → Ve te (f x (wipeS ss ws)) u (m x)) :
    Ve (tLc (iTup K tl) g tt te ws) ss (yList u) ((xs.filter p).map m) := fun M σ H E wf H1 k Q q => hl M σ H E wf H1 k _ fun v H2 k2 r => by
  obtain ⟨a, vs, rfl, ha, pr⟩ := r
  have E2 : Env M H2 σ ss := E.keep (k.trans k2.all)
  have wf2 : Wf M H2 := wf.keep (k.trans k2.all)
  refine ⟨a, rfl, ⟨vs, ha.sq⟩, fun Dl hD => lc_tup (xs := vs) (fun i H' => Cw M H2 u Dl (((xs.take i).filter p).map m) H') ⟨hD, (Ke.new hD), [], upd_same, trivial⟩ (fun i H' _ c => ?_) (fun i v H' hv c => ?_) (fun H' c => ?_)⟩
  · exact ((ha.more hD).keep c.ke).sq
  · obtain ⟨x, hx, rx⟩ := pr.get hv
    have E3 : Env (Dl :: M) H' (wipe σ ws) (wipeS ss ws) := ((E2.more hD).keep c.ke).wipe ws
    refine T (Dl :: M) (wipe σ ws) H' (wipeS ss ws) v x E3 (t.keep c.ke (t.more hD rx)) _ fun σ' hw E4 => ⟨hw.trans (wipe_wipe fun _ h => h), ?_⟩
    have hm : x ∈ xs := List.mem_of_getElem? hx
    rw [take_turn hx]
    exact cw_turn wf2 c (take_len hz) (ht x hm (Dl :: M) σ' H' E4) fun hb => he x hm hb (Dl :: M) σ' H' E4
  · obtain ⟨c1, c2, ws', c3, c4⟩ := c
    rw [pr.len, List.take_length] at c4
    exact q _ H' (k2.trans (c2.old c1)) ⟨Dl, ws', rfl, wf2.not hD, c3, c4.imp fun _ _ => u.less fun _ h => List.mem_cons_of_mem _ h⟩
/-- the numbers from 0 below n -/
def upto (n : Int) : List Int := (List.range n.toNat).map fun i : Nat => (i : Int)
theorem upto_get {n : Int} {i : Nat} (h : i < n.toNat) : (upto n)[i]? = some (i : Int) := by
  unfold upto
  rw [List.getElem?_map, List.getElem?_range h] <;> rfl
theorem upto_len (n : Int) : (upto n).length = n.toNat := by
  unfold upto
  rw [List.length_map, List.length_range]
theorem mem_upto {n i : Int} : i ∈ upto n ↔ 0 ≤ i ∧ i < n := by
  unfold upto
  rw [List.mem_map]
  constructor
  · rintro ⟨k, hk, rfl⟩
    have := List.mem_range.mp hk
    omega
  · intro h
    exact ⟨i.toNat, List.mem_range.mpr (by omega), by omega⟩
theorem ve_lcR {j : Nat} {ws : List Nat} {n : Int} (p : Int → Bool) (m : Int → β) (hj : j ∈ ws) (hl : Ve tl ss yInt n) (hz : n ≤ 1000000) (ht : ∀ x : Int, 0 ≤ x → x < n → Vb tt ((wipeS ss ws).set j (some ⟨yInt, x⟩)) (p x)) (he : ∀ x : Int, 0 ≤ x → x < n → p x = true → Ve te ((wipeS ss ws).set j (some ⟨yInt, x⟩)) u (m x)) (hn : -1000000 ≤ n) :
    Ve (tLc (iRng1 (tCons tl tNil)) (gName j) tt te ws) ss (yList u) (((upto n).filter p).map m) := fun M σ H E wf H1 k Q q => hl M σ H E wf H1 k _ fun v H2 k2 r => by
  have rv : v = .int n := r
  subst rv
  have E2 : Env M H2 σ ss := E.keep (k.trans k2.all)
  have wf2 : Wf M H2 := wf.keep (k.trans k2.all)
  have hz' : (upto n).length ≤ 1000000 := by rw [upto_len]; omega
  refine ⟨n, rfl, by omega, by omega, fun Dl hD => lc_range (lo := 0) (n := n.toNat) (fun i H' => Cw M H2 u Dl ((((upto n).take i).filter p).map m) H') ⟨hD, (Ke.new hD), [], upd_same, trivial⟩ (fun i H' hi c => ?_) (fun H' c => ?_)⟩
  · have hx := upto_get hi
    have E3 : Env (Dl :: M) H' (wipe σ ws) (wipeS ss ws) := ((E2.more hD).keep c.ke).wipe ws
    have e0 : (0 : Int) + (i : Int) = (i : Int) := Int.zero_add _
    rw [e0]
    have E4 : Env (Dl :: M) H' ((wipe σ ws).set j (some (.int (i : Int)))) ((wipeS ss ws).set j (some ⟨yInt, (i : Int)⟩)) := E3.set (t := yInt) (x := (i : Int)) rfl j
    refine ⟨(wipe_set hj).trans (wipe_wipe fun _ h => h), ?_⟩
    rw [take_turn hx]
    exact cw_turn wf2 c (take_len hz') (ht i (by omega) (by omega) (Dl :: M) _ H' E4) fun hb => he i (by omega) (by omega) hb (Dl :: M) _ H' E4
  · obtain ⟨c1, c2, ws', c3, c4⟩ := c
    rw [← upto_len, List.take_length] at c4
    exact q _ H' (k2.trans (c2.old c1)) ⟨Dl, ws', rfl, wf2.not hD, c3, c4.imp fun _ _ => u.less fun _ h => List.mem_cons_of_mem _ h⟩
/-! the rules of Vl over an environment -/
theorem ve_int {i : Int} : Ve (tC (.int i)) ss yInt i := fun _ _ _ _ => vl_int
theorem ve_str {s : Str} : Ve (tC (.str s)) ss yStr s := fun _ _ _ _ => vl_str
theorem ve_bl {b : Bool} : Ve (tC (.bl b)) ss yBool b := fun _ _ _ _ => vl_bl
theorem ve_non : Ve (tC .non) ss yNon () := fun _ _ _ _ => vl_non
theorem ve_k {v : V} (h : ∀ M H, t.rep M H v x) : Ve (tC v) ss t x := fun M _ H _ => vl_c (h M H)
theorem ve_is (h : Ve te ss t x) {x' : α} (e : x = x') : Ve te ss t x' := e ▸ h
theorem vb_is {b b' : Bool} (h : Vb tt ss b) (e : b = b') : Vb tt ss b' := e ▸ h
theorem ve_op {r : R2} {w : Ty γ} {z : γ} (ha : Ve ta ss t x) (hb : Ve tb ss u y)
    (hr : ∀ M v1 v2 H1, Wf M H1 → t.rep M H1 v1 x → u.rep M H1 v2 y → ∀ Q : VK, (∀ v H2, Ke [] H1 H2 → w.rep M H2 v z → Q v H2) → r v1 v2 H1 Q) : Ve (tOp r ta tb) ss w z :=
  fun M σ H E => vl_op (ha M σ H E) (hb M σ H E) fun v1 v2 H1 _ wf r1 r2 Q q => hr M v1 v2 H1 wf r1 r2 Q q
theorem ve_add {i j : Int} (ha : Ve ta ss yInt i) (hb : Ve tb ss yInt j) : Ve (tOp (rI0 fun i j => .int (i + j)) ta tb) ss yInt (i + j) := fun M σ H E => vl_add (ha M σ H E) (hb M σ H E)
theorem ve_sub {i j : Int} (ha : Ve ta ss yInt i) (hb : Ve tb ss yInt j) : Ve (tOp (rI0 fun i j => .int (i - j)) ta tb) ss yInt (i - j) := fun M σ H E => vl_sub (ha M σ H E) (hb M σ H E)
theorem ve_lt {i j : Int} (ha : Ve ta ss yInt i) (hb : Ve tb ss yInt j) : Ve (tOp (rI0 fun i j => .bl (decide (i < j))) ta tb) ss yBool (decide (i < j)) := fun M σ H E => vl_lt (ha M σ H E) (hb M σ H E)
theorem ve_le {i j : Int} (ha : Ve ta ss yInt i) (hb : Ve tb ss yInt j) : Ve (tOp (rI0 fun i j => .bl (decide (i ≤ j))) ta tb) ss yBool (decide (i ≤ j)) := fun M σ H E => vl_le (ha M σ H E) (hb M σ H E)
theorem ve_gt {i j : Int} (ha : Ve ta ss yInt i) (hb : Ve tb ss yInt j) : Ve (tOp (rI0 fun i j => .bl (decide (j < i))) ta tb) ss yBool (decide (j < i)) := fun M σ H E => vl_gt (ha M σ H E) (hb M σ H E)
theorem ve_ge {i j : Int} (ha : Ve ta ss yInt i) (hb : Ve tb ss yInt j) : Ve (tOp (rI0 fun i j => .bl (decide (j ≤ i))) ta tb) ss yBool (decide (j ≤ i)) := fun M σ H E => vl_ge (ha M σ H E) (hb M σ H E)
theorem ve_mod {i j : Int} (h : 0 < j) (ha : Ve ta ss yInt i) (hb : Ve tb ss yInt j) : Ve (tOp (rI (fun _ j => 0 < j) fun i j => .int (i % j)) ta tb) ss yInt (i % j) := fun M σ H E => vl_I (f := fun i j => i % j) h (fun _ _ => rfl) (ha M σ H E) (hb M σ H E)
theorem ve_fdiv {i j : Int} (h : CDiv i j) (ha : Ve ta ss yInt i) (hb : Ve tb ss yInt j) : Ve (tOp (rI CDiv fun i j => .int (i / j)) ta tb) ss yInt (i / j) := fun M σ H E => vl_I (f := fun i j => i / j) h (fun _ _ => rfl) (ha M σ H E) (hb M σ H E)
theorem ve_mul {i j : Int} (h : CMul i j) (ha : Ve ta ss yInt i) (hb : Ve tb ss yInt j) : Ve (tOp (rI CMul fun i j => .int (i * j)) ta tb) ss yInt (i * j) := fun M σ H E => vl_I (f := fun i j => i * j) h (fun _ _ => rfl) (ha M σ H E) (hb M σ H E)
theorem ve_pow {i j : Int} (h : CPow i j) (ha : Ve ta ss yInt i) (hb : Ve tb ss yInt j) : Ve (tOp (rI CPow fun i j => .int (i ^ j.toNat)) ta tb) ss yInt (i ^ j.toNat) := fun M σ H E => vl_I (f := fun i j => i ^ j.toNat) h (fun _ _ => rfl) (ha M σ H E) (hb M σ H E)
theorem ve_neg {i : Int} (ha : Ve ta ss yInt i) : Ve (tUn (rU fun i => .int (-i)) ta) ss yInt (-i) := fun M σ H E wf H1 k Q q => ha M σ H E wf H1 k _ fun v H2 k2 r => ⟨i, r, q _ H2 k2 rfl⟩
theorem ve_eq [DecidableEq α] [Sca t] {x y : α} (ha : Ve ta ss t x) (hb : Ve tb ss t y) : Ve (tOp rEq ta tb) ss yBool (decide (x = y)) := fun M σ H E => vl_eq (ha M σ H E) (hb M σ H E)
theorem ve_ne [DecidableEq α] [Sca t] {x y : α} (ha : Ve ta ss t x) (hb : Ve tb ss t y) : Ve (tOp rNe ta tb) ss yBool (!decide (x = y)) := fun M σ H E => vl_ne (ha M σ H E) (hb M σ H E)
theorem vb_B {b : Bool} (h : Ve te ss yBool b) : Vb (tB te) ss b := fun M σ H E => vt_B (h M σ H E)
theorem vb_test {b : Bool} (h : Ve te ss yBool b) : Vb (tTest te) ss b := fun M σ H E => vt_test (h M σ H E)
theorem vb_and {a b : Bool} (h1 : Vb tt ss a) (h2 : a = true → Vb tu ss b) : Vb (tAnd tt tu) ss (a && b) := fun M σ H E => vt_and (h1 M σ H E) fun e => h2 e M σ H E
theorem vb_or {a b : Bool} (h1 : Vb tt ss a) (h2 : a = false → Vb tu ss b) : Vb (tOr tt tu) ss (a || b) := fun M σ H E => vt_or (h1 M σ H E) fun e => h2 e M σ H E
theorem vb_not {a : Bool} (h : Vb tt ss a) : Vb (tNot tt) ss (!a) := fun M σ H E => vt_not (h M σ H E)
theorem vb_yes : Vb tYes ss true := fun _ _ _ _ => vt_yes
theorem ve_not {a : Bool} (h : Ve te ss yBool a) : Ve (tNotV te) ss yBool (!a) := fun M σ H E => vl_not (h M σ H E)
theorem ve_and {a b : Bool} (h1 : Ve ta ss yBool a) (h2 : a = true → Ve tb ss yBool b) : Ve (tAndV ta tb) ss yBool (a && b) := fun M σ H E => vl_and (h1 M σ H E) fun e => h2 e M σ H E
theorem ve_or {a b : Bool} (h1 : Ve ta ss yBool a) (h2 : a = false → Ve tb ss yBool b) : Ve (tOrV ta tb) ss yBool (a || b) := fun M σ H E => vl_or (h1 M σ H E) fun e => h2 e M σ H E
theorem ve_if {b : Bool} (h : Vb tt ss b) (h1 : b = true → Ve ta ss t x) (h2 : b = false → Ve tb ss t x) : Ve (tIf tt ta tb) ss t x := fun M σ H E => vl_if (h M σ H E) (fun e => h1 e M σ H E) fun e => h2 e M σ H E
/-- items of one kind -/
def Vi {α : Type} (ta : TA) (ss : SS) (t : Ty α) (xs : List α) : Prop := ∀ M σ H, Env M H σ ss → Va M ta σ H (fun H2 vs => P2 (t.rep M H2) vs xs)
theorem vi_nil : Vi tNil ss t [] := fun _ _ _ _ => va_snil
theorem vi_cons {tr : TA} (h : Ve te ss t x) (hr : Vi tr ss t xs) : Vi (tCons te tr) ss t (x :: xs) := fun M σ H E => va_scons (h M σ H E) (hr M σ H E)
theorem ve_lst {ta : TA} (h : Vi ta ss t xs) (hz : xs.length ≤ 1000000) : Ve (tLst ta) ss (yList t) xs := fun M σ H E => vl_lst (h M σ H E) hz
theorem ve_pair {ta tb : TE} (h : Ve ta ss t x) (h' : Ve tb ss u y) : Ve (tTup (tCons ta (tCons tb tNil))) ss (yPair K t u) (x, y) := fun M σ H E => vl_pair (h M σ H E) (h' M σ H E)
theorem ve_len {s : Ty (List α)} (S : SeqY K t s) (h : Ve te ss s xs) : Ve (tCB (fun xs H Q => ∃ p ys, xs = [.ref p] ∧ (SqL K H p ys ∨ SqT K H p ys) ∧ Q (.int ys.length) H) (tCons te tNil)) ss yInt (xs.length : Int) := fun M σ H E => vl_len S (h M σ H E)
theorem ve_listOf {s : Ty (List α)} (S : SeqY K t s) (h : Ve te ss s xs) : Ve (tCB (fun xs H Q => ∃ p ys, xs = [.ref p] ∧ (SqL K H p ys ∨ SqT K H p ys) ∧ ∀ l, H l = none → Q (.ref l) (upd H l (.lst ys))) (tCons te tNil)) ss (yList t) xs := fun M σ H E => vl_listOf S (h M σ H E)
theorem ve_tupleOf (h : Ve te ss (yList t) xs) : Ve (tCB (fun xs H Q => ∃ p ys, xs = [.ref p] ∧ ((SqL K H p ys ∧ ∀ l, H l = none → Q (.ref l) (upd H l (.tup ys))) ∨ (SqT K H p ys ∧ Q (.ref p) H))) (tCons te tNil)) ss (yTup K t) xs := fun M σ H E => vl_tupleOf (h M σ H E)
theorem ve_int1 {i : Int} (h : Ve te ss yInt i) : Ve (tCB (fun xs H Q => (∃ i, xs = [.int i] ∧ Q (.int i) H) ∨ ∃ k, xs = [.bl k] ∧ Q (.int (if k then 1 else 0)) H) (tCons te tNil)) ss yInt i := fun M σ H E => vl_int1 (h M σ H E)
theorem ve_in [DecidableEq α] [Flat t] {s : Ty (List α)} (S : SeqY K t s) (ha : Ve ta ss t x) (hb : Ve tb ss s xs) : Ve (tOp (rIn K false) ta tb) ss yBool (decide (x ∈ xs)) := fun M σ H E => vl_in S (ha M σ H E) (hb M σ H E)
theorem ve_notin [DecidableEq α] [Flat t] {s : Ty (List α)} (S : SeqY K t s) (ha : Ve ta ss t x) (hb : Ve tb ss s xs) : Ve (tOp (rIn K true) ta tb) ss yBool (!decide (x ∈ xs)) := fun M σ H E => vl_notin S (ha M σ H E) (hb M σ H E)
theorem ve_cat (ha : Ve ta ss (yList t) xs) (hb : Ve tb ss (yList t) ys) (hz : xs.length + ys.length ≤ 1000000) : Ve (tOp rCat ta tb) ss (yList t) (xs ++ ys) := fun M σ H E => vl_cat (ha M σ H E) (hb M σ H E) hz
theorem ve_ixL {i : Nat} {j : Int} (ha : Ve ta ss (yList t) xs) (hb : Ve tb ss yInt j) (hj : j = (i : Int)) (hx : xs[i]? = some x) : Ve (tOp (rIxL K) ta tb) ss t x := fun M σ H E => vl_ixL (ha M σ H E) (hb M σ H E) hj hx
theorem ve_ixT {i : Nat} {j : Int} (ha : Ve ta ss (yTup K t) xs) (hb : Ve tb ss yInt j) (hj : j = (i : Int)) (hx : xs[i]? = some x) : Ve (tOp (rIxT K) ta tb) ss t x := fun M σ H E => vl_ixT (ha M σ H E) (hb M σ H E) hj hx
theorem ve_eqD {d : α → PyData} {d' : β → PyData} {b : Bool} (D : IsD K t d) (D' : IsD K u d') (ha : Ve ta ss t x) (hb : Ve tb ss u y) (s1 : SeqAt.shaped (d x) = true) (s2 : SeqAt.shaped (d' y) = true) (hb' : PyData.eqv (d x) (d' y) = b) : Ve (tOp (rEqD K) ta tb) ss yBool b := fun M σ H E => vl_eqD D D' (ha M σ H E) (hb M σ H E) s1 s2 hb'
theorem ve_neD {d : α → PyData} {d' : β → PyData} {b : Bool} (D : IsD K t d) (D' : IsD K u d') (ha : Ve ta ss t x) (hb : Ve tb ss u y) (s1 : SeqAt.shaped (d x) = true) (s2 : SeqAt.shaped (d' y) = true) (hb' : PyData.eqv (d x) (d' y) = b) : Ve (tOp (rNeD K) ta tb) ss yBool (!b) := fun M σ H E => vl_neD D D' (ha M σ H E) (hb M σ H E) s1 s2 hb'
end
/-! shapes -/
def Shp (n : Nat) (d : PyData) : Prop := d.canLay0 = true ∧ d.depth ≤ n
theorem Shp.shaped {n : Nat} {d : PyData} (h : Shp n d) (hn : n ≤ 64) : SeqAt.shaped d = true := by
  unfold SeqAt.shaped
  rw [h.1, decide_eq_true (Nat.le_trans h.2 hn)] <;> rfl
theorem shp_all {α : Type} {n : Nat} {d : α → PyData} : ∀ {xs : List α}, (∀ x ∈ xs, Shp n (d x)) → PyData.canLayAll0 (xs.map d) = true ∧ PyData.depthAll (xs.map d) ≤ n
  | [], _ => ⟨rfl, Nat.zero_le _⟩
  | x :: xs, h => by
    have ih := shp_all (xs := xs) fun y hy => h y (List.mem_cons_of_mem _ hy)
    have hx := h x List.mem_cons_self
    refine ⟨?_, ?_⟩
    · show (PyData.canLay0 (d x) && PyData.canLayAll0 (xs.map d)) = true
      rw [hx.1, ih.1] <;> rfl
    · show max (PyData.depth (d x)) (PyData.depthAll (xs.map d)) ≤ n
      exact Nat.max_le.mpr ⟨hx.2, ih.2⟩
theorem shp_list {α : Type} {n : Nat} {d : α → PyData} {xs : List α} (h : ∀ x ∈ xs, Shp n (d x)) : Shp (n + 1) (.list (xs.map d)) := ⟨(shp_all h).1, Nat.succ_le_succ (shp_all h).2⟩
theorem shp_tup {α : Type} {n : Nat} {d : α → PyData} {xs : List α} (h : ∀ x ∈ xs, Shp n (d x)) : Shp (n + 1) (.tuple (xs.map d)) := ⟨(shp_all h).1, Nat.succ_le_succ (shp_all h).2⟩
theorem shp_int (i : Int) : Shp 0 (.int i) := ⟨rfl, Nat.le_refl _⟩
theorem shp_str {s : Str} (h : PyData.canLay0 (.str s) = true) : Shp 0 (.str s) := ⟨h, Nat.le_refl _⟩
/-! ### objects that are owned and may change -/
/-- what an owned object at a holds -/
structure MSlot where
  I : List Addr → Hp → Addr → Prop
  stab : ∀ {M M' : List Addr} {H H' : Hp} {a : Addr}, Ke M' H H' → (∀ b ∈ M', b ∈ M) → a ∉ M' → I M H a → I M H' a
  more : ∀ {M : List Addr} {H : Hp} {a p : Addr}, H p = none → I M H a → I (p :: M) H a
  less : ∀ {M M' : List Addr} {H : Hp} {a : Addr}, (∀ b ∈ M', b ∈ M) → I M H a → I M' H a
  there : ∀ {M : List Addr} {H : Hp} {a : Addr}, I M H a → ∃ o, H a = some o
def mL {α : Type} (t : Ty α) (xs : List α) : MSlot where
  I := fun M H a => ∃ vs, H a = some (.lst vs) ∧ P2 (t.rep M H) vs xs
  stab := fun k s n ⟨vs, h, p⟩ => ⟨vs, k.keep _ _ n h, p.imp fun _ _ => t.keep (k.sub s)⟩
  more := fun f ⟨vs, h, p⟩ => ⟨vs, h, p.imp fun _ _ => t.more f⟩
  less := fun s ⟨vs, h, p⟩ => ⟨vs, h, p.imp fun _ _ => t.less s⟩
  there := fun ⟨vs, h, _⟩ => ⟨_, h⟩
def Own (M : List Addr) (H : Hp) : List Addr → List MSlot → Prop
  | [], [] => True
  | a :: L, m :: ms => m.I M H a ∧ Own M H L ms
  | _, _ => False
section
variable {M M' : List Addr} {H H' : Hp} {p : Addr}
theorem Own.stab (k : Ke M' H H') (s : ∀ b ∈ M', b ∈ M) : ∀ {L : List Addr} {ms : List MSlot}, (∀ a ∈ L, a ∉ M') → Own M H L ms → Own M H' L ms
  | [], [], _, _ => trivial
  | [], _ :: _, _, h => h.elim
  | _ :: _, [], _, h => h.elim
  | _ :: L, m :: ms, n, h => ⟨m.stab k s (n _ List.mem_cons_self) h.1, Own.stab k s (L := L) (ms := ms) (fun a ha => n a (List.mem_cons_of_mem _ ha)) h.2⟩
theorem Own.grow (k : Ke [] H H') {L : List Addr} {ms : List MSlot} (h : Own M H L ms) : Own M H' L ms := h.stab k (fun _ z => by cases z) fun _ _ z => by cases z
theorem Own.more (f : H p = none) : ∀ {L : List Addr} {ms : List MSlot}, Own M H L ms → Own (p :: M) H L ms
  | [], [], _ => trivial
  | [], _ :: _, h => h.elim
  | _ :: _, [], h => h.elim
  | _ :: L, m :: ms, h => ⟨m.more f h.1, Own.more f (L := L) (ms := ms) h.2⟩
theorem Own.less (s : ∀ b ∈ M', b ∈ M) : ∀ {L : List Addr} {ms : List MSlot}, Own M H L ms → Own M' H L ms
  | [], [], _ => trivial
  | [], _ :: _, h => h.elim
  | _ :: _, [], h => h.elim
  | _ :: L, m :: ms, h => ⟨m.less s h.1, Own.less s (L := L) (ms := ms) h.2⟩
theorem Own.get : ∀ {L : List Addr} {ms : List MSlot} {i : Nat} {m : MSlot}, Own M H L ms → ms[i]? = some m → ∃ a, L[i]? = some a ∧ m.I M H a
  | [], [], _, _, _, e => by cases e
  | [], _ :: _, _, _, h, _ => h.elim
  | _ :: _, [], _, _, h, _ => h.elim
  | a :: _, m :: _, 0, _, h, e => ⟨a, rfl, by have e' := Option.some.inj e; rw [← e']; exact h.1⟩
  | _ :: L, _ :: ms, i + 1, m, h, e => Own.get (L := L) (ms := ms) (i := i) h.2 e
theorem Own.len : ∀ {L : List Addr} {ms : List MSlot}, Own M H L ms → L.length = ms.length
  | [], [], _ => rfl
  | [], _ :: _, h => h.elim
  | _ :: _, [], h => h.elim
  | _ :: L, _ :: ms, h => congrArg Nat.succ (Own.len (L := L) (ms := ms) h.2)
/-- the i-th owned object has changed -/
theorem Own.put {a : Addr} {m' : MSlot} (k : Ke [a] H H') (ha : a ∈ M) (hm : m'.I M H' a) : ∀ {L : List Addr} {ms : List MSlot} {i : Nat}, L.Nodup → L[i]? = some a → Own M H L ms → Own M H' L (ms.set i m')
  | [], [], _, _, e, _ => by cases e
  | [], _ :: _, _, _, _, h => h.elim
  | _ :: _, [], _, _, _, h => h.elim
  | b :: L, m :: ms, 0, nd, e, h => by
    have e' := Option.some.inj e
    subst e'
    exact ⟨hm, h.2.stab k (fun c z => by rw [List.mem_singleton.mp z]; exact ha) fun c hc z => (List.nodup_cons.mp nd).1 (by rw [← List.mem_singleton.mp z]; exact hc)⟩
  | b :: L, m :: ms, i + 1, nd, e, h => by
    have nb : b ∉ [a] := fun z => (List.nodup_cons.mp nd).1 (by rw [List.mem_singleton.mp z]; exact List.mem_of_getElem? e)
    exact ⟨m.stab k (fun c z => by rw [List.mem_singleton.mp z]; exact ha) nb h.1, Own.put k ha hm (L := L) (ms := ms) (List.nodup_cons.mp nd).2 e h.2⟩
end
/-- the value is the object at a -/
def yRef : Ty Addr := ⟨fun _ _ v a => v = .ref a, fun _ h => h, fun _ h => h, fun _ h => h⟩
/-- an expression that may change the owned objects at L -/
def Xe {α : Type} (L : List Addr) (te : TE) (ss : SS) (ms : List MSlot) (t : Ty α) (P : α → List MSlot → Prop) : Prop := ∀ M σ H, L.Nodup → (∀ a ∈ L, a ∈ M) → Wf M H → Env M H σ ss → Own M H L ms →
  ∀ Q : VK, (∀ v H' x ms', Ke L H H' → Own M H' L ms' → t.rep M H' v x → P x ms' → Q v H') → te σ H Q
def Xt (L : List Addr) (tt : TT) (ss : SS) (ms : List MSlot) (P : Bool → List MSlot → Prop) : Prop := ∀ M σ H, L.Nodup → (∀ a ∈ L, a ∈ M) → Wf M H → Env M H σ ss → Own M H L ms →
  ∀ Q : Bool → Hp → Prop, (∀ H' b ms', Ke L H H' → Own M H' L ms' → P b ms' → Q b H') → tt σ H Q
/-- arguments: data by slots -/
def ArgsR (M : List Addr) (H : Hp) : List V → List Slot → Prop
  | [], [] => True
  | v :: vs, s :: sl => s.t.rep M H v s.x ∧ ArgsR M H vs sl
  | _, _ => False
theorem ArgsR.keep {M : List Addr} {H H' : Hp} (k : Ke M H H') : ∀ {vs : List V} {sl : List Slot}, ArgsR M H vs sl → ArgsR M H' vs sl
  | [], [], _ => trivial
  | [], _ :: _, h => h.elim
  | _ :: _, [], h => h.elim
  | _ :: vs, s :: sl, h => ⟨s.t.keep k h.1, ArgsR.keep k (vs := vs) (sl := sl) h.2⟩
theorem ArgsR.len {M : List Addr} {H : Hp} : ∀ {vs : List V} {sl : List Slot}, ArgsR M H vs sl → vs.length = sl.length
  | [], [], _ => rfl
  | [], _ :: _, h => h.elim
  | _ :: _, [], h => h.elim
  | _ :: vs, _ :: sl, h => congrArg Nat.succ (ArgsR.len (vs := vs) (sl := sl) h.2)
theorem ArgsR.env {M : List Addr} {H : Hp} : ∀ {vs : List V} {sl : List Slot} (n : Nat), ArgsR M H vs sl → Env M H (vs.map some ++ List.replicate n none) (sl.map some ++ List.replicate n none)
  | [], [], 0, _ => trivial
  | [], [], n + 1, h => ArgsR.env (vs := []) (sl := []) n h
  | [], _ :: _, _, h => h.elim
  | _ :: _, [], _, h => h.elim
  | _ :: vs, _ :: sl, n, h => ⟨h.1, ArgsR.env (vs := vs) (sl := sl) n h.2⟩
def Xa (L : List Addr) (ta : TA) (ss : SS) (ms : List MSlot) (P : List Slot → List MSlot → Prop) : Prop := ∀ M σ H, L.Nodup → (∀ a ∈ L, a ∈ M) → Wf M H → Env M H σ ss → Own M H L ms →
  ∀ Q : List V → Hp → Prop, (∀ vs H' sl ms', Ke L H H' → Own M H' L ms' → ArgsR M H' vs sl → P sl ms' → Q vs H') → ta σ H Q
section
variable {α β γ δ : Type} {K : PySem.W.Frag} {L : List Addr} {ss : SS} {ms : List MSlot} {t : Ty α} {u : Ty β} {te ta tb tl : TE} {tt tu : TT} {x : α} {y : β} {xs ys : List α} {P : α → List MSlot → Prop} {PB : Bool → List MSlot → Prop}
theorem ke_sub {M L : List Addr} {H H' : Hp} (s : ∀ a ∈ L, a ∈ M) (k : Ke L H H') : Ke M H H' := k.sub s
/-- what changes nothing -/
theorem xe_of (h : Ve te ss t x) (p : P x ms) : Xe L te ss ms t P := fun M σ H _ _ wf E O Q q => h M σ H E wf H Ke.refl _ fun v H2 k r => q v H2 x ms k.all (O.grow k) r p
theorem xt_of {b : Bool} (h : Vb tt ss b) (p : PB b ms) : Xt L tt ss ms PB := fun M σ H _ _ wf E O Q q => h M σ H E wf H Ke.refl _ fun H2 k => q H2 b ms k.all (O.grow k) p
theorem xe_mono {P' : α → List MSlot → Prop} (h : Xe L te ss ms t P) (f : ∀ x ms, P x ms → P' x ms) : Xe L te ss ms t P' := fun M σ H nd s wf E O Q q => h M σ H nd s wf E O Q fun v H' x ms' k O' r p => q v H' x ms' k O' r (f _ _ p)
theorem xe_op {r : R2} {w : Ty γ} {PA : γ → List MSlot → Prop} (ha : Xe L ta ss ms t fun x ms1 => Xe L tb ss ms1 u fun y ms2 => ∀ M v1 v2 H1, L.Nodup → (∀ a ∈ L, a ∈ M) → Wf M H1 → t.rep M H1 v1 x → u.rep M H1 v2 y → Own M H1 L ms2 →
      ∀ Q : VK, (∀ v H' z ms', Ke L H1 H' → Own M H' L ms' → w.rep M H' v z → PA z ms' → Q v H') → r v1 v2 H1 Q) : Xe L (tOp r ta tb) ss ms w PA := fun M σ H nd s wf E O Q q =>
  ha M σ H nd s wf E O _ fun v1 H1 x ms1 k1 O1 r1 hb => hb M σ H1 nd s (wf.keep k1) (E.keep (k1.sub s)) O1 _ fun v2 H2 y ms2 k2 O2 r2 hr =>
    hr M v1 v2 H2 nd s (wf.keep (k1.trans k2)) (t.keep (k2.sub s) r1) r2 O2 Q fun v H' z ms' k' O' r' p => q v H' z ms' ((k1.trans k2).trans k') O' r' p
/-- .. where the operation itself changes nothing -/
theorem xe_opP {r : R2} {w : Ty γ} {PA : γ → List MSlot → Prop} {f : α → β → γ} {C : α → β → Prop} (hr : ∀ M v1 v2 H1 x y, C x y → Wf M H1 → t.rep M H1 v1 x → u.rep M H1 v2 y → ∀ Q : VK, (∀ v H2, Ke [] H1 H2 → w.rep M H2 v (f x y) → Q v H2) → r v1 v2 H1 Q)
    (ha : Xe L ta ss ms t fun x ms1 => Xe L tb ss ms1 u fun y ms2 => C x y ∧ PA (f x y) ms2) : Xe L (tOp r ta tb) ss ms w PA :=
  xe_op (xe_mono ha fun x ms1 hb => xe_mono hb fun y ms2 hc M v1 v2 H1 _ _ wf r1 r2 O Q q => hr M v1 v2 H1 x y hc.1 wf r1 r2 Q fun v H2 k r => q v H2 _ ms2 k.all (O.grow k) r hc.2)
theorem xt_test (h : Xe L te ss ms yBool PB) : Xt L (tTest te) ss ms PB := fun M σ H nd s wf E O Q q => h M σ H nd s wf E O _ fun v H' x ms' k O' r p => ⟨x, r, q H' x ms' k O' p⟩
theorem xt_B (h : Xe L te ss ms yBool PB) : Xt L (tB te) ss ms PB := fun M σ H nd s wf E O Q q => h M σ H nd s wf E O _ fun v H' x ms' k O' r p => ⟨x, r, q H' x ms' k O' p⟩
theorem xt_not (h : Xt L tt ss ms fun b => PB (!b)) : Xt L (tNot tt) ss ms PB := fun M σ H nd s wf E O Q q => h M σ H nd s wf E O _ fun H' x ms' k O' p => q H' _ ms' k O' p
theorem xt_mono {PB' : Bool → List MSlot → Prop} (h : Xt L tt ss ms PB) (f : ∀ x ms, PB x ms → PB' x ms) : Xt L tt ss ms PB' := fun M σ H nd s wf E O Q q => h M σ H nd s wf E O Q fun H' x ms' k O' p => q H' x ms' k O' (f _ _ p)
theorem xt_and (h : Xt L tt ss ms fun b ms1 => if b = true then Xt L tu ss ms1 PB else PB false ms1) : Xt L (tAnd tt tu) ss ms PB := fun M σ H nd s wf E O Q q => h M σ H nd s wf E O _ fun H' b ms' k O' p => by
  cases b with
  | true =>
    show tu σ H' Q
    exact p M σ H' nd s (wf.keep k) (E.keep (k.sub s)) O' Q fun H2 b ms2 k2 => q H2 b ms2 (k.trans k2)
  | false =>
    show Q false H'
    exact q H' false ms' k O' p
theorem xt_or (h : Xt L tt ss ms fun b ms1 => if b = true then PB true ms1 else Xt L tu ss ms1 PB) : Xt L (tOr tt tu) ss ms PB := fun M σ H nd s wf E O Q q => h M σ H nd s wf E O _ fun H' b ms' k O' p => by
  cases b with
  | true =>
    show Q true H'
    exact q H' true ms' k O' p
  | false =>
    show tu σ H' Q
    exact p M σ H' nd s (wf.keep k) (E.keep (k.sub s)) O' Q fun H2 b ms2 k2 => q H2 b ms2 (k.trans k2)
theorem xa_nil {PS : List Slot → List MSlot → Prop} (p : PS [] ms) : Xa L tNil ss ms PS := fun M σ H _ _ _ _ O Q q => q [] H [] ms Ke.refl O trivial p
theorem xa_cons {tr : TA} {PS : List Slot → List MSlot → Prop} (h : Xe L te ss ms t fun x ms1 => Xa L tr ss ms1 fun sl => PS (⟨t, x⟩ :: sl)) : Xa L (tCons te tr) ss ms PS := fun M σ H nd s wf E O Q q =>
  h M σ H nd s wf E O _ fun v H1 x ms1 k1 O1 r1 hr => hr M σ H1 nd s (wf.keep k1) (E.keep (k1.sub s)) O1 _ fun vs H2 sl ms2 k2 O2 r2 p => q (v :: vs) H2 (⟨t, x⟩ :: sl) ms2 (k1.trans k2) O2 ⟨t.keep (k2.sub s) r1, r2⟩ p
theorem xa_mono {ta : TA} {PS PS' : List Slot → List MSlot → Prop} (h : Xa L ta ss ms PS) (f : ∀ sl ms, PS sl ms → PS' sl ms) : Xa L ta ss ms PS' := fun M σ H nd s wf E O Q q => h M σ H nd s wf E O Q fun vs H' sl ms' k O' r p => q vs H' sl ms' k O' r (f _ _ p)
end
/-! ### promises and calls -/
/-- a promise: from data (and owned objects at ext) to a datum (and what the owned objects hold then) -/
def SpX {A β : Type} (ext : A → List Addr) (sl : A → List Slot) (ms : A → List MSlot) (pre : A → Prop) (t : Ty β) (post : A → β → List MSlot → Prop) : Sp := fun vs H Q _ => ∃ (M : List Addr) (a : A), (ext a).Nodup ∧ (∀ e ∈ ext a, e ∈ M) ∧ Wf M H ∧ ArgsR M H vs (sl a) ∧ Own M H (ext a) (ms a) ∧ pre a ∧
  ∀ r x ms' H', Ke (ext a) H H' → Own M H' (ext a) ms' → t.rep M H' r x → post a x ms' → Q r H'
/-- a pure one -/
abbrev SpF {A β : Type} (sl : A → List Slot) (pre : A → Prop) (t : Ty β) (f : A → β) : Sp := SpX (fun _ => []) sl (fun _ => []) pre t (fun a y _ => y = f a)
def Vs (ta : TA) (ss : SS) (sl : List Slot) : Prop := ∀ M σ H, Env M H σ ss → Va M ta σ H (fun H2 vs => ArgsR M H2 vs sl)
section
variable {A α β γ δ : Type} {K : PySem.W.Frag} {L : List Addr} {ss : SS} {ms : List MSlot} {t : Ty α} {u : Ty β} {te ta tb tl : TE} {tt tu : TT} {x : α} {y : β} {xs ys : List α} {E : XK}
theorem vs_nil : Vs tNil ss [] := fun _ _ _ _ _ H1 _ _ q => q [] H1 Ke.refl trivial
theorem vs_cons {tr : TA} {sl : List Slot} (h : Ve te ss t x) (hr : Vs tr ss sl) : Vs (tCons te tr) ss (⟨t, x⟩ :: sl) := fun M σ H E wf H1 k _ q =>
  h M σ H E wf H1 k _ fun v H2 k2 r2 => hr M σ H E wf H2 (k.trans k2.all) _ fun vs H3 k3 r3 => q (v :: vs) H3 (k2.trans k3) ⟨t.keep k3.all r2, r3⟩
theorem ve_call {sl : A → List Slot} {pre : A → Prop} {f : A → α} {ta : TA} (a : A) (h : Vs ta ss (sl a)) (hp : pre a) : Ve (tCall (SpF sl pre t f) [] E ta) ss t (f a) := fun M σ H En wf H1 k Q q =>
  h M σ H En wf H1 k _ fun vs H2 k2 r => ⟨M, a, List.nodup_nil, (fun _ h => by cases h), wf.keep (k.trans k2.all), (by rw [List.append_nil]; exact r), trivial, hp, fun v x ms' H' k' _ r' e => q v H' (k2.trans k') (by rw [← e]; exact r')⟩
/-- a call that changes one owned object -/
theorem xe_call1 {ext : A → List Addr} {sl : A → List Slot} {msA : A → List MSlot} {pre : A → Prop} {post : A → α → List MSlot → Prop} {ta : TA} {PA : α → List MSlot → Prop}
    (h : Xa L ta ss ms fun s1 ms1 => ∃ (a : A) (i : Nat) (p : Addr) (m : MSlot), s1 = sl a ∧ ext a = [p] ∧ msA a = [m] ∧ L[i]? = some p ∧ ms1[i]? = some m ∧ pre a ∧ ∀ x m', post a x [m'] → PA x (ms1.set i m')) : Xe L (tCall (SpX ext sl msA pre t post) [] E ta) ss ms t PA := fun M σ H nd s wf En O Q q =>
  h M σ H nd s wf En O _ fun vs H1 s1 ms1 k1 O1 r1 ⟨a, i, p, m, e1, e2, e3, e4, e5, hp, hk⟩ => by
    have hpL : p ∈ L := List.mem_of_getElem? e4
    obtain ⟨p', e6, hm⟩ := O1.get e5
    have : p' = p := Option.some.inj (e6.symm.trans e4)
    subst this
    refine ⟨M, a, (by rw [e2]; exact List.nodup_cons.mpr ⟨(fun z => by cases z), List.nodup_nil⟩), (fun e he => by rw [e2] at he; rw [List.mem_singleton.mp he]; exact s p' hpL), wf.keep k1, (by rw [List.append_nil, ← e1]; exact r1), (by rw [e2, e3]; exact ⟨hm, trivial⟩), hp, fun r x ms' H' k' O' r' po => ?_⟩
    rw [e2] at k' O'
    cases ms' with
    | nil => exact O'.elim
    | cons m' rest =>
      cases rest with
      | cons _ _ => exact O'.2.elim
      | nil =>
        exact q r H' x (ms1.set i m') (k1.trans (k'.sub fun b hb => by rw [List.mem_singleton.mp hb]; exact hpL)) (Own.put k' (s p' hpL) O'.1 nd e4 O1) r' (hk x m' po)
/-- a call that changes nothing, its arguments by an expression that may -/
theorem xe_callP {sl : A → List Slot} {pre : A → Prop} {f : A → α} {ta : TA} {PA : α → List MSlot → Prop} (h : Xa L ta ss ms fun s1 ms1 => ∃ a : A, s1 = sl a ∧ pre a ∧ PA (f a) ms1) : Xe L (tCall (SpF sl pre t f) [] E ta) ss ms t PA := fun M σ H nd s wf En O Q q =>
  h M σ H nd s wf En O _ fun vs H1 s1 ms1 k1 O1 r1 ⟨a, e1, hp, hk⟩ => ⟨M, a, List.nodup_nil, (fun _ h => by cases h), wf.keep k1, (by rw [List.append_nil, ← e1]; exact r1), trivial, hp, fun v x ms' H' k' _ r' e => q v H' x ms1 (k1.trans k'.all) (O1.grow k') r' (by rw [e]; exact hk)⟩
end
/-! ### statements -/
/-- what follows a statement -/
structure Kn {β : Type} (loc ext M0 : List Addr) (rt : Ty β) (H : Hp) (D : Ends) (N : SS → List MSlot → Prop) (R : β → List MSlot → Prop) (B C : SS → List MSlot → Prop) : Prop where
  nx : ∀ σ' H' ss' ms', Ke (loc ++ ext) H H' → Env (loc ++ M0) H' σ' ss' → Own (loc ++ M0) H' (loc ++ ext) ms' → N ss' ms' → D.nx σ' H'
  rt : ∀ v H' x ms', Ke (loc ++ ext) H H' → rt.rep M0 H' v x → Own M0 H' ext ms' → R x ms' → D.rt v H'
  bk : ∀ σ' H' ss' ms', Ke (loc ++ ext) H H' → Env (loc ++ M0) H' σ' ss' → Own (loc ++ M0) H' (loc ++ ext) ms' → B ss' ms' → D.bk σ' H'
  ct : ∀ σ' H' ss' ms', Ke (loc ++ ext) H H' → Env (loc ++ M0) H' σ' ss' → Own (loc ++ M0) H' (loc ++ ext) ms' → C ss' ms' → D.ct σ' H'
/-- where a statement stands -/
structure Wh (loc ext M0 : List Addr) (H : Hp) (σ : L2.St) (ss : SS) (ms : List MSlot) : Prop where
  nd : (loc ++ ext).Nodup
  out : ∀ a ∈ loc, a ∉ M0
  inn : ∀ a ∈ ext, a ∈ M0
  wf : Wf (loc ++ M0) H
  env : Env (loc ++ M0) H σ ss
  own : Own (loc ++ M0) H (loc ++ ext) ms
theorem Wh.sub {loc ext M0 : List Addr} {H : Hp} {σ : L2.St} {ss : SS} {ms : List MSlot} (w : Wh loc ext M0 H σ ss ms) : ∀ a ∈ loc ++ ext, a ∈ loc ++ M0 := fun a h => by
  rcases List.mem_append.mp h with h | h
  · exact List.mem_append_left _ h
  · exact List.mem_append_right _ (w.inn a h)
theorem Wh.to {loc ext M0 : List Addr} {H H' : Hp} {σ σ' : L2.St} {ss ss' : SS} {ms ms' : List MSlot} (w : Wh loc ext M0 H σ ss ms) (k : Ke (loc ++ ext) H H') (E : Env (loc ++ M0) H' σ' ss') (O : Own (loc ++ M0) H' (loc ++ ext) ms') : Wh loc ext M0 H' σ' ss' ms' := ⟨w.nd, w.out, w.inn, w.wf.keep k, E, O⟩
theorem Kn.at {β : Type} {loc ext M0 : List Addr} {rt : Ty β} {H H1 : Hp} {D : Ends} {N : SS → List MSlot → Prop} {R : β → List MSlot → Prop} {B C : SS → List MSlot → Prop} (k : Kn loc ext M0 rt H D N R B C) (e : Ke (loc ++ ext) H H1) : Kn loc ext M0 rt H1 D N R B C :=
  ⟨fun σ' H' ss' ms' k' => k.nx σ' H' ss' ms' (e.trans k'), fun v H' x ms' k' => k.rt v H' x ms' (e.trans k'), fun σ' H' ss' ms' k' => k.bk σ' H' ss' ms' (e.trans k'), fun σ' H' ss' ms' k' => k.ct σ' H' ss' ms' (e.trans k')⟩
def Xs {β : Type} (loc ext : List Addr) (rt : Ty β) (ts : TS) (ss : SS) (ms : List MSlot) (N : SS → List MSlot → Prop) (R : β → List MSlot → Prop) (B C : SS → List MSlot → Prop) : Prop := ∀ M0 σ H D, Wh loc ext M0 H σ ss ms → Kn loc ext M0 rt H D N R B C → ts D σ H
section
variable {A α β γ δ : Type} {K : PySem.W.Frag} {loc ext : List Addr} {ss : SS} {ms : List MSlot} {t : Ty α} {u : Ty β} {te ta tb tl : TE} {tt : TT} {tu tv tw : TS} {x : α} {y : β} {xs ys : List α} {rt : Ty δ} {N : SS → List MSlot → Prop} {R : δ → List MSlot → Prop} {B C : SS → List MSlot → Prop}
theorem xs_seq (h : Xs loc ext rt tu ss ms (fun ss' ms' => Xs loc ext rt tv ss' ms' N R B C) R B C) : Xs loc ext rt (tSeq tu tv) ss ms N R B C := fun M0 σ H D w k =>
  h M0 σ H { D with nx := tv D } w ⟨fun σ' H' ss' ms' e E O q => q M0 σ' H' D (w.to e E O) (k.at e), k.rt, k.bk, k.ct⟩
theorem xs_next (h : N ss ms) : Xs loc ext rt tNext ss ms N R B C := fun M0 σ H D w k => k.nx σ H ss ms Ke.refl w.env w.own h
theorem xs_brk (h : B ss ms) : Xs loc ext rt tBreak ss ms N R B C := fun M0 σ H D w k => k.bk σ H ss ms Ke.refl w.env w.own h
theorem xs_cont (h : C ss ms) : Xs loc ext rt tCont ss ms N R B C := fun M0 σ H D w k => k.ct σ H ss ms Ke.refl w.env w.own h
theorem xs_asgX {i : Nat} (h : Xe (loc ++ ext) te ss ms t fun x ms' => N (ss.set i (some ⟨t, x⟩)) ms') : Xs loc ext rt (tAsg te (gName i)) ss ms N R B C := fun M0 σ H D w k =>
  h _ σ H w.nd w.sub w.wf w.env w.own _ fun v H' x ms' e O r p => k.nx _ H' _ ms' e ((w.env.keep (e.sub w.sub)).set r i) O p
theorem xs_asg {i : Nat} (h : Ve te ss t x) (p : N (ss.set i (some ⟨t, x⟩)) ms) : Xs loc ext rt (tAsg te (gName i)) ss ms N R B C := xs_asgX (xe_of h p)
theorem xs_dropX (h : Xe (loc ++ ext) te ss ms t fun _ ms' => N ss ms') : Xs loc ext rt (tDrop te) ss ms N R B C := fun M0 σ H D w k =>
  h _ σ H w.nd w.sub w.wf w.env w.own _ fun v H' x ms' e O r p => k.nx σ H' ss ms' e (w.env.keep (e.sub w.sub)) O p
theorem own_ext {M0 M : List Addr} {H : Hp} (s : ∀ a ∈ M0, a ∈ M) : ∀ {loc : List Addr} {ms : List MSlot}, Own M H (loc ++ ext) ms → Own M0 H ext (ms.drop loc.length)
  | [], _, h => h.less s
  | _ :: _, [], h => h.elim
  | _ :: loc, _ :: ms, h => own_ext s (loc := loc) (ms := ms) h.2
theorem xs_retX (h : Xe (loc ++ ext) te ss ms rt fun x ms' => R x (ms'.drop loc.length)) : Xs loc ext rt (tRet te) ss ms N R B C := fun M0 σ H D w k =>
  h _ σ H w.nd w.sub w.wf w.env w.own _ fun v H' x ms' e O r p => k.rt v H' x _ e (rt.less (fun a ha => List.mem_append_right _ ha) r) (own_ext (fun a ha => List.mem_append_right _ ha) O) p
theorem xs_ret {x : δ} (h : Ve te ss rt x) (p : R x (ms.drop loc.length)) : Xs loc ext rt (tRet te) ss ms N R B C := xs_retX (xe_of h p)
theorem xs_ifX (h : Xt (loc ++ ext) tt ss ms fun b ms' => if b = true then Xs loc ext rt tu ss ms' N R B C else Xs loc ext rt tv ss ms' N R B C) : Xs loc ext rt (tIfS tt tu tv) ss ms N R B C := fun M0 σ H D w k =>
  h _ σ H w.nd w.sub w.wf w.env w.own _ fun H' b ms' e O p => by
    have w' := w.to e (w.env.keep (e.sub w.sub)) O
    cases b with
    | true =>
      show tu D σ H'
      exact p M0 σ H' D w' (k.at e)
    | false =>
      show tv D σ H'
      exact p M0 σ H' D w' (k.at e)
theorem xs_if {b : Bool} (h : Vb tt ss b) (h1 : b = true → Xs loc ext rt tu ss ms N R B C) (h2 : b = false → Xs loc ext rt tv ss ms N R B C) : Xs loc ext rt (tIfS tt tu tv) ss ms N R B C :=
  xs_ifX (xt_of h (by cases b with
    | true => exact h1 rfl
    | false => exact h2 rfl))
/-- for, over a list, a tuple, a range: an invariant over the turn, the slots, the owned objects -/
theorem xs_forL {g : TG} {f : α → SS → SS} {ws : List Nat} (T : Tg g t ws f) (hl : Ve tl ss (yList t) xs) (I : Nat → SS → List MSlot → Prop) (h0 : I 0 ss ms)
    (hs : ∀ i x ss' ms', xs[i]? = some x → I i ss' ms' → Xs loc ext rt tu (f x ss') ms' (I (i + 1)) R N (I (i + 1))) (hd : ∀ ss' ms', I xs.length ss' ms' → N ss' ms') : Xs loc ext rt (tFor (iList K tl) g tu) ss ms N R B C := fun M0 σ H D w k =>
  hl _ σ H w.env w.wf H Ke.refl _ fun v H1 e r => by
    obtain ⟨a, vs, rfl, n, ha, pr⟩ := r
    have w1 := w.to e.all (w.env.keep e.all) (w.own.grow e)
    have na : a ∉ loc ++ ext := fun z => n (w.sub a z)
    refine ⟨a, rfl, ⟨vs, SqL.of ha⟩, for_list (xs := vs) (fun i σ' H' => ∃ ss' ms', Ke (loc ++ ext) H1 H' ∧ Env (loc ++ M0) H' σ' ss' ∧ Own (loc ++ M0) H' (loc ++ ext) ms' ∧ I i ss' ms') ⟨ss, ms, Ke.refl, w1.env, w1.own, h0⟩ (fun i σ' H' _ ⟨_, _, e', _, _, _⟩ => SqL.of (e'.keep a _ na ha)) (fun i v σ' H' hv ⟨ss', ms', e', E', O', hI⟩ => ?_) (fun σ' H' ⟨ss', ms', e', E', O', hI⟩ => ?_)⟩
    · obtain ⟨x, hx, rx⟩ := pr.get hv
      refine T _ σ' H' ss' v x E' (t.keep (e'.sub w.sub) rx) _ fun σ2 _ E2 => ?_
      refine hs i x ss' ms' hx hI M0 σ2 H' _ (w1.to e' E2 O') ⟨fun σ3 H3 ss3 ms3 e3 E3 O3 p => ⟨ss3, ms3, e'.trans e3, E3, O3, p⟩, ((k.at e.all).at e').rt, ((k.at e.all).at e').nx, fun σ3 H3 ss3 ms3 e3 E3 O3 p => ⟨ss3, ms3, e'.trans e3, E3, O3, p⟩⟩
    · rw [pr.len] at hI
      exact k.nx σ' H' ss' ms' (e.all.trans e') E' O' (hd ss' ms' hI)
theorem xs_forT {g : TG} {f : α → SS → SS} {ws : List Nat} (T : Tg g t ws f) (hl : Ve tl ss (yTup K t) xs) (I : Nat → SS → List MSlot → Prop) (h0 : I 0 ss ms)
    (hs : ∀ i x ss' ms', xs[i]? = some x → I i ss' ms' → Xs loc ext rt tu (f x ss') ms' (I (i + 1)) R N (I (i + 1))) (hd : ∀ ss' ms', I xs.length ss' ms' → N ss' ms') : Xs loc ext rt (tFor (iTup K tl) g tu) ss ms N R B C := fun M0 σ H D w k =>
  hl _ σ H w.env w.wf H Ke.refl _ fun v H1 e r => by
    obtain ⟨a, vs, rfl, ha, pr⟩ := r
    have w1 := w.to e.all (w.env.keep e.all) (w.own.grow e)
    refine ⟨a, rfl, ⟨vs, ha.sq⟩, for_tup (xs := vs) (fun i σ' H' => ∃ ss' ms', Ke (loc ++ ext) H1 H' ∧ Env (loc ++ M0) H' σ' ss' ∧ Own (loc ++ M0) H' (loc ++ ext) ms' ∧ I i ss' ms') ⟨ss, ms, Ke.refl, w1.env, w1.own, h0⟩ (fun i σ' H' _ ⟨_, _, e', _, _, _⟩ => (ha.keep (e'.sub w.sub)).sq) (fun i v σ' H' hv ⟨ss', ms', e', E', O', hI⟩ => ?_) (fun σ' H' ⟨ss', ms', e', E', O', hI⟩ => ?_)⟩
    · obtain ⟨x, hx, rx⟩ := pr.get hv
      refine T _ σ' H' ss' v x E' (t.keep (e'.sub w.sub) rx) _ fun σ2 _ E2 => ?_
      refine hs i x ss' ms' hx hI M0 σ2 H' _ (w1.to e' E2 O') ⟨fun σ3 H3 ss3 ms3 e3 E3 O3 p => ⟨ss3, ms3, e'.trans e3, E3, O3, p⟩, ((k.at e.all).at e').rt, ((k.at e.all).at e').nx, fun σ3 H3 ss3 ms3 e3 E3 O3 p => ⟨ss3, ms3, e'.trans e3, E3, O3, p⟩⟩
    · rw [pr.len] at hI
      exact k.nx σ' H' ss' ms' (e.all.trans e') E' O' (hd ss' ms' hI)
theorem xs_forR {j : Nat} {n : Int} (hl : Xe (loc ++ ext) tl ss ms yInt fun m ms' => m = n ∧ ms' = ms) (hn : -1000000 ≤ n) (hn2 : n ≤ 1000000) (I : Nat → SS → List MSlot → Prop) (h0 : I 0 ss ms)
    (hs : ∀ (i : Nat) ss' ms', (i : Int) < n → I i ss' ms' → Xs loc ext rt tu (ss'.set j (some ⟨yInt, (i : Int)⟩)) ms' (I (i + 1)) R N (I (i + 1))) (hd : ∀ ss' ms', I n.toNat ss' ms' → N ss' ms') : Xs loc ext rt (tFor (iRng1 (tCons tl tNil)) (gName j) tu) ss ms N R B C := fun M0 σ H D w k =>
  hl _ σ H w.nd w.sub w.wf w.env w.own _ fun v H1 m ms1 e O r ⟨em, ems⟩ => by
    subst em
    subst ems
    have rv : v = .int m := r
    subst rv
    have w1 := w.to e (w.env.keep (e.sub w.sub)) O
    refine ⟨m, rfl, by omega, by omega, for_range (lo := 0) (n := m.toNat) (fun i σ' H' => ∃ ss' ms', Ke (loc ++ ext) H1 H' ∧ Env (loc ++ M0) H' σ' ss' ∧ Own (loc ++ M0) H' (loc ++ ext) ms' ∧ I i ss' ms') ⟨ss, ms1, Ke.refl, w1.env, w1.own, h0⟩ (fun i σ' H' hi ⟨ss', ms', e', E', O', hI⟩ => ?_) (fun σ' H' ⟨ss', ms', e', E', O', hI⟩ => ?_)⟩
    · have e0 : (0 : Int) + (i : Int) = (i : Int) := Int.zero_add _
      rw [e0]
      exact hs i ss' ms' (by omega) hI M0 _ H' _ (w1.to e' (E'.set (t := yInt) (x := (i : Int)) rfl j) O') ⟨fun σ3 H3 ss3 ms3 e3 E3 O3 p => ⟨ss3, ms3, e'.trans e3, E3, O3, p⟩, ((k.at e).at e').rt, ((k.at e).at e').nx, fun σ3 H3 ss3 ms3 e3 E3 O3 p => ⟨ss3, ms3, e'.trans e3, E3, O3, p⟩⟩
    · exact k.nx σ' H' ss' ms' (e.trans e') E' O' (hd ss' ms' hI)
/-- while: an invariant with a number that falls -/
theorem xs_while (I : Nat → SS → List MSlot → Prop) (m0 : Nat) (h0 : I m0 ss ms)
    (hs : ∀ m ss' ms', I m ss' ms' → Xt (loc ++ ext) tt ss' ms' fun b ms2 => if b = true then Xs loc ext rt tu ss' ms2 (fun s3 ms3 => ∃ m', m' < m ∧ I m' s3 ms3) R N (fun s3 ms3 => ∃ m', m' < m ∧ I m' s3 ms3) else N ss' ms2) : Xs loc ext rt (tWhile tt tu) ss ms N R B C := fun M0 σ H D w k => by
  refine ⟨fun m σ' H' => ∃ ss' ms', Ke (loc ++ ext) H H' ∧ Env (loc ++ M0) H' σ' ss' ∧ Own (loc ++ M0) H' (loc ++ ext) ms' ∧ I m ss' ms', ⟨m0, ss, ms, Ke.refl, w.env, w.own, h0⟩, fun m σ' H' ⟨ss', ms', e', E', O', hI⟩ => ?_⟩
  have w' := w.to e' E' O'
  refine hs m ss' ms' hI _ σ' H' w.nd w.sub w'.wf E' O' _ fun H2 b ms2 e2 O2 p => ?_
  have E2 := E'.keep (e2.sub w.sub)
  cases b with
  | true =>
    refine ⟨fun σ3 H3 => ∃ m', m' < m ∧ ∃ ss3 ms3, Ke (loc ++ ext) H H3 ∧ Env (loc ++ M0) H3 σ3 ss3 ∧ Own (loc ++ M0) H3 (loc ++ ext) ms3 ∧ I m' ss3 ms3, fun σ3 H3 q => q, ?_⟩
    refine p M0 σ' H2 _ (w'.to e2 E2 O2) ⟨fun σ3 H3 ss3 ms3 e3 E3 O3 ⟨m', lt, p⟩ => ⟨m', lt, ss3, ms3, (e'.trans e2).trans e3, E3, O3, p⟩, ((k.at e').at e2).rt, ((k.at e').at e2).nx, fun σ3 H3 ss3 ms3 e3 E3 O3 ⟨m', lt, p⟩ => ⟨m', lt, ss3, ms3, (e'.trans e2).trans e3, E3, O3, p⟩⟩
  | false => exact k.nx σ' H2 ss' ms2 (e'.trans e2) E2 O2 p
theorem xs_never (h : False) : Xs loc ext rt tNever ss ms N R B C := h.elim
end
/-! ### a def -/
abbrev startS (N : List Str) (sl : List Slot) : SS := sl.map some ++ List.replicate (N.length - sl.length) none
theorem okN {P : Program} {w : World} {K : PySem.W.Frag} {mg : Str → Option Value} {base : Heap} {x qual : Str} {params : Arguments} {body : List Stmt} {scope : Scope} {dvs : List V} {kws : List (Str × V)} {f : Addr} {fd : FuncData} {N ps : List Str} {k : Nat} {sp : Sp}
    (F : FunD K x qual params body scope dvs kws f fd) (S : FnScope N ps scope) (len : ∀ vs H Q E, sp vs H Q E → vs.length = ps.length)
    (hbody : ∀ (cdv : Value) (A : Around) (outer : List PySem.Env) (s : Shared) (H : Hp) (E : XK), Room k (A.deeper (PyProof.Rows.envOfC qual scope s.heap.objs.size f cdv)) →
      ∃ t, PSs (cxOf CX0 P w K mg base N qual scope f cdv A outer s H E).nox body t ∧ ∀ (vs : List V) (Q : VK), sp vs H Q E → t { nx := fun _ H' => Q .non H', rt := Q } (L2.start N vs) H) : FnOk P w K mg base CX0 (k + 1) f fd ps sp :=
  F.ok S len fun cdv A outer s H vs Q E hr hsp => by
    obtain ⟨t, h, q⟩ := hbody cdv A outer s H E hr
    exact ⟨t, h.nox, q vs Q hsp⟩
theorem fnX {P : Program} {w : World} {K : PySem.W.Frag} {mg : Str → Option Value} {base : Heap} {x qual : Str} {params : Arguments} {body : List Stmt} {scope : Scope} {dvs : List V} {kws : List (Str × V)} {f : Addr} {fd : FuncData} {N ps : List Str} {k : Nat}
    {A β : Type} {ext : A → List Addr} {sl : A → List Slot} {msA : A → List MSlot} {pre : A → Prop} {t : Ty β} {post : A → β → List MSlot → Prop}
    (F : FunD K x qual params body scope dvs kws f fd) (S : FnScope N ps scope) (hlen : ∀ a, (sl a).length = ps.length)
    (hbody : ∀ (cdv : Value) (Ar : Around) (outer : List PySem.Env) (s : Shared) (H : Hp) (E : XK), Room k (Ar.deeper (PyProof.Rows.envOfC qual scope s.heap.objs.size f cdv)) →
      ∃ ts, PSs (cxOf CX0 P w K mg base N qual scope f cdv Ar outer s H E).nox body ts ∧ ∀ a, pre a → Xs [] (ext a) t ts (startS N (sl a)) (msA a) (fun _ ms' => ∃ x, (∀ M H, t.rep M H .non x) ∧ post a x ms') (fun x ms' => post a x ms') (fun _ _ => False) (fun _ _ => False)) :
    FnOk P w K mg base CX0 (k + 1) f fd ps (SpX ext sl msA pre t post) :=
  okN F S (fun vs H Q E ⟨M, a, _, _, _, h, _⟩ => h.len.trans (hlen a)) fun cdv Ar outer s H E hr => by
    obtain ⟨ts, h, q⟩ := hbody cdv Ar outer s H E hr
    refine ⟨ts, h, fun vs Q ⟨M, a, nd, sub, wf, ar, own, hp, kq⟩ => ?_⟩
    have en := ar.env (N.length - (sl a).length)
    have e1 : L2.start N vs = vs.map some ++ List.replicate (N.length - (sl a).length) none := by
      unfold L2.start
      rw [ar.len]
    rw [e1]
    exact q a hp M _ H _ ⟨nd, (fun _ z => by cases z), sub, wf, en, own⟩ ⟨fun σ' H' ss' ms' e E' O ⟨x, hx, p⟩ => kq .non x ms' H' e O (hx M H') p, fun v H' x ms' e r O p => kq v x ms' H' e O r p, fun _ _ _ _ _ _ _ z => z.elim, fun _ _ _ _ _ _ _ z => z.elim⟩
/-! ### lists of one's own -/
/-- a new list -/
def Xn {α : Type} (L : List Addr) (te : TE) (ss : SS) (ms : List MSlot) (t : Ty α) (P : List α → List MSlot → Prop) : Prop := ∀ M σ H, L.Nodup → (∀ a ∈ L, a ∈ M) → Wf M H → Env M H σ ss → Own M H L ms →
  ∀ Q : VK, (∀ a vs xs ms' H', H a = none → Ke L H H' → Own (a :: M) H' L ms' → H' a = some (.lst vs) → P2 (t.rep (a :: M) H') vs xs → P xs ms' → Q (.ref a) H') → te σ H Q
def fgt (N : SS → List MSlot → Prop) : SS → List MSlot → Prop := fun ss' ms' => ∃ m ms'', ms' = m :: ms'' ∧ N ss' ms''
/-- what changes no owned object keeps their descriptions where a new one is owned -/
class Scl {α : Type} (t : Ty α) : Prop where
  s : ∀ {M M' : List Addr} {H H' : Hp} {v : V} {x : α}, t.rep M H v x → t.rep M' H' v x
instance : Scl yInt := ⟨fun h => h⟩
instance : Scl yStr := ⟨fun h => h⟩
instance : Scl yBool := ⟨fun h => h⟩
instance : Scl yNon := ⟨fun h => h⟩
instance : Scl yRef := ⟨fun h => h⟩
/-- owned lists, looked at as data -/
def Vw (L : List Addr) (ms : List MSlot) (ss ss' : SS) : Prop := ∀ M σ H, Env M H σ ss → Own M H L ms → ∃ M', (∀ a ∈ M', a ∈ M) ∧ Env M' H σ ss'
theorem Env.put {M : List Addr} {H : Hp} {α : Type} {t : Ty α} {x : α} {v : V} (r : t.rep M H v x) : ∀ {σ : L2.St} {ss : SS} (i : Nat), σ[i]? = some (some v) → Env M H σ ss → Env M H σ (ss.set i (some ⟨t, x⟩))
  | [], [], _, _, _ => trivial
  | [], _ :: _, _, _, h => h.elim
  | _ :: _, [], _, _, h => h.elim
  | none :: _, none :: _, 0, e, _ => by cases e
  | some _ :: _, none :: _, 0, e, h => ⟨by rw [Option.some.inj (Option.some.inj e)]; exact r, h⟩
  | none :: σ, none :: ss, i + 1, e, h => Env.put (σ := σ) (ss := ss) r i e h
  | some _ :: σ, none :: ss, i + 1, e, h => Env.put (σ := σ) (ss := ss) r i e h
  | none :: _, some _ :: _, _, _, h => h.elim
  | some _ :: _, some _ :: _, 0, e, h => ⟨by rw [Option.some.inj (Option.some.inj e)]; exact r, h.2⟩
  | some _ :: σ, some _ :: ss, i + 1, e, h => ⟨h.1, Env.put (σ := σ) (ss := ss) r i e h.2⟩
section
variable {A α β γ δ : Type} {K : PySem.W.Frag} {L loc ext : List Addr} {ss ss' : SS} {ms : List MSlot} {t : Ty α} {u : Ty β} {te ta tb tl : TE} {tt : TT} {tu tv tw tz : TS} {x : α} {y : β} {xs ys : List α} {rt : Ty δ} {N : SS → List MSlot → Prop} {R : δ → List MSlot → Prop} {B C : SS → List MSlot → Prop}
theorem vw_refl : Vw L ms ss ss := fun M σ H E _ => ⟨M, fun _ h => h, E⟩
theorem vw_list {i j : Nat} {a : Addr} (V : Vw L ms ss ss') (hL : L[j]? = some a) (hm : ms[j]? = some (mL t xs)) (hs : ss'[i]? = some (some ⟨yRef, a⟩)) : Vw L ms ss (ss'.set i (some ⟨yList t, xs⟩)) := fun M σ H E O => by
  obtain ⟨M', s, E'⟩ := V M σ H E O
  obtain ⟨a', e, vs, ha, p⟩ := O.get hm
  have : a' = a := Option.some.inj (e.symm.trans hL)
  subst this
  obtain ⟨v, ev, rv⟩ := E'.get hs
  have rv' : v = .ref a' := rv
  subst rv'
  have s2 : ∀ b ∈ M'.filter (fun b => decide (b ≠ a')), b ∈ M' := fun b hb => (List.mem_filter.mp hb).1
  refine ⟨M'.filter fun b => decide (b ≠ a'), fun b hb => s b (s2 b hb), ?_⟩
  refine Env.put (t := yList t) (x := xs) ?_ i ev (E'.less s2)
  exact ⟨a', vs, rfl, fun z => (of_decide_eq_true (List.mem_filter.mp z).2) rfl, ha, p.imp fun _ _ => t.less fun b hb => s b (s2 b hb)⟩
theorem xe_view [Scl u] {P : β → List MSlot → Prop} (V : Vw L ms ss ss') (h : Ve te ss' u y) (p : P y ms) : Xe L te ss ms u P := fun M σ H nd s wf E O Q q => by
  obtain ⟨M', s', E'⟩ := V M σ H E O
  exact h M' σ H E' (fun a ha => wf a (s' a ha)) H Ke.refl _ fun v H2 k r => q v H2 y ms k.all (O.grow k) (Scl.s r) p
theorem xt_view {b : Bool} {PB : Bool → List MSlot → Prop} (V : Vw L ms ss ss') (h : Vb tt ss' b) (p : PB b ms) : Xt L tt ss ms PB := fun M σ H nd s wf E O Q q => by
  obtain ⟨M', s', E'⟩ := V M σ H E O
  exact h M' σ H E' (fun a ha => wf a (s' a ha)) H Ke.refl _ fun H2 k => q H2 b ms k.all (O.grow k) p
theorem xn_lst {ta : TA} {P : List α → List MSlot → Prop} (h : Vi ta ss t xs) (hz : xs.length ≤ 1000000) (p : P xs ms) : Xn L (tLst ta) ss ms t P := fun M σ H nd s wf E O Q q =>
  h M σ H E wf H Ke.refl _ fun vs H2 k2 r => ⟨szle (by rw [r.len]; exact hz), fun a ha => q a vs xs ms _ (k2.free ha) (k2.all.trans (Ke.new ha)) (((O.grow k2).more ha).grow (Ke.new ha)) upd_same (r.imp fun _ _ rr => t.keep (Ke.new ha) (t.more ha rr)) p⟩
theorem xn_listOf {sy : Ty (List α)} {P : List α → List MSlot → Prop} (S : SeqY K t sy) (h : Ve te ss sy xs) (p : P xs ms) : Xn L (tCB (fun xs H Q => ∃ p ys, xs = [.ref p] ∧ (SqL K H p ys ∨ SqT K H p ys) ∧ ∀ l, H l = none → Q (.ref l) (upd H l (.lst ys))) (tCons te tNil)) ss ms t P := fun M σ H nd s wf E O Q q =>
  h M σ H E wf H Ke.refl _ fun v H2 k2 r => by
    obtain ⟨a, ws, rfl, hs, pr⟩ := S.sq r
    exact ⟨a, ws, rfl, hs, fun l hl => q l ws xs ms _ (k2.free hl) (k2.all.trans (Ke.new hl)) (((O.grow k2).more hl).grow (Ke.new hl)) upd_same (pr.imp fun _ _ rr => t.keep (Ke.new hl) (t.more hl rr)) p⟩
/-- a new list may be taken as a datum -/
theorem xe_new {P : List α → List MSlot → Prop} (h : Xn L te ss ms t P) : Xe L te ss ms (yList t) P := fun M σ H nd s wf E O Q q =>
  h M σ H nd s wf E O _ fun a vs xs ms' H' ha k O' h' pr p => q _ H' xs ms' k (O'.less fun _ z => List.mem_cons_of_mem _ z) ⟨a, vs, rfl, wf.not ha, h', pr.imp fun _ _ => t.less fun _ z => List.mem_cons_of_mem _ z⟩ p
/-- the world of a statement with one more owned list -/
theorem kn_fgt {a : Addr} {M0 : List Addr} {H H' : Hp} {D : Ends} (k : Kn loc ext M0 rt H D N R B C) (lift : ∀ {H2 : Hp}, Ke (a :: (loc ++ ext)) H' H2 → Ke (loc ++ ext) H H2) : Kn (a :: loc) ext M0 rt H' D (fgt N) R (fgt B) (fgt C) := by
  have less : ∀ b ∈ loc ++ M0, b ∈ (a :: loc) ++ M0 := fun b hb => List.mem_cons_of_mem _ hb
  have cut : ∀ {H2 : Hp} {m : MSlot} {ms : List MSlot}, Own ((a :: loc) ++ M0) H2 ((a :: loc) ++ ext) (m :: ms) → Own (loc ++ M0) H2 (loc ++ ext) ms := fun h => Own.less less h.2
  refine ⟨fun σ' H2 ss' ms2 e2 E2 O2 q => ?_, fun v H2 x ms2 e2 r O2 q => k.rt v H2 x ms2 (lift e2) r O2 q, fun σ' H2 ss' ms2 e2 E2 O2 q => ?_, fun σ' H2 ss' ms2 e2 E2 O2 q => ?_⟩
  · obtain ⟨m, ms3, rfl, q⟩ := q
    exact k.nx σ' H2 ss' ms3 (lift e2) (E2.less less) (cut O2) q
  · obtain ⟨m, ms3, rfl, q⟩ := q
    exact k.bk σ' H2 ss' ms3 (lift e2) (E2.less less) (cut O2) q
  · obtain ⟨m, ms3, rfl, q⟩ := q
    exact k.ct σ' H2 ss' ms3 (lift e2) (E2.less less) (cut O2) q
/-- x = a new list, owned from here on -/
theorem xs_new {i : Nat} (h : Xn (loc ++ ext) te ss ms t fun xs ms' => ∀ a, Xs (a :: loc) ext rt tz (ss.set i (some ⟨yRef, a⟩)) (mL t xs :: ms') (fgt N) R (fgt B) (fgt C)) : Xs loc ext rt (tSeq (tAsg te (gName i)) tz) ss ms N R B C := fun M0 σ H D w k =>
  h _ σ H w.nd w.sub w.wf w.env w.own _ fun a vs xs ms' H' ha e O' h' pr p => by
    have na : a ∉ loc ++ M0 := w.wf.not ha
    have nl : a ∉ loc ++ ext := fun z => na (w.sub a z)
    have E' : Env (a :: (loc ++ M0)) H' (σ.set i (some (.ref a))) (ss.set i (some ⟨yRef, a⟩)) := ((w.env.more ha).keep (e.sub fun b hb => List.mem_cons_of_mem _ (w.sub b hb))).set (t := yRef) (x := a) rfl i
    have wf' : Wf (a :: (loc ++ M0)) H' := (w.wf.keep e).cons h'
    exact p a M0 _ H' D ⟨List.nodup_cons.mpr ⟨nl, w.nd⟩, (fun b hb => by
      rcases List.mem_cons.mp hb with z | z
      · exact fun y => na (List.mem_append_right _ (by rw [← z]; exact y))
      · exact w.out b z), w.inn, wf', E', ⟨⟨vs, h', pr⟩, O'⟩⟩ (kn_fgt k fun e2 => ((e.sub fun b hb => List.mem_cons_of_mem _ hb).trans e2).old ha)
theorem own_L {M : List Addr} {H : Hp} {i : Nat} {a : Addr} (O : Own M H L ms) (hL : L[i]? = some a) (hm : ms[i]? = some (mL t xs)) : ∃ vs, H a = some (.lst vs) ∧ P2 (t.rep M H) vs xs := by
  obtain ⟨a', e, vs, h, p⟩ := O.get hm
  have : a' = a := Option.some.inj (e.symm.trans hL)
  subst this
  exact ⟨vs, h, p⟩
/-- xs.append(e) -/
theorem xe_app {i : Nat} {a : Addr} {P : Unit → List MSlot → Prop} (ha : Ve ta ss yRef a) (hL : L[i]? = some a) (h : Xe L te ss ms t fun y ms' => ∃ xs, ms'[i]? = some (mL t xs) ∧ xs.length ≤ 1000000 ∧ P () (ms'.set i (mL t (xs ++ [y])))) {xs0 : List α} (h0 : ms[i]? = some (mL t xs0)) :
    Xe L (tBM K "list" rAppend ta (tCons te tNil)) ss ms yNon P := fun M σ H nd s wf E O Q q => ha M σ H E wf H Ke.refl _ fun v H1 k1 r => by
  have rv : v = .ref a := r
  subst rv
  have haM : a ∈ M := s a (List.mem_of_getElem? hL)
  obtain ⟨vs0, h1, _⟩ := own_L (O.grow k1) hL h0
  refine ⟨Or.inl ⟨rfl, vs0, SqL.of h1⟩, h M σ H1 nd s (wf.keep k1) (E.keep k1.all) (O.grow k1) _ fun y H2 x ms2 k2 O2 r2 ⟨xs, hm, hz, p⟩ => ?_⟩
  obtain ⟨vs, h2, pr⟩ := own_L O2 hL hm
  have k3 : Ke [a] H2 (upd H2 a (.lst (vs ++ [y]))) := Ke.mut (List.mem_singleton.mpr rfl)
  have k4 : Ke M H2 (upd H2 a (.lst (vs ++ [y]))) := Ke.mut haM
  refine ⟨a, vs, y, rfl, rfl, h2, szlt (by rw [pr.len]; exact hz), q _ _ () _ ((k1.all.trans k2).trans (Ke.mut (List.mem_of_getElem? hL))) (Own.put k3 haM ?_ nd hL O2) rfl p⟩
  exact ⟨_, upd_same, (pr.imp fun _ _ => t.keep k4).app ⟨t.keep k4 r2, trivial⟩⟩
/-- xs.pop(i) -/
theorem xe_popAt {i : Nat} {a : Addr} {P : α → List MSlot → Prop} (ha : Ve ta ss yRef a) (hL : L[i]? = some a) {xs0 : List α} (h0 : ms[i]? = some (mL t xs0)) (h : Xe L te ss ms yInt fun j ms' => ∃ (xs : List α) (n : Nat) (y : α), j = (n : Int) ∧ n ≤ 1000000 ∧ ms'[i]? = some (mL t xs) ∧ xs[n]? = some y ∧ P y (ms'.set i (mL t (xs.eraseIdx n)))) :
    Xe L (tBM K "list" rPopAt ta (tCons te tNil)) ss ms t P := fun M σ H nd s wf E O Q q => ha M σ H E wf H Ke.refl _ fun v H1 k1 r => by
  have rv : v = .ref a := r
  subst rv
  have haM : a ∈ M := s a (List.mem_of_getElem? hL)
  obtain ⟨vs0, h1, _⟩ := own_L (O.grow k1) hL h0
  refine ⟨Or.inl ⟨rfl, vs0, SqL.of h1⟩, h M σ H1 nd s (wf.keep k1) (E.keep k1.all) (O.grow k1) _ fun w H2 j ms2 k2 O2 r2 ⟨xs, n, y, ej, hn, hm, hy, p⟩ => ?_⟩
  subst ej
  have rw' : w = .int (n : Int) := r2
  subst rw'
  obtain ⟨vs, h2, pr⟩ := own_L O2 hL hm
  obtain ⟨z, hz, rz⟩ := pr.tog hy
  have k3 : Ke [a] H2 (upd H2 a (.lst (vs.eraseIdx n))) := Ke.mut (List.mem_singleton.mpr rfl)
  have k4 : Ke M H2 (upd H2 a (.lst (vs.eraseIdx n))) := Ke.mut haM
  have hlt : n < vs.length := (List.getElem?_eq_some_iff.mp hz).1
  have er : ∀ {vs : List V} {xs : List α} (n : Nat), P2 (t.rep M H2) vs xs → P2 (t.rep M H2) (vs.eraseIdx n) (xs.eraseIdx n) := by
    intro vs
    induction vs with
    | nil => intro xs n h; cases xs with
      | nil => exact h
      | cons _ _ => exact h.elim
    | cons v vs ih => intro xs n h; cases xs with
      | nil => exact h.elim
      | cons x xs => cases n with
        | zero => exact h.2
        | succ n => exact ⟨h.1, ih n h.2⟩
  refine ⟨a, vs, (n : Int), n, z, rfl, rfl, h2, by omega, by omega, ?_, hz, q z _ y _ ((k1.all.trans k2).trans (Ke.mut (List.mem_of_getElem? hL))) (Own.put (m' := mL t (xs.eraseIdx n)) k3 haM ⟨_, upd_same, (er n pr).imp fun _ _ => t.keep k4⟩ nd hL O2) (t.keep k4 rz) p⟩
  · have e : ixN vs.length (n : Int) = some n := by
      unfold ixN
      rw [if_pos (by omega), if_pos (by omega)]
      simp
    exact (ixN_seq e).1
/-- return of an owned list -/
theorem xs_retL {sy : Ty α} {R : List α → List MSlot → Prop} {i : Nat} {a : Addr} (h : Ve te ss yRef a) (hL : loc[i]? = some a) (hm : ms[i]? = some (mL sy xs)) (p : R xs (ms.drop loc.length)) : Xs loc ext (yList sy) (tRet te) ss ms N R B C := fun M0 σ H D w k =>
  h _ σ H w.env w.wf H Ke.refl _ fun v H1 e r => by
    have rv : v = .ref a := r
    subst rv
    have hl : i < loc.length := (List.getElem?_eq_some_iff.mp hL).1
    have hL' : (loc ++ ext)[i]? = some a := by rw [List.getElem?_append_left hl]; exact hL
    have O1 := w.own.grow e
    obtain ⟨vs, h1, pr⟩ := own_L O1 hL' hm
    exact k.rt _ H1 xs _ e.all ⟨a, vs, rfl, w.out a (List.mem_of_getElem? hL), h1, pr.imp fun _ _ => sy.less fun b hb => List.mem_append_right _ hb⟩ (own_ext (fun b hb => List.mem_append_right _ hb) O1) p
end
/-! ### new objects of any kind, owned -/
def Xo (L : List Addr) (te : TE) (ss : SS) (ms : List MSlot) (P : MSlot → List MSlot → Prop) : Prop := ∀ M σ H, L.Nodup → (∀ a ∈ L, a ∈ M) → Wf M H → Env M H σ ss → Own M H L ms →
  ∀ Q : VK, (∀ a m ms' H', H a = none → Ke L H H' → Own (a :: M) H' L ms' → m.I (a :: M) H' a → P m ms' → Q (.ref a) H') → te σ H Q
/-- a promise of a new object -/
def SpO {A : Type} (sl : A → List Slot) (pre : A → Prop) (post : A → MSlot → Prop) : Sp := fun vs H Q _ => ∃ (M : List Addr) (a : A), Wf M H ∧ ArgsR M H vs (sl a) ∧ pre a ∧ ∀ p m H', H p = none → Ke [] H H' → m.I (p :: M) H' p → post a m → Q (.ref p) H'
section
variable {A α β γ δ : Type} {K : PySem.W.Frag} {L loc ext : List Addr} {ss ss' : SS} {ms : List MSlot} {t : Ty α} {u : Ty β} {te ta tb tl : TE} {tt : TT} {tu tv tw tz : TS} {x : α} {y : β} {xs ys : List α} {rt : Ty δ} {N : SS → List MSlot → Prop} {R : δ → List MSlot → Prop} {B C : SS → List MSlot → Prop} {E : XK}
theorem xo_of {P : MSlot → List MSlot → Prop} (h : Xn L te ss ms t fun xs ms' => P (mL t xs) ms') : Xo L te ss ms P := fun M σ H nd s wf E O Q q =>
  h M σ H nd s wf E O _ fun a vs xs ms' H' ha k O' h' pr p => q a (mL t xs) ms' H' ha k O' ⟨vs, h', pr⟩ p
theorem xo_call {sl : A → List Slot} {pre : A → Prop} {post : A → MSlot → Prop} {ta : TA} {P : MSlot → List MSlot → Prop} (a : A) (h : Vs ta ss (sl a)) (hp : pre a) (hq : ∀ m, post a m → P m ms) : Xo L (tCall (SpO sl pre post) [] E ta) ss ms P := fun M σ H nd s wf En O Q q =>
  h M σ H En wf H Ke.refl _ fun vs H2 k2 r => ⟨M, a, wf.keep k2, (by rw [List.append_nil]; exact r), hp, fun p m H' hn k' i po => q p m ms H' (k2.free hn) (k2.all.trans k'.all) (((O.grow k2).more hn).grow k') i (hq m po)⟩
theorem wh_new {a : Addr} {M0 : List Addr} {H H' : Hp} {σ : L2.St} {ms' : List MSlot} {m : MSlot} (w : Wh loc ext M0 H σ ss ms) (ha : H a = none) (e : Ke (loc ++ ext) H H') (O' : Own (a :: (loc ++ M0)) H' (loc ++ ext) ms') (i : m.I (a :: (loc ++ M0)) H' a) {σ' : L2.St} (E' : Env (a :: (loc ++ M0)) H' σ' ss') : Wh (a :: loc) ext M0 H' σ' ss' (m :: ms') := by
  have na : a ∉ loc ++ M0 := w.wf.not ha
  have nl : a ∉ loc ++ ext := fun z => na (w.sub a z)
  obtain ⟨o, ho⟩ := m.there i
  exact ⟨List.nodup_cons.mpr ⟨nl, w.nd⟩, (fun b hb => by
      rcases List.mem_cons.mp hb with z | z
      · exact fun y => na (List.mem_append_right _ (by rw [← z]; exact y))
      · exact w.out b z), w.inn, (w.wf.keep e).cons ho, E', ⟨i, O'⟩⟩
theorem xs_newO {i : Nat} (h : Xo (loc ++ ext) te ss ms fun m ms' => ∀ a, Xs (a :: loc) ext rt tz (ss.set i (some ⟨yRef, a⟩)) (m :: ms') (fgt N) R (fgt B) (fgt C)) : Xs loc ext rt (tSeq (tAsg te (gName i)) tz) ss ms N R B C := fun M0 σ H D w k =>
  h _ σ H w.nd w.sub w.wf w.env w.own _ fun a m ms' H' ha e O' im p => by
    have E' : Env (a :: (loc ++ M0)) H' (σ.set i (some (.ref a))) (ss.set i (some ⟨yRef, a⟩)) := ((w.env.more ha).keep (e.sub fun b hb => List.mem_cons_of_mem _ (w.sub b hb))).set (t := yRef) (x := a) rfl i
    exact p a M0 _ H' D (wh_new w ha e O' im E') (kn_fgt k fun e2 => ((e.sub fun b hb => List.mem_cons_of_mem _ hb).trans e2).old ha)
/-- x, y = two new objects -/
theorem xs_par2 {i j : Nat} (h : Xo (loc ++ ext) ta ss ms fun m1 ms1 => ∀ a, Xo (a :: (loc ++ ext)) tb ss (m1 :: ms1) fun m2 ms2 => ∀ b, Xs (b :: a :: loc) ext rt tz ((ss.set i (some ⟨yRef, a⟩)).set j (some ⟨yRef, b⟩)) (m2 :: ms2) (fgt (fgt N)) R (fgt (fgt B)) (fgt (fgt C))) :
    Xs loc ext rt (tSeq (tPar i j (tCons ta (tCons tb tNil))) tz) ss ms N R B C := fun M0 σ H D w k =>
  h _ σ H w.nd w.sub w.wf w.env w.own _ fun a m1 ms1 H1 ha e1 O1 i1 p => by
    have E1 : Env (a :: (loc ++ M0)) H1 σ ss := (w.env.more ha).keep (e1.sub fun b hb => List.mem_cons_of_mem _ (w.sub b hb))
    have w1 : Wh (a :: loc) ext M0 H1 σ ss (m1 :: ms1) := wh_new w ha e1 O1 i1 E1
    have k1 : Kn (a :: loc) ext M0 rt H1 D (fgt N) R (fgt B) (fgt C) := kn_fgt k fun e2 => ((e1.sub fun b hb => List.mem_cons_of_mem _ hb).trans e2).old ha
    refine p a _ σ H1 w1.nd w1.sub w1.wf w1.env w1.own _ fun b m2 ms2 H2 hb e2 O2 i2 p2 => ⟨.ref a, .ref b, rfl, ?_⟩
    have E2 : Env (b :: (a :: loc ++ M0)) H2 ((σ.set i (some (.ref a))).set j (some (.ref b))) ((ss.set i (some ⟨yRef, a⟩)).set j (some ⟨yRef, b⟩)) := (((w1.env.more hb).keep (e2.sub fun c hc => List.mem_cons_of_mem _ (w1.sub c hc))).set (t := yRef) (x := a) rfl i).set (t := yRef) (x := b) rfl j
    exact p2 b M0 _ H2 D (wh_new w1 hb e2 O2 i2 E2) (kn_fgt k1 fun e3 => ((e2.sub fun c hc => List.mem_cons_of_mem _ hc).trans e3).old hb)
end
/-! ### more of what may change owned objects -/
section
variable {A α β γ δ : Type} {K : PySem.W.Frag} {L loc ext : List Addr} {ss ss' : SS} {ms : List MSlot} {t : Ty α} {u : Ty β} {te ta tb tl : TE} {tt : TT} {tu tv tw tz : TS} {x : α} {y : β} {xs ys : List α} {rt : Ty δ} {N : SS → List MSlot → Prop} {R : δ → List MSlot → Prop} {B C : SS → List MSlot → Prop} {E : XK}
theorem xa_of {ta : TA} {sl : List Slot} {PS : List Slot → List MSlot → Prop} (h : Vs ta ss sl) (p : PS sl ms) : Xa L ta ss ms PS := fun M σ H _ _ wf E O Q q => h M σ H E wf H Ke.refl _ fun vs H2 k r => q vs H2 sl ms k.all (O.grow k) r p
theorem xe_pair {P : α × β → List MSlot → Prop} (h : Xe L ta ss ms t fun x ms1 => Xe L tb ss ms1 u fun y ms2 => P (x, y) ms2) : Xe L (tTup (tCons ta (tCons tb tNil))) ss ms (yPair K t u) P := fun M σ H nd s wf E O Q q =>
  h M σ H nd s wf E O _ fun v H1 x ms1 k1 O1 r1 h2 => h2 M σ H1 nd s (wf.keep k1) (E.keep (k1.sub s)) O1 _ fun w H2 y ms2 k2 O2 r2 p =>
    ⟨by show 2 ≤ sizeLine; decide, fun a ha => q _ _ (x, y) ms2 ((k1.trans k2).trans (Ke.new ha)) (O2.grow (Ke.new ha)) ⟨a, v, w, rfl, .inl ⟨(wf.keep (k1.trans k2)).not ha, upd_same⟩, t.keep (Ke.new ha) (t.keep (k2.sub s) r1), u.keep (Ke.new ha) r2⟩ p⟩
theorem xs_asgT {g : TG} {ws : List Nat} {f : α → SS → SS} (T : Tg g t ws f) (h : Xe (loc ++ ext) te ss ms t fun x ms' => N (f x ss) ms') : Xs loc ext rt (tAsg te g) ss ms N R B C := fun M0 σ H D w k =>
  h _ σ H w.nd w.sub w.wf w.env w.own _ fun v H' x ms' e O r p => T _ σ H' ss v x (w.env.keep (e.sub w.sub)) r _ fun σ' _ E' => k.nx σ' H' _ ms' e E' O p
/-- a comprehension whose tests and items may change owned objects -/
theorem xn_lcL {g : TG} {ws : List Nat} {f : α → SS → SS} {P : List β → List MSlot → Prop} (T : Tg g t ws f) (hl : Ve tl ss (yList t) xs) (I : Nat → List β → List MSlot → Prop) (h0 : I 0 [] ms)
    (hs : ∀ i x ys ms', xs[i]? = some x → I i ys ms' → Xt L tt (f x (wipeS ss ws)) ms' fun b ms1 => if b = true then Xe L te (f x (wipeS ss ws)) ms1 u fun y ms2 => ys.length ≤ 1000000 ∧ I (i + 1) (ys ++ [y]) ms2 else I (i + 1) ys ms1)
    (hd : ∀ ys ms', I xs.length ys ms' → P ys ms') : Xn L (tLc (iList K tl) g tt te ws) ss ms u P := fun M σ H nd s wf E O Q q => hl M σ H E wf H Ke.refl _ fun v H2 k2 r => by
  obtain ⟨a, vs, rfl, n, ha, pr⟩ := r
  have E2 : Env M H2 σ ss := E.keep k2.all
  have wf2 : Wf M H2 := wf.keep k2
  have na : a ∉ L := fun z => n (s a z)
  refine ⟨a, rfl, ⟨vs, SqL.of ha⟩, fun Dl hD => lc_list (xs := vs) (fun i H' => ∃ ys ms' ws', Ke (Dl :: L) H2 H' ∧ H' Dl = some (.lst ws') ∧ P2 (u.rep (Dl :: M) H') ws' ys ∧ Own (Dl :: M) H' L ms' ∧ I i ys ms') ⟨[], ms, [], Ke.new hD, upd_same, trivial, ((O.grow k2).more hD).grow (Ke.new hD), h0⟩ (fun i H' _ ⟨ys, ms', ws', c, _⟩ => ?_) (fun i v H' hv ⟨ys, ms', ws', c, cD, cp, cO, cI⟩ => ?_) (fun H' ⟨ys, ms', ws', c, cD, cp, cO, cI⟩ => ?_)⟩
  · exact SqL.of (c.keep a _ (fun z => by
      rcases List.mem_cons.mp z with z | z
      · rw [z, hD] at ha; cases ha
      · exact na z) ha)
  · obtain ⟨x, hx, rx⟩ := pr.get hv
    have sM : ∀ b ∈ Dl :: L, b ∈ Dl :: M := fun b hb => by
      rcases List.mem_cons.mp hb with z | z
      · rw [z]; exact List.mem_cons_self
      · exact List.mem_cons_of_mem _ (s b z)
    have sL : ∀ b ∈ L, b ∈ Dl :: M := fun b hb => List.mem_cons_of_mem _ (s b hb)
    have nD : Dl ∉ L := fun z => wf2.not hD (s Dl z)
    have E3 : Env (Dl :: M) H' (wipe σ ws) (wipeS ss ws) := ((E2.more hD).keep (c.sub sM)).wipe ws
    have wf3 : Wf (Dl :: M) H' := (wf2.keep c).cons cD
    refine T (Dl :: M) (wipe σ ws) H' (wipeS ss ws) v x E3 (t.keep (c.sub sM) (t.more hD rx)) _ fun σ' hw E4 => ⟨hw.trans (wipe_wipe fun _ h => h), ?_⟩
    refine hs i x ys ms' hx cI (Dl :: M) σ' H' nd sL wf3 E4 cO _ fun H3 b ms1 k3 O3 p3 => ?_
    cases b with
    | true =>
      show te σ' H3 _
      refine p3 (Dl :: M) σ' H3 nd sL (wf3.keep k3) (E4.keep (k3.sub sL)) O3 _ fun z H4 y ms2 k4 O4 r4 ⟨hz, hI⟩ => ?_
      have k34 : Ke L H' H4 := k3.trans k4
      have kD : Ke (Dl :: M) H4 (upd H4 Dl (.lst (ws' ++ [z]))) := Ke.mut List.mem_cons_self
      refine ⟨ws', k34.keep Dl _ nD cD, szlt (by rw [cp.len]; exact hz), ys ++ [y], ms2, ws' ++ [z], (c.trans (k34.sub fun b hb => List.mem_cons_of_mem _ hb)).trans (Ke.mut List.mem_cons_self), upd_same, ?_, ?_, hI⟩
      · exact (cp.imp fun _ _ => u.keep ((k34.sub sL).trans kD)).app ⟨u.keep kD r4, trivial⟩
      · exact O4.stab (M' := [Dl]) (Ke.mut (List.mem_singleton.mpr rfl)) (fun b hb => by rw [List.mem_singleton.mp hb]; exact List.mem_cons_self) fun b hb z => nD (by rw [← List.mem_singleton.mp z]; exact hb)
    | false =>
      exact ⟨ys, ms1, ws', c.trans (k3.sub fun b hb => List.mem_cons_of_mem _ hb), k3.keep Dl _ nD cD, cp.imp fun _ _ => u.keep (k3.sub sL), O3, p3⟩
  · rw [pr.len] at cI
    exact q Dl ws' ys ms' H' (k2.free hD) (k2.all.trans (c.old hD)) cO cD cp (hd ys ms' cI)
end
end Fp

/-! ## the law's pen and its draws -/
namespace Fp
open PySem L2
abbrev kC : Key := Sum.inr ("cells" : Str)
abbrev kT : Key := Sum.inr ("turn" : Str)
abbrev kL : Key := Sum.inr ("left" : Str)
theorem ne_ct : ¬ kC = kT := by decide +kernel
theorem ne_cl : ¬ kC = kL := by decide +kernel
theorem ne_tl : ¬ kT = kL := by decide +kernel
def penD (c : Addr) (t l : Int) : List (Key × V) := [(kC, .ref c), (kT, .int t), (kL, .int l)]
theorem valV_hit {k : Key} {v : V} {r : List (Key × V)} : valV ((k, v) :: r) k = some v := by
  unfold valV
  rw [List.find?_cons_of_pos (by exact decide_eq_true rfl)] <;> rfl
theorem valV_miss {k k' : Key} {v : V} {r : List (Key × V)} (h : ¬ k' = k) : valV ((k', v) :: r) k = valV r k := by
  unfold valV
  rw [List.find?_cons_of_neg (by exact fun z => h (of_decide_eq_true z))]
theorem pen_cells (c : Addr) (t l : Int) : valV (penD c t l) kC = some (.ref c) := valV_hit
theorem pen_turn (c : Addr) (t l : Int) : valV (penD c t l) kT = some (.int t) := (valV_miss ne_ct).trans valV_hit
theorem pen_left (c : Addr) (t l : Int) : valV (penD c t l) kL = some (.int l) := (valV_miss ne_cl).trans ((valV_miss ne_tl).trans valV_hit)
theorem put_turn (c : Addr) (t l n : Int) : putK (penD c t l) kT (.int n) = penD c n l := by
  unfold putK
  have h : ((penD c t l).any fun kv => decide (kv.1 = kT)) = true := List.any_eq_true.mpr ⟨(kT, .int t), by unfold penD; simp, decide_eq_true rfl⟩
  rw [if_pos h]
  show [if kC = kT then (kC, V.int n) else (kC, V.ref c), if kT = kT then (kT, V.int n) else (kT, V.int t), if kL = kT then (kL, V.int n) else (kL, V.int l)] = penD c n l
  rw [if_neg ne_ct, if_pos rfl, if_neg (Ne.symm ne_tl)]
  rfl
theorem put_left (c : Addr) (t l n : Int) : putK (penD c t l) kL (.int n) = penD c t n := by
  unfold putK
  have h : ((penD c t l).any fun kv => decide (kv.1 = kL)) = true := List.any_eq_true.mpr ⟨(kL, .int l), by unfold penD; simp, decide_eq_true rfl⟩
  rw [if_pos h]
  show [if kC = kL then (kC, V.int n) else (kC, V.ref c), if kT = kL then (kT, V.int n) else (kT, V.int t), if kL = kL then (kL, V.int n) else (kL, V.int l)] = penD c t n
  rw [if_neg ne_cl, if_neg ne_tl, if_pos rfl]
  rfl
/-- a pen, at most T cells taken so far -/
def mPen (T : Nat) : MSlot where
  I := fun M H p => ∃ (c : Addr) (ns : List Int) (t l : Int), H p = some (.dK (penD c t l)) ∧ c ∉ M ∧ H c = some (.lst (ns.map V.int)) ∧ ns.length ≤ 63 ∧ 0 ≤ t ∧ t ≤ (T : Int)
  stab := fun k s n ⟨c, ns, t, l, h, nc, hc, r⟩ => ⟨c, ns, t, l, k.keep _ _ n h, nc, k.keep _ _ (fun z => nc (s c z)) hc, r⟩
  more := fun {M H a p} f ⟨c, ns, t, l, h, nc, hc, r⟩ => ⟨c, ns, t, l, h, (fun z => by
    rcases List.mem_cons.mp z with z | z
    · rw [z, f] at hc; cases hc
    · exact nc z), hc, r⟩
  less := fun s ⟨c, ns, t, l, h, nc, hc, r⟩ => ⟨c, ns, t, l, h, (fun z => nc (s c z)), hc, r⟩
  there := fun ⟨c, ns, t, l, h, _⟩ => ⟨_, h⟩
theorem pen_le {T T' : Nat} (h : T ≤ T') {M : List Addr} {H : Hp} {p : Addr} (i : (mPen T).I M H p) : (mPen T').I M H p := by
  obtain ⟨c, ns, t, l, a, b, d, e, f, g⟩ := i
  exact ⟨c, ns, t, l, a, b, d, e, f, by omega⟩
/-- draw(pen, span): a number below the span -/
abbrev slDraw : Addr × Int × Nat → List Slot := fun a => [⟨yRef, a.1⟩, ⟨yInt, a.2.1⟩]
abbrev spDraw : Sp := SpX (A := Addr × Int × Nat) (fun a => [a.1]) slDraw (fun a => [mPen a.2.2]) (fun a => 0 < a.2.1 ∧ a.2.1 < 1073741824 ∧ a.2.2 ≤ 1000000000000) yInt (fun a r ms' => 0 ≤ r ∧ r < a.2.1 ∧ ms' = [mPen (a.2.2 + 1)])
/-- pen(script): a pen -/
def yScr (K : PySem.W.Frag) : Ty (List Int) where
  rep := fun M H v ns => ∃ a, v = .ref a ∧ ∀ H', (Ke M H H' → SqL K H' a (ns.map V.int))
  keep := fun k ⟨a, e, h⟩ => ⟨a, e, fun H' k' => h H' (k.trans k')⟩
  less := fun s ⟨a, e, h⟩ => ⟨a, e, fun H' k' => h H' (k'.sub s)⟩
  more := fun {M H v x p} f ⟨a, e, h⟩ => ⟨a, e, fun H' k' => h H' (k'.old f)⟩
theorem atI_mod {ns : List Int} {k : Int} (h : 0 < ns.length) : ∃ v : Int, atI (ns.map V.int) (k % (ns.length : Int)) = some (.int v) := by
  have h1 := Int.emod_nonneg k (show (ns.length : Int) ≠ 0 by omega)
  have h2 := Int.emod_lt_of_pos k (show (0 : Int) < (ns.length : Int) by omega)
  have hk : (k % (ns.length : Int)).toNat < ns.length := by omega
  have g : atI (ns.map V.int) (((k % (ns.length : Int)).toNat : Nat) : Int) = some (.int ns[(k % (ns.length : Int)).toNat]) := atI_nat (by rw [List.getElem?_map, List.getElem?_eq_getElem hk] <;> rfl)
  have e : (((k % (ns.length : Int)).toNat : Nat) : Int) = k % (ns.length : Int) := by omega
  exact ⟨ns[(k % (ns.length : Int)).toNat], by rw [e] at g; exact g⟩
theorem dpAll_ints (K : PySem.W.Frag) (H : Hp) : ∀ ns : List Int, DpAll K H (ns.map V.int) (ns.map PyData.int)
  | [] => .nil
  | _ :: r => .cons (.int _) (dpAll_ints K H r)
theorem shp_ints (ns : List Int) : SeqAt.shaped (.list (ns.map PyData.int)) = true := (shp_list (n := 0) (d := PyData.int) fun x _ => shp_int x).shaped (by decide)
section
variable {L : List Addr} {ss : SS} {ms : List MSlot} {tn : TE} {E : XK} {p : Addr}
/-- draw(pen, n) -/
theorem xe_draw {i j : Nat} {P : Int → List MSlot → Prop} (hp : ss[i]? = some (some ⟨yRef, p⟩)) (hL : L[j]? = some p) (hn : Xe L tn ss ms yInt fun n ms1 => ∃ T, ms1[j]? = some (mPen T) ∧ 0 < n ∧ n < 1073741824 ∧ T ≤ 1000000000000 ∧ ∀ r, 0 ≤ r → r < n → P r (ms1.set j (mPen (T + 1)))) : Xe L (tCall spDraw [] E (tCons (tVar i) (tCons tn tNil))) ss ms yInt P :=
  xe_call1 (xa_cons (xe_of (ve_v hp) (xa_cons (xe_mono hn fun n ms1 ⟨T, h1, h2, h3, h4, h5⟩ => xa_nil ⟨(p, n, T), j, p, _, rfl, rfl, rfl, hL, h1, ⟨h2, h3, h4⟩, fun r m' ⟨r0, r1, e⟩ => by
    have e := (List.cons.inj e).1
    subst e
    exact h5 r r0 r1⟩))))
theorem xe_add {ta tb : TE} {P : Int → List MSlot → Prop} (h : Xe L ta ss ms yInt fun x ms1 => Xe L tb ss ms1 yInt fun y ms2 => P (x + y) ms2) : Xe L (tOp (rI0 fun i j => .int (i + j)) ta tb) ss ms yInt P :=
  xe_opP (f := fun i j => i + j) (C := fun _ _ => True) (fun M v1 v2 H1 x y _ wf r1 r2 Q q => ⟨x, y, r1, r2, q _ H1 Ke.refl rfl⟩) (xe_mono h fun x ms1 hb => xe_mono hb fun y ms2 p => ⟨trivial, p⟩)
theorem xe_eq {α : Type} {t : Ty α} [DecidableEq α] [Sca t] {ta tb : TE} {P : Bool → List MSlot → Prop} [Scl t] (h : Xe L ta ss ms t fun x ms1 => Xe L tb ss ms1 t fun y ms2 => P (decide (x = y)) ms2) : Xe L (tOp rEq ta tb) ss ms yBool P :=
  xe_opP (f := fun x y => decide (x = y)) (C := fun _ _ => True) (fun M v1 v2 H1 x y _ wf r1 r2 Q q => ⟨(Sca.s r1 r2).1, q _ H1 Ke.refl (congrArg V.bl (Sca.s r1 r2).2)⟩) (xe_mono h fun x ms1 hb => xe_mono hb fun y ms2 p => ⟨trivial, p⟩)
end
/-- the law's script, as the end hands it in -/
theorem scr_of {K : PySem.W.Frag} {H : Hp} {a : Addr} {ns : List Int} (h : SqL K H a (ns.map V.int)) : (yScr K).rep [] H (.ref a) ns := ⟨a, rfl, fun H' k => by
  rcases h with h | h
  · exact .inl (h.imp k.one fun ⟨o, e⟩ => ⟨o, k.one e⟩)
  · exact .inr h⟩
abbrev spLaw (K : PySem.W.Frag) : Sp := SpX (A := List Int) (fun _ => []) (fun ns => [⟨yScr K, ns⟩]) (fun _ => []) (fun ns => ns.length ≤ 63) yBool (fun _ b _ => b = true)
theorem law_in {K : PySem.W.Frag} {H : Hp} {a : Addr} {ns : List Int} {E : XK} (hl : ns.length ≤ 63) (hS : SqL K H a (ns.map V.int)) : spLaw K [.ref a] H (fun v _ => v = .bl true) E :=
  ⟨[], ns, .nil, fun _ h => h, Wf.nil, ⟨scr_of hS, trivial⟩, trivial, hl, fun r x ms' H' _ _ hr hp => by
    have hp : x = true := hp
    subst hp
    exact hr⟩
end Fp

/-! ## operators of own classes -/
namespace Fp
open PySem L2
structure OwnM (K : PySem.W.Frag) (C : Addr) (m : Str) (f : Addr) : Prop where
  fi : PySem.W.findIn K (.ref C) m = some (some (.ref f))
  fn : PySem.W.isFn K (.ref f) = true
def rInO (C : Addr) (sp : Sp) (E : XK) : R2 := fun x y H Q => ∃ a dx fs, y = .ref a ∧ H a = some (.ins C dx fs) ∧ sp [.ref a, x] H (fun v H' => ∃ b, v = .bl b ∧ Q (.bl b) H') E
def rCmpO (C : Addr) (sp : Sp) (E : XK) : R2 := fun x y H Q => ∃ a b dx dy fs gs, x = .ref a ∧ y = .ref b ∧ H a = some (.ins C dx fs) ∧ H b = some (.ins C dy gs) ∧ sp [.ref a, .ref b] H Q E
section
variable {X : Cx} {CX : CXT} {k : Nat} {f C : Addr} {fd : FuncData} {ps : List Str} {sp : Sp} {E : XK}
theorem op_in_own (F : FnOk X.prog X.w X.K X.mg X.base CX k f fd ps sp) (hr : Room k X.A) (hb : Binds X.K fd ps []) (hx : Passes CX X E) (m : OwnM X.K C "__contains__" f) : OpR X (compareOp .In) (rInO C sp E) := by
  intro pins s σ H x y v u Q I rx ry hq
  obtain ⟨a, dx, fs, rfl, ha, q⟩ := hq
  cases ry
  obtain ⟨mA, J, _⟩ := ins_get I.hok ha
  obtain ⟨od, J, _⟩ := J.look
  obtain ⟨m', hF⟩ := I.fr
  refine PySem.W.in_K hF I.ok.mod.kin J m.fi m.fn ?_
  refine wpAny_mono (run_fn (vs := [.ref a, x]) F hr hb .nil hx I (.cons (show RelV (.ref a) (.ref a) from rfl) (.cons rx .nil)) (by rw [List.append_nil]; exact q)) (fun r s' z => ?_) fun _ _ z => z
  obtain ⟨z, H', I', rz, b, rfl, q'⟩ := z
  cases rz
  exact wpAny_truthy_bool ⟨.bl b, H', I', rfl, q'⟩
theorem back_of {Q : Value → Shared → Prop} {z : V} {r : Value} {s' : Shared} (rz : RelV z r) (q : Q r s') : PySem.W.CmpBack Q r s' := by
  cases z <;> first
    | (cases rz; exact q)
    | (obtain ⟨t, rfl⟩ := rz; exact q)
theorem op_cmp_own {op : CmpOp} (F : FnOk X.prog X.w X.K X.mg X.base CX k f fd ps sp) (hr : Room k X.A) (hb : Binds X.K fd ps []) (hx : Passes CX X E) (m : OwnM X.K C (cmpInfo op).2.1 f) (hop : ∀ v u, compareOp op v u = richCompare op v u) : OpR X (compareOp op) (rCmpO C sp E) := by
  intro pins s σ H x y v u Q I rx ry hq
  obtain ⟨a, b, dx, dy, fs, gs, rfl, rfl, ha, hb', q⟩ := hq
  cases rx
  cases ry
  obtain ⟨mA, J, _⟩ := ins_get I.hok ha
  obtain ⟨mB, J', _⟩ := ins_get I.hok hb'
  obtain ⟨od, J, _⟩ := J.look
  obtain ⟨od', J', _⟩ := J'.look
  obtain ⟨m', hF⟩ := I.fr
  rw [hop]
  refine PySem.W.cmp_K (op := op) (tb := .ref C) hr.units0 hF I.ok.mod.kin J J'.type (by simp [PySem.W.notFirst]) m.fi m.fn ?_
  refine wpAny_mono (run_fn (vs := [.ref a, .ref b]) F hr hb .nil hx I (.cons (show RelV (.ref a) (.ref a) from rfl) (.cons (show RelV (.ref b) (.ref b) from rfl) .nil)) (by rw [List.append_nil]; exact q)) (fun r s' z => ?_) fun _ _ z => z
  obtain ⟨z, H', I', rz, q'⟩ := z
  exact back_of rz ⟨z, H', I', rz, q'⟩
theorem op_bin_own {op : Operator} (F : FnOk X.prog X.w X.K X.mg X.base CX k f fd ps sp) (hr : Room k X.A) (hb : Binds X.K fd ps []) (hx : Passes CX X E) (m : OwnM X.K C (PySem.dunder op.info.2) f) (hc : PySem.W.selfFirst X.K C = true) : OpR X (binaryOp op) (rCmpO C sp E) := by
  intro pins s σ H x y v u Q I rx ry hq
  obtain ⟨a, b, dx, dy, fs, gs, rfl, rfl, ha, hb', q⟩ := hq
  cases rx
  cases ry
  obtain ⟨mA, J, _⟩ := ins_get I.hok ha
  obtain ⟨mB, J', _⟩ := ins_get I.hok hb'
  obtain ⟨od, J, _⟩ := J.look
  obtain ⟨od', J', _⟩ := J'.look
  obtain ⟨m', hF⟩ := I.fr
  refine PySem.W.binop_K hF I.ok.mod.kin J J'.type hc m.fi m.fn ?_
  refine wpAny_mono (run_fn (vs := [.ref a, .ref b]) F hr hb .nil hx I (.cons (show RelV (.ref a) (.ref a) from rfl) (.cons (show RelV (.ref b) (.ref b) from rfl) .nil)) (by rw [List.append_nil]; exact q)) (fun r s' z => ?_) fun _ _ z => z
  obtain ⟨z, H', I', rz, q'⟩ := z
  exact back_of rz ⟨z, H', I', rz, q'⟩
end
/-- an instance of a class -/
structure InsY {α : Type} (C : Addr) (t : Ty α) (m : Str) : Prop where
  i : ∀ {M : List Addr} {H : Hp} {v : V} {x : α}, t.rep M H v x → ∃ a dx fs, v = .ref a ∧ H a = some (.ins C dx fs) ∧ fs.lookup m = none
section
variable {A α β γ : Type} {K : PySem.W.Frag} {ss : SS} {t : Ty α} {u : Ty β} {te ta tb : TE} {x x' : α} {y : β} {C : Addr} {E : XK}
theorem argsR1 {M : List Addr} {H : Hp} {v : V} (r : t.rep M H v x) : ArgsR M H [v] [⟨t, x⟩] := ⟨r, trivial⟩
theorem argsR2 {M : List Addr} {H : Hp} {v w : V} (r : t.rep M H v x) (r' : u.rep M H w y) : ArgsR M H [v, w] [⟨t, x⟩, ⟨u, y⟩] := ⟨r, r', trivial⟩
theorem spF_of {sl : A → List Slot} {pre : A → Prop} {f : A → α} {M : List Addr} {H : Hp} {vs : List V} {Q : VK} (a : A) (wf : Wf M H) (r : ArgsR M H vs (sl a)) (hp : pre a) (q : ∀ v H', Ke [] H H' → t.rep M H' v (f a) → Q v H') : SpF sl pre t f vs H Q E :=
  ⟨M, a, List.nodup_nil, (fun _ h => by cases h), wf, r, trivial, hp, fun v y _ H' k _ r' e => q v H' k (by rw [← e]; exact r')⟩
theorem ve_inO {m : Str} {sl : A → List Slot} {pre : A → Prop} {f : A → Bool} (I : InsY C u m) (a : A) (ea : sl a = [⟨u, y⟩, ⟨t, x⟩]) (hp : pre a) (ha : Ve ta ss t x) (hb : Ve tb ss u y) : Ve (tOp (rInO C (SpF sl pre yBool f) E) ta tb) ss yBool (f a) :=
  ve_op ha hb fun M v1 v2 H1 wf r1 r2 Q q => by
    obtain ⟨b, dx, fs, rfl, hi, _⟩ := I.i r2
    exact ⟨b, dx, fs, rfl, hi, spF_of a wf (by rw [ea]; exact argsR2 r2 r1) hp fun v H' k r => ⟨f a, r, q _ H' k rfl⟩⟩
theorem ve_cmpO {w : Ty γ} {m : Str} {sl : A → List Slot} {pre : A → Prop} {f : A → γ} (I : InsY C t m) (a : A) (ea : sl a = [⟨t, x⟩, ⟨t, x'⟩]) (hp : pre a) (ha : Ve ta ss t x) (hb : Ve tb ss t x') : Ve (tOp (rCmpO C (SpF sl pre w f) E) ta tb) ss w (f a) :=
  ve_op ha hb fun M v1 v2 H1 wf r1 r2 Q q => by
    obtain ⟨b, dx, fs, rfl, hi, _⟩ := I.i r1
    obtain ⟨b', dx', fs', rfl, hi', _⟩ := I.i r2
    exact ⟨b, b', dx, dx', fs, fs', rfl, rfl, hi, hi', spF_of a wf (by rw [ea]; exact argsR2 r1 r2) hp q⟩
/-- o.m(..) -/
theorem ve_meth {w : Ty γ} {m : Str} {sl : A → List Slot} {pre : A → Prop} {f : A → γ} {ts : TA} {s1 : List Slot} (I : InsY C t m) (a : A) (ea : sl a = ⟨t, x⟩ :: s1) (hp : pre a) (ha : Ve ta ss t x) (hs : Vs ts ss s1) : Ve (tMeth C m (SpF sl pre w f) [] E ta ts) ss w (f a) := fun M σ H En wf H1 k Q q =>
  ha M σ H En wf H1 k _ fun v H2 k2 r => by
    obtain ⟨b, dx, fs, rfl, hi, hl⟩ := I.i r
    refine ⟨b, dx, fs, rfl, hi, hl, hs M σ H En wf H2 (k.trans k2.all) _ fun vs H3 k3 r3 => ?_⟩
    rw [List.append_nil]
    exact spF_of a (wf.keep ((k.trans k2.all).trans k3.all)) (by rw [ea]; exact ⟨t.keep k3.all r, r3⟩) hp fun v H' k' r' => q v H' ((k2.trans k3).trans k') r'
theorem ve_meth0 {w : Ty γ} {m : Str} {sl : A → List Slot} {pre : A → Prop} {f : A → γ} (I : InsY C t m) (a : A) (ea : sl a = [⟨t, x⟩]) (hp : pre a) (ha : Ve ta ss t x) : Ve (tMeth C m (SpF sl pre w f) [] E ta tNil) ss w (f a) := ve_meth I a ea hp ha vs_nil
theorem ve_prop {w : Ty γ} {m : Str} {sl : A → List Slot} {pre : A → Prop} {f : A → γ} (I : InsY C t m) (a : A) (ea : sl a = [⟨t, x⟩]) (hp : pre a) (ha : Ve ta ss t x) : Ve (tProp C (SpF sl pre w f) [] E ta) ss w (f a) := fun M σ H En wf H1 k Q q =>
  ha M σ H En wf H1 k _ fun v H2 k2 r => by
    obtain ⟨b, dx, fs, rfl, hi, hl⟩ := I.i r
    exact ⟨b, dx, fs, rfl, hi, spF_of a (wf.keep (k.trans k2.all)) (by rw [ea]; exact argsR1 r) hp fun v H' k' r' => q v H' (k2.trans k') r'⟩
/-- o.f -/
structure FldY {α β : Type} (C : Addr) (t : Ty α) (n : Str) (u : Ty β) (g : α → β) : Prop where
  f : ∀ {M : List Addr} {H : Hp} {v : V} {x : α}, t.rep M H v x → ∃ a dx fs w, v = .ref a ∧ H a = some (.ins C dx fs) ∧ fs.lookup n = some w ∧ u.rep M H w (g x)
theorem ve_fld {n : Str} {g : α → β} (F : FldY C t n u g) (hc : Cls K C) (hn : NoAttr K C n) (ha : Ve ta ss t x) : Ve (tFld K ta n) ss u (g x) := fun M σ H En wf H1 k Q q =>
  ha M σ H En wf H1 k _ fun v H2 k2 r => by
    obtain ⟨b, dx, fs, w, rfl, hi, hl, rw'⟩ := F.f r
    exact ⟨b, C, dx, fs, w, rfl, hi, hc, hn, hl, q w H2 k2 rw'⟩
end
end Fp

/-! ## != by an own __eq__ -/
namespace Fp
open PySem L2 PySem.Spec PyProof.Rows PySem.SeqAt
structure OwnNe (K : PySem.W.Frag) (C : Addr) : Prop where
  ne : PySem.W.findIn K (.ref C) "__ne__" = some (some (.builtin "object.__ne__"))
  ob : PySem.W.mroIn K C (.type "object") = some true
def rNeO (C : Addr) (sp : Sp) (E : XK) : R2 := fun x y H Q => ∃ a b dx dy fs gs, x = .ref a ∧ y = .ref b ∧ H a = some (.ins C dx fs) ∧ H b = some (.ins C dy gs) ∧ sp [.ref a, .ref b] H (fun v H' => ∃ r, v = .bl r ∧ Q (.bl (!r)) H') E
section
variable {prog : Program} {w : World} {A : Around} {Er : Value → Shared → Prop} {s : Shared} {K : PySem.W.Frag} {x y C f : Addr} {ox : Obj} {od : Option Obj}
theorem objNe_own (hu : A.units < cLine) (X : K.In s.heap) (I : PySem.W.InstAt s.heap x ox C od) (m : OwnM K C "__eq__" f) {Q : Fin → Shared → Prop}
    (h : wpAny (model prog w) A (call (.ref f) [.ref x, .ref y]) (fun v s' => ∃ r, v = .bool r ∧ Q (.done (.ret (.bool (!r)))) s') Er s) : wpAny (model prog w) A (Builtin.«object.__ne__» ⟨[.ref x, .ref y], []⟩) Q Er s := by
  unfold Builtin.«object.__ne__»
  repeat (first
    | with_reducible refine wpAny_cRoomFor hu ?_
    | (refine wpAny_bind (m := callSpecialIfBound? (.ref x) (Str.ofString "__eq__") [.ref y]) (PySem.W.ifBound_K X I m.fi m.fn (wpAny_mono h (fun r s' hr => by
          obtain ⟨b, rfl, hq⟩ := hr
          repeat (first | exact hq | exact wpAny_pure hq | exact wpAny_truthy_bool hq | (refine wpAny_bind (m := truthy (.bool _)) (wpAny_truthy_bool ?_)) | wp_step)) fun _ _ e => e)))
    | wp_step)
theorem tryNe_own (hu : A.units + 1 < cLine) (X : K.In s.heap) (I : PySem.W.InstAt s.heap x ox C od) (m : OwnM K C "__eq__" f) (n : OwnNe K C) {Q : Option Value → Shared → Prop}
    (h : wpAny (model prog w) A.in1 (call (.ref f) [.ref x, .ref y]) (fun v s' => ∃ r, v = .bool r ∧ Q (some (.bool (!r))) s') Er s) : wpAny (model prog w) A (tryCompare (.ref x) "__ne__" (.ref y)) Q Er s := by
  have go : wpAny (model prog w) A (call (.builtin "object.__ne__") [.ref x, .ref y]) (fun v s' => ∃ r, v = .bool r ∧ Q (some (.bool r)) s') Er s :=
    wpAny_call (codeAny_call_builtin F.cmp_object.ne.plain F.cmpEntry_ne (PySem.W.check_slot F.cmpKind_ne F.cmpSplit_ne (I.type.andThen (PySem.W.looks_mroIn X n.ob)) (F.cmpArgs_ne _ _) (objNe_own (A := A.in1) hu X I m (wpAny_mono h (fun v s' hv => by
      obtain ⟨r, rfl, q⟩ := hv
      exact ⟨r, rfl, ⟨!r, rfl, q⟩⟩) fun _ _ e => e))))
  have one : wpAny (model prog w) A (callSpecialIfBound? (.ref x) "__ne__" [.ref y]) (fun v s' => ∃ r, v = some (.bool r) ∧ Q (some (.bool r)) s') Er s := by
    simp only [callSpecialIfBound?, bindSpecialIfBound?]
    refine wpAny_holding (wpAny_bind (wpAny_bind (wpAny_bind (I.type.here ((PySem.W.looks_findIn X n.ne).here ?_)))))
    refine wpAny_bind (wpAny_askSetting (wpAny_ite ?_))
    have fin : wpAny (model prog w) A (call (.builtin "object.__ne__") ([.ref x] ++ [.ref y]) >>= fun v => pure (some v)) (fun v s' => ∃ r, v = some (.bool r) ∧ Q (some (.bool r)) s') Er s := wpAny_bind (wpAny_mono go (fun v s' h' => wpAny_pure (by
      obtain ⟨r, rfl, q⟩ := h'
      exact ⟨r, rfl, q⟩)) fun _ _ h' => h')
    split
    · exact wpAny_bind (wpAny_of_eq (F.cmp_object.ne.bind _) (wpAny_pure (by exact fin)))
    · exact wpAny_tryCatch (wpAny_bind (wpAny_of_eq (F.cmp_object.ne.bind _) (wpAny_pure (by exact fin))))
  unfold tryCompare
  refine wpAny_bind (wpAny_mono one (fun v s' hv => ?_) fun _ _ e => e)
  obtain ⟨r, rfl, q⟩ := hv
  exact wpAny_pure q
theorem richNe_own (hu : A.units + 1 < cLine) (X : K.In s.heap) (I : PySem.W.InstAt s.heap x ox C od) (J : PySem.W.InstAt s.heap y oy C oz) (m : OwnM K C "__eq__" f) (n : OwnNe K C) {Q : Value → Shared → Prop}
    (h : wpAny (model prog w) A.in1 (call (.ref f) [.ref x, .ref y]) (fun v s' => ∃ r, v = .bool r ∧ Q (.bool (!r)) s') Er s) : wpAny (model prog w) A (richCompare .NotEq (.ref x) (.ref y)) Q Er s := by
  unfold richCompare
  simp only [oneThing_ref]
  refine wpAny_holding (wpAny_bind (wpAny_cRoomFor (Nat.lt_of_succ_lt hu) ?_))
  refine wpAny_bind (I.type.here (wpAny_bind (J.type.here ?_)))
  rw [show (Value.ref C != Value.ref C) = false from by simp]
  simp only [Bool.false_eq_true, if_false]
  refine wpAny_bind (wpAny_pure ?_)
  simp only [Bool.false_eq_true, if_false]
  refine wpAny_bind (tryNe_own hu X I m n (wpAny_mono h (fun v s' hv => ?_) fun _ _ e => e))
  obtain ⟨r, rfl, q⟩ := hv
  exact ⟨r, rfl, wpAny_pure q⟩
end
section
variable {X : Cx} {CX : CXT} {k : Nat} {f C : Addr} {fd : FuncData} {ps : List Str} {sp : Sp} {E : XK}
theorem op_ne_own (F : FnOk X.prog X.w X.K X.mg X.base CX k f fd ps sp) (hr : Room (k + 1) X.A) (hb : Binds X.K fd ps []) (hx : Passes CX X E) (m : OwnM X.K C "__eq__" f) (n : OwnNe X.K C) : OpR X (compareOp .NotEq) (rNeO C sp E) := by
  intro pins s σ H x y v u Q I rx ry hq
  obtain ⟨a, b, dx, dy, fs, gs, rfl, rfl, ha, hb', q⟩ := hq
  cases rx
  cases ry
  obtain ⟨mA, J, _⟩ := ins_get I.hok ha
  obtain ⟨mB, J', _⟩ := ins_get I.hok hb'
  obtain ⟨od, J, _⟩ := J.look
  obtain ⟨od', J', _⟩ := J'.look
  obtain ⟨m', hF⟩ := I.fr
  have e0 : Env0 X.prog X.w X.K X.mg X.base X.A.in1 X.stack s H := by
    have e := I.env0
    exact ⟨e.frames, e.mod, e.bs, e.bsz, e.funs, e.frf, e.hok, e.bare⟩
  show wpAny _ _ (richCompare .NotEq (.ref a) (.ref b)) _ _ _
  have hl := F.len _ _ _ _ q
  refine richNe_own (by have := hr.units; omega) I.kIn J J' m n (wpAny_call (codeAny_mono (F.run X.A.in1 X.stack s H ⟨[.ref a, .ref b], []⟩ [.ref a, .ref b] [.ref a, .ref b] _ E hr.in1 e0 (by
    have := hb s [.ref a, .ref b] I.kIn (by simpa using hl)
    simpa using this) (.cons rfl (.cons rfl .nil)) q) fun r s' hq => ?_))
  cases r with
  | error e => exact hx pins σ H s e s' I hq
  | ok fl =>
    cases fl with
    | ret w =>
      obtain ⟨z, H', I', rz, r, ez, q'⟩ := I.after hq
      subst ez
      cases rz
      exact ⟨r, rfl, .bl (!r), H', I', rfl, q'⟩
    | next => exact False.elim hq
    | brk => exact False.elim hq
    | cont => exact False.elim hq
end
section
variable {A α β γ : Type} {K : PySem.W.Frag} {ss : SS} {t : Ty α} {u : Ty β} {te ta tb : TE} {x x' : α} {y : β} {C : Addr} {E : XK}
theorem ve_neO {m : Str} {sl : A → List Slot} {pre : A → Prop} {f : A → Bool} (I : InsY C t m) (a : A) (ea : sl a = [⟨t, x⟩, ⟨t, x'⟩]) (hp : pre a) (ha : Ve ta ss t x) (hb : Ve tb ss t x') : Ve (tOp (rNeO C (SpF sl pre yBool f) E) ta tb) ss yBool (!f a) :=
  ve_op ha hb fun M v1 v2 H1 wf r1 r2 Q q => by
    obtain ⟨b, dx, fs, rfl, hi, _⟩ := I.i r1
    obtain ⟨b', dx', fs', rfl, hi', _⟩ := I.i r2
    exact ⟨b, b', dx, dx', fs, fs', rfl, rfl, hi, hi', spF_of a wf (by rw [ea]; exact argsR2 r1 r2) hp fun v H' k r => ⟨f a, r, q _ H' k rfl⟩⟩
end
end Fp

/-! ## more of the layer: all, min, t + u, conditional expressions, pairs -/
namespace Fp
open PySem L2
section
variable {X : Cx} {K : PySem.W.Frag} {w : World}
theorem call_allK (hc : X.calm = true) (hK : X.K = K := by rfl) : CallR X (.builtin "all") (rAll K) := by subst hK; exact cr_all hc
theorem op_catTK (hK : X.K = K := by rfl) : OpR X (binaryOp .Add) (rCatA K) := by subst hK; exact op_catA
end
section
variable {α β γ : Type} {K : PySem.W.Frag} {L : List Addr} {ss : SS} {ms : List MSlot} {t : Ty α} {u : Ty β} {te ta tb : TE} {tt : TT} {x : α} {y : β} {xs ys : List α}
theorem p2_bl {M : List Addr} {H : Hp} : ∀ {vs : List V} {bs : List Bool}, P2 (yBool.rep M H) vs bs → vs = bs.map V.bl
  | [], [], _ => rfl
  | [], _ :: _, h => h.elim
  | _ :: _, [], h => h.elim
  | v :: vs, b :: bs, h => by rw [show v = V.bl b from h.1, p2_bl h.2]; rfl
theorem ve_all {bs : List Bool} (h : Ve te ss (yList yBool) bs) : Ve (tCB (rAll K) (tCons te tNil)) ss yBool (bs.all id) := fun M σ H E wf H1 k Q q =>
  h M σ H E wf H1 k _ fun v H2 k2 r => by
    obtain ⟨a, vs, e, n, ha, p⟩ := r
    subst e
    rw [p2_bl p] at ha
    exact ⟨a, bs, rfl, SqL.of ha, q _ H2 k2 rfl⟩
theorem ve_min2 {i j : Int} (ha : Ve ta ss yInt i) (hb : Ve tb ss yInt j) : Ve (tCB (fun xs H Q => ∃ i j, xs = [.int i, .int j] ∧ Q (.int (if j < i then j else i)) H) (tCons ta (tCons tb tNil))) ss yInt (if j < i then j else i) := fun M σ H E wf H1 k Q q =>
  ha M σ H E wf H1 k _ fun v H2 k2 r => hb M σ H E wf H2 (k.trans k2.all) _ fun v2 H3 k3 r3 => by
    have e : v = .int i := r
    have e3 : v2 = .int j := r3
    subst e e3
    exact ⟨i, j, rfl, q _ H3 (k2.trans k3) rfl⟩
theorem ve_catT (ha : Ve ta ss (yTup K t) xs) (hb : Ve tb ss (yTup K t) ys) (hz : xs.length + ys.length ≤ 1000000) : Ve (tOp (rCatA K) ta tb) ss (yTup K t) (xs ++ ys) :=
  ve_op ha hb fun M v1 v2 H1 wf r1 r2 Q q => by
    obtain ⟨a, vs, rfl, ha, pa⟩ := r1
    obtain ⟨b, ws, rfl, hb, pb⟩ := r2
    have sa : SqT K H1 a vs := ha.sq
    have sb : SqT K H1 b ws := hb.sq
    refine ⟨a, b, vs, ws, rfl, rfl, sa, sb, szle (by rw [pa.len, pb.len]; exact hz), fun e => ?_, fun _ e => ?_, fun _ _ p hp => ?_⟩
    · subst e
      cases xs with
      | cons _ _ => exact pa.elim
      | nil => exact q _ H1 Ke.refl ⟨b, ws, rfl, hb, pb⟩
    · subst e
      cases ys with
      | cons _ _ => exact pb.elim
      | nil =>
        exact q _ H1 Ke.refl ⟨a, vs, rfl, ha, by rw [List.append_nil]; exact pa⟩
    · exact q _ _ (Ke.new hp) ⟨p, vs ++ ws, rfl, .inl ⟨wf.not hp, upd_same⟩, (pa.imp fun _ _ => t.keep (Ke.new hp)).app (pb.imp fun _ _ => t.keep (Ke.new hp))⟩
/-- the second of a pair -/
theorem ve_ixP1 {p : α × β} (ha : Ve ta ss (yPair K t u) p) (hb : Ve tb ss yInt 1) : Ve (tOp (rIxT K) ta tb) ss u p.2 :=
  ve_op ha hb fun M v1 v2 H1 wf r1 r2 Q q => by
    obtain ⟨a, v, w, rfl, ha, pa, pb⟩ := r1
    exact ⟨a, [v, w], 1, w, rfl, r2, ha.sq, rfl, q _ H1 Ke.refl pb⟩
theorem xe_ixP1 {P : β → List MSlot → Prop} (h : Xe L ta ss ms (yPair K t u) fun p ms1 => Xe L tb ss ms1 yInt fun j ms2 => j = 1 ∧ P p.2 ms2) : Xe L (tOp (rIxT K) ta tb) ss ms u P :=
  xe_opP (t := yPair K t u) (u := yInt) (w := u) (f := fun p _ => p.2) (C := fun _ j => j = 1) (fun M v1 v2 H1 p j hj wf r1 r2 Q q => by
    obtain ⟨a, v, w, rfl, ha, pa, pb⟩ := r1
    subst hj
    exact ⟨a, [v, w], 1, w, rfl, r2, ha.sq, rfl, q _ H1 Ke.refl pb⟩) h
/-- xs[e], an index that changes something -/
theorem xe_ixL {P : α → List MSlot → Prop} (h : Xe L ta ss ms (yList t) fun xs ms1 => Xe L tb ss ms1 yInt fun j ms2 => ∃ (n : Nat) (x : α), j = (n : Int) ∧ xs[n]? = some x ∧ P x ms2) : Xe L (tOp (rIxL K) ta tb) ss ms t P :=
  xe_op (xe_mono h fun xs ms1 hb => xe_mono hb fun j ms2 ⟨n, x, hj, hx, p⟩ M v1 v2 H1 _ _ wf r1 r2 O Q q => by
    obtain ⟨a, vs, rfl, na, ha, pa⟩ := r1
    obtain ⟨v, hv, rv⟩ := pa.tog hx
    have e2 : v2 = .int j := r2
    subst e2
    exact ⟨a, vs, j, v, rfl, rfl, SqL.of ha, by rw [hj]; exact atI_nat hv, q v H1 x ms2 Ke.refl O rv p⟩)
theorem xe_if {P : α → List MSlot → Prop} (h : Xt L tt ss ms fun b ms1 => (b = true → Xe L ta ss ms1 t P) ∧ (b = false → Xe L tb ss ms1 t P)) : Xe L (tIf tt ta tb) ss ms t P := fun M σ H nd s wf E O Q q =>
  h M σ H nd s wf E O _ fun H' b ms' k O' p => by
    cases b with
    | true =>
      show ta σ H' Q
      exact p.1 rfl M σ H' nd s (wf.keep k) (E.keep (k.sub s)) O' Q fun v H2 x ms2 k2 => q v H2 x ms2 (k.trans k2)
    | false =>
      show tb σ H' Q
      exact p.2 rfl M σ H' nd s (wf.keep k) (E.keep (k.sub s)) O' Q fun v H2 x ms2 k2 => q v H2 x ms2 (k.trans k2)
theorem xs_parX {δ : Type} {loc ext : List Addr} {rt : Ty δ} {N : SS → List MSlot → Prop} {R : δ → List MSlot → Prop} {B C : SS → List MSlot → Prop} {i j : Nat} (h : Xe (loc ++ ext) ta ss ms t fun x ms1 => Xe (loc ++ ext) tb ss ms1 u fun y ms2 => N ((ss.set i (some ⟨t, x⟩)).set j (some ⟨u, y⟩)) ms2) :
    Xs loc ext rt (tPar i j (tCons ta (tCons tb tNil))) ss ms N R B C := fun M0 σ H D w k =>
  h _ σ H w.nd w.sub w.wf w.env w.own _ fun v H1 x ms1 e1 O1 r1 h2 => h2 _ σ H1 w.nd w.sub (w.wf.keep e1) (w.env.keep (e1.sub w.sub)) O1 _ fun v2 H2 y ms2 e2 O2 r2 p =>
    ⟨v, v2, rfl, k.nx _ H2 _ ms2 (e1.trans e2) ((((w.env.keep (e1.sub w.sub)).keep (e2.sub w.sub)).set (t.keep (e2.sub w.sub) r1) i).set r2 j) O2 p⟩
theorem isD_bl : IsD K yBool PyData.bool := ⟨fun {M H v x} h => by have e : v = .bl x := h; subst e; exact .bl x⟩
end
end Fp

/-! ## more of the layer: texts, slices, pop, extend, sums, comprehensions over a range that change something -/
namespace Fp
open PySem L2
theorem P2.drop {α : Type} {R : V → α → Prop} : ∀ {vs : List V} {xs : List α} (n : Nat), P2 R vs xs → P2 R (vs.drop n) (xs.drop n)
  | _, _, 0, h => h
  | [], [], _ + 1, _ => trivial
  | [], _ :: _, _ + 1, h => h.elim
  | _ :: _, [], _ + 1, h => h.elim
  | _ :: vs, _ :: xs, n + 1, h => P2.drop (vs := vs) (xs := xs) n h.2
theorem P2.take {α : Type} {R : V → α → Prop} : ∀ {vs : List V} {xs : List α} (n : Nat), P2 R vs xs → P2 R (vs.take n) (xs.take n)
  | _, _, 0, _ => by simp [P2]
  | [], [], _ + 1, _ => trivial
  | [], _ :: _, _ + 1, h => h.elim
  | _ :: _, [], _ + 1, h => h.elim
  | _ :: vs, _ :: xs, n + 1, h => ⟨h.1, P2.take (vs := vs) (xs := xs) n h.2⟩
theorem P2.rev {α : Type} {R : V → α → Prop} : ∀ {vs : List V} {xs : List α}, P2 R vs xs → P2 R vs.reverse xs.reverse
  | [], [], _ => trivial
  | [], _ :: _, h => h.elim
  | _ :: _, [], h => h.elim
  | _ :: vs, _ :: xs, h => by
    rw [List.reverse_cons, List.reverse_cons]
    exact (P2.rev (vs := vs) (xs := xs) h.2).app ⟨h.1, trivial⟩
/-- xs[lo:hi] -/
def cutL {α : Type} (xs : List α) (lo hi : Option Int) : List α := (xs.drop (HT.sIx xs.length 0 lo)).take (HT.sIx xs.length xs.length hi - HT.sIx xs.length 0 lo)
theorem P2.cut {α : Type} {R : V → α → Prop} {vs : List V} {xs : List α} {lo hi : Option Int} (h : P2 R vs xs) : P2 R (cutV vs lo hi) (cutL xs lo hi) := by
  unfold cutV cutL
  rw [h.len]
  exact (h.drop _).take _
theorem sIx_nat (n d k : Nat) : HT.sIx n d (some (k : Int)) = min k n := HT.sIx_nat n d k
theorem cut_to {α : Type} (xs : List α) (k : Nat) : cutL xs none (some (k : Int)) = xs.take k := by
  unfold cutL
  rw [HT.sIx_none, sIx_nat, List.drop_zero, Nat.sub_zero]
  rcases Nat.le_total k xs.length with h | h
  · rw [Nat.min_eq_left h]
  · rw [Nat.min_eq_right h, List.take_of_length_le (Nat.le_refl _), List.take_of_length_le h]
theorem cut_from {α : Type} (xs : List α) (k : Nat) : cutL xs (some (k : Int)) none = xs.drop k := by
  unfold cutL
  rw [HT.sIx_none, sIx_nat]
  rcases Nat.le_total k xs.length with h | h
  · rw [Nat.min_eq_left h, List.take_of_length_le (by rw [List.length_drop]; exact Nat.le_refl _)]
  · rw [Nat.min_eq_right h, List.drop_of_length_le (Nat.le_refl _), List.drop_of_length_le h, List.take_nil]
theorem cut_last {α : Type} (xs : List α) : cutL xs none (some (-1)) = xs.dropLast := by
  unfold cutL
  have e : HT.sIx xs.length xs.length (some (-1)) = xs.length - 1 := by
    show (if (-1 : Int) < 0 then ((-1 : Int) + (xs.length : Int)).toNat else min (-1 : Int).toNat xs.length) = xs.length - 1
    rw [if_pos (by decide)]
    omega
  rw [HT.sIx_none, e, List.drop_zero, Nat.sub_zero, List.dropLast_eq_take]
/-- a part of a slice -/
def Vo (to : TO) (ss : SS) (o : Option Int) : Prop := ∀ M σ H, Env M H σ ss → Wf M H → ∀ H1, Ke M H H1 → ∀ Q : Option Int → Hp → Prop, (∀ H2, Ke [] H1 H2 → Q o H2) → to σ H1 Q
section
variable {α β γ δ : Type} {K : PySem.W.Frag} {L loc ext : List Addr} {ss ss' : SS} {ms : List MSlot} {t : Ty α} {u : Ty β} {te ta tb tl : TE} {tt : TT} {x : α} {y : β} {xs ys : List α}
theorem vo_no : Vo tNoPart ss none := fun _ _ _ _ _ H1 _ _ q => q H1 Ke.refl
theorem vo_int {i : Int} (h : Ve te ss yInt i) : Vo (tPart te) ss (some i) := fun M σ H E wf H1 k Q q => h M σ H E wf H1 k _ fun v H2 k2 r => ⟨i, r, q H2 k2⟩
theorem ve_cut {tlo thi : TO} {lo hi : Option Int} (h : Ve te ss (yList t) xs) (hl : Vo tlo ss lo) (hh : Vo thi ss hi) : Ve (tSl (rSlL K) te tlo thi) ss (yList t) (cutL xs lo hi) := fun M σ H E wf H1 k Q q =>
  h M σ H E wf H1 k _ fun v H2 k2 r => hl M σ H E wf H2 (k.trans k2.all) _ fun H3 k3 => hh M σ H E wf H3 ((k.trans k2.all).trans k3.all) _ fun H4 k4 => by
    obtain ⟨a, vs, rfl, n, ha, pr⟩ := (yList t).keep (M := M) (k3.trans k4).all r
    have wf4 : Wf M H4 := wf.keep (((k.trans k2.all).trans k3.all).trans k4.all)
    exact ⟨a, vs, rfl, SqL.of ha, fun p hp => q _ _ ((k2.trans (k3.trans k4)).trans (Ke.new hp)) ⟨p, _, rfl, wf4.not hp, upd_same, pr.cut.imp fun _ _ => t.keep (Ke.new hp)⟩⟩
theorem ve_rev (h : Ve te ss (yList t) xs) : Ve (tRevL K te) ss (yList t) xs.reverse := fun M σ H E wf H1 k Q q =>
  h M σ H E wf H1 k _ fun v H2 k2 r => by
    obtain ⟨a, vs, rfl, n, ha, pr⟩ := r
    exact ⟨a, vs, rfl, SqL.of ha, fun p hp => q _ _ (k2.trans (Ke.new hp)) ⟨p, _, rfl, (wf.keep (k.trans k2.all)).not hp, upd_same, pr.rev.imp fun _ _ => t.keep (Ke.new hp)⟩⟩
/-- texts -/
theorem ve_addS {a b : Str} (ha : Ve ta ss yStr a) (hb : Ve tb ss yStr b) (hz : a.length + b.length ≤ 1000000) : Ve (tOp (fun x y H Q => ∃ i j, x = .str i ∧ y = .str j ∧ i.length + j.length ≤ sizeLine ∧ Q (.str (i ++ j)) H) ta tb) ss yStr (a ++ b) :=
  ve_op ha hb fun M v1 v2 H1 wf r1 r2 Q q => ⟨a, b, r1, r2, szle hz, q _ H1 Ke.refl rfl⟩
theorem ve_strI {i : Int} (h : Ve te ss yInt i) (hz : i.natAbs.log2 < 1920) : Ve (tCB (fun xs H Q => ∃ i, xs = [.int i] ∧ i.natAbs.log2 < 1920 ∧ Q (.str (toString i)) H) (tCons te tNil)) ss yStr (toString i) := fun M σ H E =>
  vl_cb (va_one (h M σ H E)) fun vs H1 _ _ ⟨v, e, r⟩ Q q => ⟨i, by rw [e]; exact congrArg (fun z => [z]) r, hz, q _ H1 Ke.refl rfl⟩
theorem p2_int {M : List Addr} {H : Hp} : ∀ {vs : List V} {ns : List Int}, P2 (yInt.rep M H) vs ns → vs = ns.map V.int
  | [], [], _ => rfl
  | [], _ :: _, h => h.elim
  | _ :: _, [], h => h.elim
  | v :: vs, n :: ns, h => by rw [show v = V.int n from h.1, p2_int h.2]; rfl
theorem ve_sum {ns : List Int} (h : Ve te ss (yList yInt) ns) : Ve (tCB (rSum K) (tCons te tNil)) ss yInt ns.sum := fun M σ H E =>
  vl_cb (va_one (h M σ H E)) fun vs H1 _ _ ⟨v, e, r⟩ Q q => by
    obtain ⟨a, ws, rfl, n, ha, pr⟩ := r
    exact ⟨a, ns, e, by rw [← p2_int pr]; exact SqL.of ha, q _ H1 Ke.refl rfl⟩
/-- isinstance(x, T) -/
structure TyY {α : Type} (K : PySem.W.Frag) (t : Ty α) (T : α → String) : Prop where
  ty : ∀ {M : List Addr} {H : Hp} {v : V} {x : α}, t.rep M H v x → TyX K H v (.type (T x))
theorem tyList : TyY K (yList t) (fun _ => "list") := ⟨fun ⟨a, vs, e, n, h, p⟩ => by subst e; exact .base (.lst h)⟩
theorem tyInt : TyY K yInt (fun _ => "int") := ⟨fun {M H v x} h => by have e : v = .int x := h; subst e; exact .base (.int x)⟩
theorem tyStr : TyY K yStr (fun _ => "str") := ⟨fun {M H v x} h => by have e : v = .str x := h; subst e; exact .base (.str x)⟩
theorem ve_isi {T : α → String} {C : String} {b : Bool} (I : TyY K t T) (h : Ve te ss t x) (hb : kitB (T x) C = some b) : Ve (tCB (rIsi K) (tCons te (tCons (tC (.ty C)) tNil))) ss yBool b := fun M σ H En wf H1 k Q q =>
  h M σ H En wf H1 k _ fun v H2 k2 r => ⟨v, .ty C, .type (T x), .type C, b, rfl, .ty C, I.ty r, kit_ty hb, q _ H2 k2 rfl⟩
/-- xs.pop(), xs owned -/
theorem P2.last {R : V → α → Prop} : ∀ {vs : List V} {xs : List α}, P2 R vs xs → P2 R vs.dropLast xs.dropLast := fun {vs xs} h => by
  rw [List.dropLast_eq_take, List.dropLast_eq_take, h.len]
  exact h.take _
theorem xe_pop {i : Nat} {a : Addr} {P : α → List MSlot → Prop} {ys : List α} {y : α} (ha : Ve ta ss yRef a) (hL : L[i]? = some a) (hm : ms[i]? = some (mL t (ys ++ [y]))) (p : P y (ms.set i (mL t ys))) :
    Xe L (tBM0 K "list" rPop ta) ss ms t P := fun M σ H nd s wf E O Q q => ha M σ H E wf H Ke.refl _ fun v H1 k1 r => by
  have rv : v = .ref a := r
  subst rv
  have haM : a ∈ M := s a (List.mem_of_getElem? hL)
  have O1 := O.grow k1
  obtain ⟨vs, h1, pr⟩ := own_L O1 hL hm
  obtain ⟨z, hz, rz⟩ := pr.tog (i := ys.length) (x := y) (by rw [List.getElem?_append_right (Nat.le_refl _), Nat.sub_self]; rfl)
  have k3 : Ke [a] H1 (upd H1 a (.lst vs.dropLast)) := Ke.mut (List.mem_singleton.mpr rfl)
  have k4 : Ke M H1 (upd H1 a (.lst vs.dropLast)) := Ke.mut haM
  have el : vs.length - 1 = ys.length := by rw [pr.len, List.length_append]; rfl
  refine ⟨Or.inl ⟨rfl, vs, SqL.of h1⟩, a, vs, z, rfl, rfl, h1, by rw [el]; exact hz, q z _ y _ (k1.all.trans (Ke.mut (List.mem_of_getElem? hL))) (Own.put (m' := mL t ys) k3 haM ⟨_, upd_same, ?_⟩ nd hL O1) (t.keep k4 rz) p⟩
  have pl := pr.last
  rw [List.dropLast_concat] at pl
  exact pl.imp fun _ _ => t.keep k4
/-- xs.extend(zs), xs owned -/
theorem xe_ext {i : Nat} {a : Addr} {P : Unit → List MSlot → Prop} {xs zs : List α} (ha : Ve ta ss yRef a) (hL : L[i]? = some a) (hm : ms[i]? = some (mL t xs)) (hz : Ve te ss (yList t) zs) (hl : xs.length + zs.length ≤ 1000000) (p : P () (ms.set i (mL t (xs ++ zs)))) :
    Xe L (tBM K "list" rExtend ta (tCons te tNil)) ss ms yNon P := fun M σ H nd s wf E O Q q => ha M σ H E wf H Ke.refl _ fun v H1 k1 r => by
  have rv : v = .ref a := r
  subst rv
  have haM : a ∈ M := s a (List.mem_of_getElem? hL)
  obtain ⟨vs0, h0, _⟩ := own_L (O.grow k1) hL hm
  refine ⟨Or.inl ⟨rfl, vs0, SqL.of h0⟩, hz M σ H E wf H1 k1.all _ fun v2 H2 k2 r2 => ?_⟩
  have O2 := (O.grow k1).grow k2
  obtain ⟨vs, h2, pr⟩ := own_L O2 hL hm
  obtain ⟨b, ws, rfl, nb, hb, pb⟩ := r2
  have k3 : Ke [a] H2 (upd H2 a (.lst (vs ++ ws))) := Ke.mut (List.mem_singleton.mpr rfl)
  have k4 : Ke M H2 (upd H2 a (.lst (vs ++ ws))) := Ke.mut haM
  refine ⟨a, b, vs, ws, rfl, rfl, h2, hb, szle (by rw [pr.len, pb.len]; exact hl), q _ _ () _ ((k1.trans k2).all.trans (Ke.mut (List.mem_of_getElem? hL))) (Own.put (m' := mL t (xs ++ zs)) k3 haM ⟨_, upd_same, ?_⟩ nd hL O2) rfl p⟩
  exact (pr.imp fun _ _ => t.keep k4).app (pb.imp fun _ _ => t.keep k4)
/-- xs[-1] -/
theorem ve_ixLast (ha : Ve ta ss (yList t) xs) (hb : Ve tb ss yInt (-1)) (hx : xs.getLast? = some x) : Ve (tOp (rIxL K) ta tb) ss t x :=
  ve_op ha hb fun M v1 v2 H1 _ r1 r2 Q q => by
    obtain ⟨a, ws, rfl, n, h, p⟩ := r1
    have hx' : xs[xs.length - 1]? = some x := by rw [← List.getLast?_eq_getElem?]; exact hx
    obtain ⟨v, e, r⟩ := p.tog hx'
    have ne : ws ≠ [] := by
      intro z
      subst z
      cases xs with
      | nil => cases hx
      | cons _ _ => exact p.elim
    refine ⟨a, ws, -1, v, rfl, r2, SqL.of h, ?_, q _ H1 Ke.refl r⟩
    rw [← p.len, ← List.getLast?_eq_getElem?] at e
    obtain ⟨ys, z⟩ := List.getLast?_eq_some_iff.mp e
    rw [z]
    exact atI_last ys v
/-- a comprehension over range(n) whose bound and items may change owned objects -/
theorem xn_lcRX {j : Nat} {ws : List Nat} {P : List β → List MSlot → Prop} (hj : j ∈ ws) (hl : Xe L tl ss ms yInt fun n ms0 => -1000000 ≤ n ∧ n ≤ 1000000 ∧ ∃ I : Nat → List β → List MSlot → Prop, I 0 [] ms0 ∧
      (∀ (i : Nat) ys ms', (i : Int) < n → I i ys ms' → Xt L tt ((wipeS ss ws).set j (some ⟨yInt, (i : Int)⟩)) ms' fun b ms1 => if b = true then Xe L te ((wipeS ss ws).set j (some ⟨yInt, (i : Int)⟩)) ms1 u fun y ms2 => ys.length ≤ 1000000 ∧ I (i + 1) (ys ++ [y]) ms2 else I (i + 1) ys ms1) ∧
      ∀ ys ms', I n.toNat ys ms' → P ys ms') : Xn L (tLc (iRng1 (tCons tl tNil)) (gName j) tt te ws) ss ms u P := fun M σ H nd s wf E O Q q => hl M σ H nd s wf E O _ fun v H2 m ms2 k2 O2 r ⟨hn, hz, I, h0, hs, hd⟩ => by
  have rv : v = .int m := r
  subst rv
  have E2 : Env M H2 σ ss := E.keep (k2.sub s)
  have wf2 : Wf M H2 := wf.keep k2
  refine ⟨m, rfl, by omega, by omega, fun Dl hD => lc_range (lo := 0) (n := m.toNat) (fun i H' => ∃ ys ms' ws', Ke (Dl :: L) H2 H' ∧ H' Dl = some (.lst ws') ∧ P2 (u.rep (Dl :: M) H') ws' ys ∧ Own (Dl :: M) H' L ms' ∧ I i ys ms') ⟨[], ms2, [], Ke.new hD, upd_same, trivial, (O2.more hD).grow (Ke.new hD), h0⟩ (fun i H' hi ⟨ys, ms', ws', c, cD, cp, cO, cI⟩ => ?_) (fun H' ⟨ys, ms', ws', c, cD, cp, cO, cI⟩ => ?_)⟩
  · have sM : ∀ b ∈ Dl :: L, b ∈ Dl :: M := fun b hb => by
      rcases List.mem_cons.mp hb with z | z
      · rw [z]; exact List.mem_cons_self
      · exact List.mem_cons_of_mem _ (s b z)
    have sL : ∀ b ∈ L, b ∈ Dl :: M := fun b hb => List.mem_cons_of_mem _ (s b hb)
    have nD : Dl ∉ L := fun z => wf2.not hD (s Dl z)
    have E3 : Env (Dl :: M) H' (wipe σ ws) (wipeS ss ws) := ((E2.more hD).keep (c.sub sM)).wipe ws
    have wf3 : Wf (Dl :: M) H' := (wf2.keep c).cons cD
    have e0 : (0 : Int) + (i : Int) = (i : Int) := Int.zero_add _
    rw [e0]
    have E4 : Env (Dl :: M) H' ((wipe σ ws).set j (some (.int (i : Int)))) ((wipeS ss ws).set j (some ⟨yInt, (i : Int)⟩)) := E3.set (t := yInt) (x := (i : Int)) rfl j
    refine ⟨(wipe_set hj).trans (wipe_wipe fun _ h => h), ?_⟩
    refine hs i ys ms' (by omega) cI (Dl :: M) _ H' nd sL wf3 E4 cO _ fun H3 b ms1 k3 O3 p3 => ?_
    cases b with
    | true =>
      show te _ H3 _
      refine p3 (Dl :: M) _ H3 nd sL (wf3.keep k3) (E4.keep (k3.sub sL)) O3 _ fun z H4 y ms2 k4 O4 r4 ⟨hz, hI⟩ => ?_
      have k34 : Ke L H' H4 := k3.trans k4
      have kD : Ke (Dl :: M) H4 (upd H4 Dl (.lst (ws' ++ [z]))) := Ke.mut List.mem_cons_self
      refine ⟨ws', k34.keep Dl _ nD cD, szlt (by rw [cp.len]; exact hz), ys ++ [y], ms2, ws' ++ [z], (c.trans (k34.sub fun b hb => List.mem_cons_of_mem _ hb)).trans (Ke.mut List.mem_cons_self), upd_same, ?_, ?_, hI⟩
      · exact (cp.imp fun _ _ => u.keep ((k34.sub sL).trans kD)).app ⟨u.keep kD r4, trivial⟩
      · exact O4.stab (M' := [Dl]) (Ke.mut (List.mem_singleton.mpr rfl)) (fun b hb => by rw [List.mem_singleton.mp hb]; exact List.mem_cons_self) fun b hb z => nD (by rw [← List.mem_singleton.mp z]; exact hb)
    | false =>
      exact ⟨ys, ms1, ws', c.trans (k3.sub fun b hb => List.mem_cons_of_mem _ hb), k3.keep Dl _ nD cD, cp.imp fun _ _ => u.keep (k3.sub sL), O3, p3⟩
  · exact q Dl ws' ys ms' H' (k2.there |> fun th => by
      cases e : H Dl with
      | none => rfl
      | some o =>
        obtain ⟨o', e'⟩ := th Dl o e
        rw [hD] at e'; cases e') (k2.trans (c.old hD)) cO cD cp (hd ys ms' cI)
theorem xn_lcR {j : Nat} {ws : List Nat} {n : Int} {P : List β → List MSlot → Prop} (hj : j ∈ ws) (hl : Xe L tl ss ms yInt fun m ms' => m = n ∧ ms' = ms) (hn : -1000000 ≤ n) (hz : n ≤ 1000000) (I : Nat → List β → List MSlot → Prop) (h0 : I 0 [] ms)
    (hs : ∀ (i : Nat) ys ms', (i : Int) < n → I i ys ms' → Xt L tt ((wipeS ss ws).set j (some ⟨yInt, (i : Int)⟩)) ms' fun b ms1 => if b = true then Xe L te ((wipeS ss ws).set j (some ⟨yInt, (i : Int)⟩)) ms1 u fun y ms2 => ys.length ≤ 1000000 ∧ I (i + 1) (ys ++ [y]) ms2 else I (i + 1) ys ms1)
    (hd : ∀ ys ms', I n.toNat ys ms' → P ys ms') : Xn L (tLc (iRng1 (tCons tl tNil)) (gName j) tt te ws) ss ms u P := xn_lcRX hj (xe_mono hl fun m ms' ⟨e1, e2⟩ => by subst e1 e2; exact ⟨hn, hz, I, h0, hs, hd⟩)
end
/-- the name's slot looked at as the datum that it is -/
theorem xn_of {α : Type} {L : List Addr} {te : TE} {ss : SS} {ms : List MSlot} {t : Ty α} {P P' : List α → List MSlot → Prop} (h : Xn L te ss ms t P) (f : ∀ xs ms, P xs ms → P' xs ms) : Xn L te ss ms t P' := fun M σ H nd s wf E O Q q => h M σ H nd s wf E O Q fun a vs xs ms' H' ha k O' h' pr p => q a vs xs ms' H' ha k O' h' pr (f _ _ p)
end Fp
/-! == and != of data of any depth, one of the sides not deeper than n -/
namespace Fp
open PySem PySem.Spec PyProof.Rows L2
def rEqM (n : Nat) (K : PySem.W.Frag) (neg : Bool) : R2 := fun x y H Q => ∃ d e, Dp K H x d ∧ Dp K H y e ∧ d.canLay0 = true ∧ e.canLay0 = true ∧ min d.depth e.depth ≤ n ∧ Q (.bl (PyData.eqv d e != neg)) H
section
variable {X : Cx} {K : PySem.W.Frag} {n : Nat}
theorem op_eqM (hu : X.A.units + n < cLine) (hK : X.K = K := by rfl) : OpR X (compareOp .Eq) (rEqM n K false) := by
  subst hK
  intro pins s σ H x y v u Q I rx ry ⟨d, e, hd, he, c1, c2, hm, q⟩
  obtain ⟨as, r1⟩ := Dp.reads I d x v hd rx
  obtain ⟨bs, r2⟩ := Dp.reads I e y u he ry
  refine SeqAt.compareEq_reads r1 r2 c1 c2 (by omega) ⟨.bl _, H, I, rfl, ?_⟩
  rw [Bool.bne_false] at q
  exact q
theorem op_neM (hu : X.A.units + n < cLine) (hK : X.K = K := by rfl) : OpR X (compareOp .NotEq) (rEqM n K true) := by
  subst hK
  intro pins s σ H x y v u Q I rx ry ⟨d, e, hd, he, c1, c2, hm, q⟩
  obtain ⟨as, r1⟩ := Dp.reads I d x v hd rx
  obtain ⟨bs, r2⟩ := Dp.reads I e y u he ry
  refine SeqAt.compareNe_reads r1 r2 c1 c2 (by omega) ⟨.bl _, H, I, rfl, ?_⟩
  rw [Bool.bne_true] at q
  exact q
theorem toRev {e : Expr} {te : TE} (h : PE X e (tRevL X.K te)) (hK : X.K = K := by rfl) : PE X e (tRevL K te) := by subst hK; exact h
theorem call_sumK (hc : X.calm = true) (hK : X.K = K := by rfl) : CallR X (.builtin "sum") (rSum K) := by subst hK; exact cr_sum hc
end
section
variable {α β : Type} {K : PySem.W.Frag} {ss : SS} {t : Ty α} {u : Ty β} {ta tb : TE} {x : α} {y : β} {n : Nat}
theorem ve_eqM {neg : Bool} {d : α → PyData} {d' : β → PyData} {b : Bool} (D : IsD K t d) (D' : IsD K u d') (ha : Ve ta ss t x) (hb : Ve tb ss u y) (c1 : (d x).canLay0 = true) (c2 : (d' y).canLay0 = true) (hm : min (d x).depth (d' y).depth ≤ n) (he : PyData.eqv (d x) (d' y) = b) : Ve (tOp (rEqM n K neg) ta tb) ss yBool (b != neg) :=
  ve_op ha hb fun M v1 v2 H1 wf r1 r2 Q q => ⟨_, _, D.dp r1, D'.dp r2, c1, c2, hm, by rw [he]; exact q _ H1 Ke.refl rfl⟩
theorem can_list {d : α → PyData} (h : ∀ x, (d x).canLay0 = true) : ∀ xs : List α, PyData.canLayAll0 (xs.map d) = true
  | [] => rfl
  | x :: xs => by
    show ((d x).canLay0 && PyData.canLayAll0 (xs.map d)) = true
    rw [h x, can_list h xs] <;> rfl
/-- xs != [], xs == [] -/
theorem ve_nil {neg : Bool} {d : α → PyData} {xs : List α} (D : IsD K t d) (hd : ∀ x, (d x).canLay0 = true) (ha : Ve ta ss (yList t) xs) (hn : 1 ≤ n) : Ve (tOp (rEqM n K neg) ta (tLst tNil)) ss yBool (xs.isEmpty != neg) :=
  ve_eqM (isD_list D) (isD_list D) ha (ve_lst (t := t) vi_nil (Nat.zero_le _)) (can_list hd xs) rfl (Nat.le_trans (Nat.min_le_right _ _) hn) (by cases xs <;> rfl)
end
end Fp
namespace Fp
open PySem L2
section
variable {A α β γ δ : Type} {K : PySem.W.Frag} {L loc ext : List Addr} {ss ss' : SS} {ms : List MSlot} {t : Ty α} {u : Ty β} {te ta tb : TE} {tz : TS} {x : α} {y : β} {rt : Ty δ} {N : SS → List MSlot → Prop} {R : δ → List MSlot → Prop} {B C : SS → List MSlot → Prop} {E : XK}
/-- x, y = a new object, a value -/
theorem xs_parOV {i j : Nat} (h : Xo (loc ++ ext) ta ss ms fun m1 ms1 => ∀ a, ∃ y, Ve tb ss u y ∧ Xs (a :: loc) ext rt tz ((ss.set i (some ⟨yRef, a⟩)).set j (some ⟨u, y⟩)) (m1 :: ms1) (fgt N) R (fgt B) (fgt C)) :
    Xs loc ext rt (tSeq (tPar i j (tCons ta (tCons tb tNil))) tz) ss ms N R B C := fun M0 σ H D w k =>
  h _ σ H w.nd w.sub w.wf w.env w.own _ fun a m1 ms1 H1 ha e1 O1 i1 p => by
    obtain ⟨y, hy, p⟩ := p a
    have E1 : Env (a :: (loc ++ M0)) H1 σ ss := (w.env.more ha).keep (e1.sub fun b hb => List.mem_cons_of_mem _ (w.sub b hb))
    have w1 : Wh (a :: loc) ext M0 H1 σ ss (m1 :: ms1) := wh_new w ha e1 O1 i1 E1
    have k1 : Kn (a :: loc) ext M0 rt H1 D (fgt N) R (fgt B) (fgt C) := kn_fgt k fun e2 => ((e1.sub fun b hb => List.mem_cons_of_mem _ hb).trans e2).old ha
    refine hy _ σ H1 w1.env w1.wf H1 Ke.refl _ fun v H2 e2 r2 => ⟨.ref a, v, rfl, ?_⟩
    exact p M0 _ H2 D (w1.to e2.all (((w1.env.keep e2.all).set (t := yRef) (x := a) rfl i).set r2 j) (w1.own.grow e2)) (k1.at e2.all)
/-- a call that changes nothing; what it gives is known by its promise alone -/
theorem xe_call0 {sl : A → List Slot} {pre : A → Prop} {post : A → α → List MSlot → Prop} {ta : TA} {PA : α → List MSlot → Prop} (h : Xa L ta ss ms fun s1 ms1 => ∃ a : A, s1 = sl a ∧ pre a ∧ ∀ x, post a x [] → PA x ms1) : Xe L (tCall (SpX (fun _ => []) sl (fun _ => []) pre t post) [] E ta) ss ms t PA := fun M σ H nd s wf En O Q q =>
  h M σ H nd s wf En O _ fun vs H1 s1 ms1 k1 O1 r1 ⟨a, e1, hp, hk⟩ => ⟨M, a, List.nodup_nil, (fun _ h => by cases h), wf.keep k1, (by rw [List.append_nil, ← e1]; exact r1), trivial, hp, fun v x ms' H' k' O' r' e => q v H' x ms1 (k1.trans k'.all) (O1.grow k') r' (hk x (by
    cases ms' with
    | nil => exact e
    | cons _ _ => exact O'.elim))⟩
end
end Fp
/-! lists that a def gives back as new ones -/
namespace Fp
open PySem L2
def yFrom {α : Type} (H0 : Hp) (t : Ty α) : Ty α where
  rep := fun M H v x => t.rep M H v x ∧ ∀ p, H p = none → H0 p = none
  keep := fun k h => ⟨t.keep k h.1, fun p z => h.2 p (k.free z)⟩
  less := fun s h => ⟨t.less s h.1, h.2⟩
  more := fun f h => ⟨t.more f h.1, h.2⟩
def yFrL {α : Type} (H0 : Hp) (t : Ty α) : Ty (List α) where
  rep := fun M H v xs => ∃ a vs, v = .ref a ∧ a ∉ M ∧ H0 a = none ∧ H a = some (.lst vs) ∧ P2 (t.rep (a :: M) H) vs xs
  keep := fun k ⟨a, vs, e, n, h0, h, p⟩ => ⟨a, vs, e, n, h0, k.keep a _ n h, p.imp fun _ _ => t.keep (k.sub fun _ z => List.mem_cons_of_mem _ z)⟩
  less := fun s ⟨a, vs, e, n, h0, h, p⟩ => ⟨a, vs, e, fun z => n (s a z), h0, h, p.imp fun _ _ => t.less fun b hb => by
    rcases List.mem_cons.mp hb with z | z
    · rw [z]; exact List.mem_cons_self
    · exact List.mem_cons_of_mem _ (s b z)⟩
  more := fun {M H v x q} f ⟨a, vs, e, n, h0, h, p⟩ => ⟨a, vs, e, fun z => by
    rcases List.mem_cons.mp z with z | z
    · rw [z, f] at h; cases h
    · exact n z, h0, h, p.imp fun _ _ r => t.less (fun b hb => by
      rcases List.mem_cons.mp hb with z | z
      · rw [z]; exact List.mem_cons_of_mem _ List.mem_cons_self
      · rcases List.mem_cons.mp z with z | z
        · rw [z]; exact List.mem_cons_self
        · exact List.mem_cons_of_mem _ (List.mem_cons_of_mem _ z)) (t.more f r)⟩
section
variable {A α β γ δ : Type} {K : PySem.W.Frag} {L loc ext : List Addr} {ss ss' : SS} {ms : List MSlot} {t : Ty α} {u : Ty β} {te ta tb : TE} {tu tz : TS} {x : α} {y : β} {xs ys : List α} {rt : Ty δ} {N : SS → List MSlot → Prop} {R : δ → List MSlot → Prop} {B C : SS → List MSlot → Prop} {E : XK}
theorem ve_from {H0 : Hp} (h : Ve te ss (yFrom H0 t) x) : Ve te ss t x := fun M σ H En wf H1 k Q q => h M σ H En wf H1 k Q fun v H2 k2 r => q v H2 k2 r.1
theorem xn_cat {P : List α → List MSlot → Prop} (ha : Ve ta ss (yList t) xs) (hb : Ve tb ss (yList t) ys) (hz : xs.length + ys.length ≤ 1000000) (p : P (xs ++ ys) ms) : Xn L (tOp rCat ta tb) ss ms t P := fun M σ H nd s wf En O Q q =>
  ha M σ H En wf H Ke.refl _ fun v1 H1 k1 r1 => hb M σ H En wf H1 k1.all _ fun v2 H2 k2 r2 => by
    obtain ⟨a, vs, rfl, na, h1, p1⟩ := (yList t).keep (M := M) k2.all r1
    obtain ⟨b, ws, rfl, nb, h2, p2⟩ := r2
    exact ⟨a, b, vs, ws, rfl, rfl, h1, h2, szle (by rw [p1.len, p2.len]; exact hz), fun l hl => q l _ _ ms _ ((k1.trans k2).free hl) ((k1.trans k2).all.trans (Ke.new hl)) (((O.grow (k1.trans k2)).more hl).grow (Ke.new hl)) upd_same ((p1.app p2).imp fun _ _ r => t.keep (Ke.new hl) (t.more hl r)) p⟩
/-- return of a new list, where the call's first heap is known -/
theorem xs_retN {R : List α → List MSlot → Prop} {H0 : Hp} {g : Nat} {x0 : β} (hg : ss[g]? = some (some ⟨yFrom H0 u, x0⟩)) (h : Xn (loc ++ ext) te ss ms t fun xs ms' => R xs (ms'.drop loc.length)) : Xs loc ext (yFrL H0 t) (tRet te) ss ms N R B C := fun M0 σ H D w k =>
  h _ σ H w.nd w.sub w.wf w.env w.own _ fun a vs xs ms' H' ha e O' h' pr p => by
    obtain ⟨_, _, gh⟩ := w.env.get hg
    have na : a ∉ loc ++ M0 := w.wf.not ha
    exact k.rt (.ref a) H' xs _ e ⟨a, vs, rfl, fun z => na (List.mem_append_right _ z), gh.2 a ha, h', pr.imp fun _ _ => t.less fun b hb => by
      rcases List.mem_cons.mp hb with z | z
      · rw [z]; exact List.mem_cons_self
      · exact List.mem_cons_of_mem _ (List.mem_append_right _ z)⟩ (own_ext (fun b hb => List.mem_cons_of_mem _ (List.mem_append_right _ hb)) O') p
/-- a word between a statement and the rest -/
theorem xs_cut (J : SS → List MSlot → Prop) (h1 : Xs loc ext rt tu ss ms J R B C) (h2 : ∀ ss' ms', J ss' ms' → Xs loc ext rt tz ss' ms' N R B C) : Xs loc ext rt (tSeq tu tz) ss ms N R B C := fun M0 σ H D w k =>
  h1 M0 σ H { D with nx := tz D } w ⟨fun σ' H' ss' ms' e En O q => h2 ss' ms' q M0 σ' H' D (w.to e En O) (k.at e), k.rt, k.bk, k.ct⟩
theorem xe_ne {P : Bool → List MSlot → Prop} [DecidableEq α] [Sca t] (h : Xe L ta ss ms t fun x ms1 => Xe L tb ss ms1 t fun y ms2 => P (!decide (x = y)) ms2) : Xe L (tOp rNe ta tb) ss ms yBool P :=
  xe_opP (f := fun x y => !decide (x = y)) (C := fun _ _ => True) (fun M v1 v2 H1 x y _ wf r1 r2 Q q => ⟨(Sca.s r1 r2).1, q _ H1 Ke.refl (by rw [(Sca.s r1 r2).2]; rfl)⟩) (xe_mono h fun x ms1 hb => xe_mono hb fun y ms2 p => ⟨trivial, p⟩)
theorem xe_sub {P : Int → List MSlot → Prop} (h : Xe L ta ss ms yInt fun x ms1 => Xe L tb ss ms1 yInt fun y ms2 => P (x - y) ms2) : Xe L (tOp (rI0 fun i j => .int (i - j)) ta tb) ss ms yInt P :=
  xe_opP (f := fun i j => i - j) (C := fun _ _ => True) (fun M v1 v2 H1 x y _ wf r1 r2 Q q => ⟨x, y, r1, r2, q _ H1 Ke.refl rfl⟩) (xe_mono h fun x ms1 hb => xe_mono hb fun y ms2 p => ⟨trivial, p⟩)
/-- a call that gives a new list, taken as a datum -/
theorem ve_callN {sl : A → List Slot} {pre : A → Prop} {f : A → List α} {ta : TA} (a : A) (h : Vs ta ss (sl a)) (hp : pre a) : Ve (tCall (SpO sl pre fun a m => m = mL t (f a)) [] E ta) ss (yList t) (f a) := fun M σ H En wf H1 k Q q =>
  h M σ H En wf H1 k _ fun vs H2 k2 r => ⟨M, a, wf.keep (k.trans k2.all), by rw [List.append_nil]; exact r, hp, fun p m H' hn k' i e => by
    subst e
    obtain ⟨vs', hv, pr⟩ := i
    exact q _ H' (k2.trans k') ⟨p, vs', rfl, (wf.keep (k.trans k2.all)).not hn, hv, pr.imp fun _ _ => t.less fun _ z => List.mem_cons_of_mem _ z⟩⟩
end
end Fp

/-! ## instances, owned -/
namespace Fp
open PySem L2
/-- the fields, as data -/
def F2 (M : List Addr) (H : Hp) : List (Str × V) → List (Str × Slot) → Prop
  | [], [] => True
  | (f, v) :: gs, (g, s) :: fs => f = g ∧ s.t.rep M H v s.x ∧ F2 M H gs fs
  | _, _ => False
section
variable {M M' : List Addr} {H H' : Hp} {p : Addr}
theorem F2.imp {M' : List Addr} {H' : Hp} (k : ∀ {α : Type} (t : Ty α) (v : V) (x : α), t.rep M H v x → t.rep M' H' v x) : ∀ {gs : List (Str × V)} {fs : List (Str × Slot)}, F2 M H gs fs → F2 M' H' gs fs
  | [], [], _ => trivial
  | [], _ :: _, h => h.elim
  | _ :: _, [], h => h.elim
  | (_, _) :: gs, (_, _) :: fs, h => ⟨h.1, k _ _ _ h.2.1, F2.imp k (gs := gs) (fs := fs) h.2.2⟩
theorem F2.len : ∀ {gs : List (Str × V)} {fs : List (Str × Slot)}, F2 M H gs fs → gs.length = fs.length
  | [], [], _ => rfl
  | [], _ :: _, h => h.elim
  | _ :: _, [], h => h.elim
  | (_, _) :: gs, (_, _) :: fs, h => congrArg Nat.succ (F2.len (gs := gs) (fs := fs) h.2.2)
def putS (f : Str) (s : Slot) : List (Str × Slot) → List (Str × Slot)
  | [] => [(f, s)]
  | (g, x) :: r => if g = f then (g, s) :: r else (g, x) :: putS f s r
theorem F2.put {f : Str} {v : V} {s : Slot} (r : s.t.rep M H v s.x) : ∀ {gs : List (Str × V)} {fs : List (Str × Slot)}, F2 M H gs fs → F2 M H (putF f v gs) (putS f s fs)
  | [], [], _ => ⟨rfl, r, trivial⟩
  | [], _ :: _, h => h.elim
  | _ :: _, [], h => h.elim
  | (g, u) :: gs, (g', x) :: fs, h => by
    obtain ⟨e, r', h'⟩ := h
    subst e
    unfold putF putS
    by_cases c : g = f
    · rw [if_pos c, if_pos c]
      exact ⟨rfl, r, h'⟩
    · rw [if_neg c, if_neg c]
      exact ⟨rfl, r', F2.put r h'⟩
theorem F2.look {f : Str} : ∀ {gs : List (Str × V)} {fs : List (Str × Slot)} {s : Slot}, F2 M H gs fs → fs.lookup f = some s → ∃ v, gs.lookup f = some v ∧ s.t.rep M H v s.x
  | [], [], _, _, e => by cases e
  | [], _ :: _, _, h, _ => h.elim
  | _ :: _, [], _, h, _ => h.elim
  | (g, u) :: gs, (g', x) :: fs, s, h, e => by
    obtain ⟨e', r', h'⟩ := h
    subst e'
    rw [List.lookup_cons] at e ⊢
    cases c : f == g with
    | true =>
      rw [c] at e
      have e2 := Option.some.inj e
      subst e2
      exact ⟨u, rfl, r'⟩
    | false =>
      rw [c] at e
      exact F2.look h' e
theorem F2.no {f : Str} : ∀ {gs : List (Str × V)} {fs : List (Str × Slot)}, F2 M H gs fs → fs.lookup f = none → gs.lookup f = none
  | [], [], _, _ => rfl
  | [], _ :: _, h, _ => h.elim
  | _ :: _, [], h, _ => h.elim
  | (g, u) :: gs, (g', x) :: fs, h, e => by
    obtain ⟨e', r', h'⟩ := h
    subst e'
    rw [List.lookup_cons] at e ⊢
    cases c : f == g with
    | true => rw [c] at e; cases e
    | false =>
      rw [c] at e
      exact F2.no h' e
end
/-- an instance of the class at C with these fields -/
def mI (C : Addr) (fs : List (Str × Slot)) : MSlot where
  I := fun M H a => ∃ dx gs, H a = some (.ins C dx gs) ∧ F2 M H gs fs
  stab := fun k s n ⟨dx, gs, h, p⟩ => ⟨dx, gs, k.keep _ _ n h, p.imp fun t _ _ => t.keep (k.sub s)⟩
  more := fun f ⟨dx, gs, h, p⟩ => ⟨dx, gs, h, p.imp fun t _ _ => t.more f⟩
  less := fun s ⟨dx, gs, h, p⟩ => ⟨dx, gs, h, p.imp fun t _ _ => t.less s⟩
  there := fun ⟨dx, gs, h, _⟩ => ⟨_, h⟩
section
variable {A α β γ δ : Type} {K : PySem.W.Frag} {L loc ext : List Addr} {ss ss' : SS} {ms : List MSlot} {t : Ty α} {u : Ty β} {te ta tb tl tv : TE} {tu tz : TS} {x : α} {y : β} {rt : Ty δ} {N : SS → List MSlot → Prop} {R : δ → List MSlot → Prop} {B C : SS → List MSlot → Prop} {E : XK} {Cl : Addr}
theorem own_I {M : List Addr} {H : Hp} {i : Nat} {a : Addr} {fs : List (Str × Slot)} (O : Own M H L ms) (hL : L[i]? = some a) (hm : ms[i]? = some (mI Cl fs)) : ∃ dx gs, H a = some (.ins Cl dx gs) ∧ F2 M H gs fs := by
  obtain ⟨a', e, dx, gs, h, p⟩ := O.get hm
  have : a' = a := Option.some.inj (e.symm.trans hL)
  subst this
  exact ⟨dx, gs, h, p⟩
/-- o.f = e, o owned -/
theorem xs_fld {f : Str} {i : Nat} {a : Addr} (hc : Cls K Cl) (hn : NoAttr K Cl f) (ho : Ve ta ss yRef a) (hL : (loc ++ ext)[i]? = some a) (h : Xe (loc ++ ext) tv ss ms t fun y ms' => ∃ fs, ms'[i]? = some (mI Cl fs) ∧ fs.length < 1000 ∧ N ss (ms'.set i (mI Cl (putS f ⟨t, y⟩ fs)))) : Xs loc ext rt (sFld K ta tv f) ss ms N R B C := fun M0 σ H D w k =>
  h _ σ H w.nd w.sub w.wf w.env w.own _ fun v H1 y ms1 e1 O1 r1 ⟨fs, hm, hl, p⟩ => ho _ σ H1 (w.env.keep (e1.sub w.sub)) (w.wf.keep e1) H1 Ke.refl _ fun o H2 e2 r2 => by
    have ro : o = .ref a := r2
    subst ro
    have O2 := O1.grow e2
    obtain ⟨dx, gs, h2, pr⟩ := own_I O2 hL hm
    have haM : a ∈ loc ++ M0 := w.sub a (List.mem_of_getElem? hL)
    have k3 : Ke [a] H2 (upd H2 a (.ins Cl dx (putF f v gs))) := Ke.mut (List.mem_singleton.mpr rfl)
    have k4 : Ke (loc ++ M0) H2 (upd H2 a (.ins Cl dx (putF f v gs))) := Ke.mut haM
    refine ⟨a, Cl, dx, gs, rfl, h2, hc, hn, (by rw [pr.len]; exact hl), k.nx σ _ ss _ ((e1.trans e2.all).trans (Ke.mut (List.mem_of_getElem? hL))) (((w.env.keep (e1.sub w.sub)).keep e2.all).keep k4) (Own.put (m' := mI Cl (putS f ⟨t, y⟩ fs)) k3 haM ⟨dx, _, upd_same, ?_⟩ w.nd hL O2) p⟩
    exact F2.imp (fun t _ _ => t.keep k4) (F2.put (s := ⟨t, y⟩) (t.keep e2.all r1) pr)
/-- o.f, o owned -/
theorem xe_fld {f : Str} {i : Nat} {a : Addr} {fs : List (Str × Slot)} {P : α → List MSlot → Prop} (hc : Cls K Cl) (hn : NoAttr K Cl f) (ho : Ve ta ss yRef a) (hL : L[i]? = some a) (hm : ms[i]? = some (mI Cl fs)) (hf : fs.lookup f = some ⟨t, x⟩) (p : P x ms) : Xe L (tFld K ta f) ss ms t P := fun M σ H nd s wf En O Q q =>
  ho M σ H En wf H Ke.refl _ fun v H1 k1 r => by
    have rv : v = .ref a := r
    subst rv
    obtain ⟨dx, gs, h1, pr⟩ := own_I (O.grow k1) hL hm
    obtain ⟨w, e, rw'⟩ := pr.look hf
    exact ⟨a, Cl, dx, gs, w, rfl, h1, hc, hn, e, q w H1 x ms k1.all (O.grow k1) rw' p⟩
/-- C(..): a new instance by its __init__ -/
theorem xo_make {ext' : A → List Addr} {sl : A → List Slot} {msA : A → List MSlot} {pre : A → Prop} {post : A → Unit → List MSlot → Prop} {ts : TA} {P : MSlot → List MSlot → Prop}
    (hs : Xa L ts ss ms fun s1 ms1 => ∃ a : Addr → A, (∀ o, sl (a o) = ⟨yRef, o⟩ :: s1) ∧ (∀ o, ext' (a o) = [o]) ∧ (∀ o, msA (a o) = [mI Cl []]) ∧ (∀ o, pre (a o)) ∧ ∀ o m', post (a o) () [m'] → P m' ms1) : Xo L (tMake Cl (SpX ext' sl msA pre yNon post) [] E ts) ss ms P := fun M σ H nd s wf En O Q q =>
  hs M σ H nd s wf En O _ fun vs H1 s1 ms1 k1 O1 r ⟨a, e1, e2, e3, hp, hq⟩ => by
    intro o dx ho hd hne
    have kA : ∀ {M : List Addr}, Ke M H1 (upd (upd H1 dx (.own o)) o (.ins Cl dx [])) := (Ke.new hd).trans (Ke.new (by rw [upd_ne (Ne.symm hne)]; exact ho))
    have wf1 : Wf M H1 := wf.keep k1
    have wf2 : Wf (o :: M) (upd (upd H1 dx (.own o)) o (.ins Cl dx [])) := (wf1.keep (kA (M := []))).cons upd_same
    have rA : ArgsR (o :: M) (upd (upd H1 dx (.own o)) o (.ins Cl dx [])) vs s1 := by
      have lift : ∀ {vs : List V} {sl : List Slot}, ArgsR M H1 vs sl → ArgsR (o :: M) (upd (upd H1 dx (.own o)) o (.ins Cl dx [])) vs sl := by
        intro vs
        induction vs with
        | nil => intro sl h; cases sl with
          | nil => trivial
          | cons _ _ => exact h.elim
        | cons v vs ih => intro sl h; cases sl with
          | nil => exact h.elim
          | cons s sl => exact ⟨s.t.keep kA (s.t.more ho h.1), ih h.2⟩
      exact lift r
    rw [List.append_nil]
    refine ⟨o :: M, a o, (by rw [e2]; exact List.nodup_cons.mpr ⟨(fun z => by cases z), List.nodup_nil⟩), (fun b hb => by rw [e2] at hb; rw [List.mem_singleton.mp hb]; exact List.mem_cons_self), wf2, (by rw [e1]; exact ⟨rfl, rA⟩), (by rw [e2, e3]; exact ⟨⟨dx, [], upd_same, trivial⟩, trivial⟩), hp o, fun rv xv ms' H' k' O' r' po => ?_⟩
    rw [e2] at k' O'
    cases ms' with
    | nil => exact O'.elim
    | cons m' rest =>
      cases rest with
      | cons _ _ => exact O'.2.elim
      | nil =>
        have kB : Ke [] H1 H' := (kA.trans k').old ho
        refine ⟨r', q o m' ms1 H' (k1.free ho) (k1.trans kB.all) ?_ O'.1 (hq o m' po)⟩
        exact (O1.more ho).grow kB
/-- a new object that is no longer changed, as a datum -/
theorem xe_frz {P : α → List MSlot → Prop} (h : Xo L te ss ms fun m ms' => ∃ x, (∀ M H a, a ∉ M → m.I (a :: M) H a → t.rep M H (.ref a) x) ∧ P x ms') : Xe L te ss ms t P := fun M σ H nd s wf En O Q q =>
  h M σ H nd s wf En O _ fun a m ms' H' ha k O' i ⟨x, f, p⟩ => q _ H' x ms' k (O'.less fun _ z => List.mem_cons_of_mem _ z) (f M H' a (wf.not ha) i) p
/-- .. in an expression that changes nothing -/
theorem ve_frz (h : ∀ M σ H, Env M H σ ss → Xo [] te ss [] fun m _ => ∀ M H a, a ∉ M → m.I (a :: M) H a → t.rep M H (.ref a) x) : Ve te ss t x := fun M σ H En wf H1 k Q q =>
  h M σ H En M σ H1 List.nodup_nil (fun _ z => by cases z) (wf.keep k) (En.keep k) trivial _ fun a m ms' H' ha k' _ i f => q _ H' k' (f M H' a ((wf.keep k).not ha) i)
theorem ve_frz' (h : Xo [] te ss [] fun m _ => ∀ M H a, a ∉ M → m.I (a :: M) H a → t.rep M H (.ref a) x) : Ve te ss t x := ve_frz fun _ _ _ _ => h
end
end Fp

/-! ## the layer's rules with the written part told (within a comprehension's block the reading must not name the block) -/
namespace Fp
open PySem L2
section
variable {X : Cx} {K : PySem.W.Frag} {w : World}
theorem ix_kdictK (hK : X.K = K := by rfl) (hw : X.w = w := by rfl) : IxR X (rIxD K w) := by
  subst hK hw
  exact ix_kdict
theorem op_inK (hK : X.K = K := by rfl) : OpR X (compareOp .In) (rIn K false) := by subst hK; exact op_in_seq
theorem op_notInK (hK : X.K = K := by rfl) : OpR X (compareOp .NotIn) (rIn K true) := by subst hK; exact op_notIn_seq
theorem op_eqK (hu : X.A.units + 64 < cLine) (hK : X.K = K := by rfl) : OpR X (compareOp .Eq) (rEqD K) := by subst hK; exact op_eqD hu
theorem op_neK (hu : X.A.units + 64 < cLine) (hK : X.K = K := by rfl) : OpR X (compareOp .NotEq) (rNeD K) := by subst hK; exact op_neD hu
theorem ix_listK (hK : X.K = K := by rfl) : IxR X (rIxL K) := by subst hK; exact ix_list
theorem ix_tupK (hK : X.K = K := by rfl) : IxR X (rIxT K) := by subst hK; exact ix_tup
theorem sl_listK (hK : X.K = K := by rfl) : SlR X (rSlL K) := by subst hK; exact sl_list
theorem call_lenK (hK : X.K = K := by rfl) : CallR X (.builtin "len") (fun xs H Q => ∃ p ys, xs = [.ref p] ∧ (SqL K H p ys ∨ SqT K H p ys) ∧ Q (.int ys.length) H) := by subst hK; exact call_len_seq
theorem call_listK (hK : X.K = K := by rfl) : CallR X (.type "list") (fun xs H Q => ∃ p ys, xs = [.ref p] ∧ (SqL K H p ys ∨ SqT K H p ys) ∧ ∀ l, H l = none → Q (.ref l) (upd H l (.lst ys))) := by subst hK; exact call_list_of
theorem call_tupleK (hK : X.K = K := by rfl) : CallR X (.type "tuple") (fun xs H Q => ∃ p ys, xs = [.ref p] ∧ ((SqL K H p ys ∧ ∀ l, H l = none → Q (.ref l) (upd H l (.tup ys))) ∨ (SqT K H p ys ∧ Q (.ref p) H))) := by subst hK; exact call_tuple_of
theorem call_isiX (hK : X.K = K := by rfl) : CallR X (.builtin "isinstance") (rIsi K) := by subst hK; exact call_isi
theorem pe_fldK {e : Expr} {f : Str} {pos : Pos} {ta : TE} (he : PE X e ta) (hb : attributeBase e f X.env (eval e X.env) = eval e X.env) (hK : X.K = K := by rfl) : PE X (.Attribute e f pos) (tFld K ta f) := by subst hK; exact pe_fld he hb
theorem toBM {e : Expr} {T : String} {r : V → List V → Hp → VK → Prop} {to : TE} {t : TA} (h : PE X e (tBM X.K T r to t)) (hK : X.K = K := by rfl) : PE X e (tBM K T r to t) := by subst hK; exact h
theorem toBM0 {e : Expr} {T : String} {r : V → List V → Hp → VK → Prop} {to : TE} (h : PE X e (tBM0 X.K T r to)) (hK : X.K = K := by rfl) : PE X e (tBM0 K T r to) := by subst hK; exact h
theorem pi_listK {tg l : Expr} {tl : TE} (hl : PE X l tl) (hK : X.K = K := by rfl) : PI X tg l (iList K tl) := by subst hK; exact pi_list hl
theorem pi_tupK {tg l : Expr} {tl : TE} (hl : PE X l tl) (hK : X.K = K := by rfl) : PI X tg l (iTup K tl) := by subst hK; exact pi_tup hl
theorem pi_enumK {e : Expr} {ta : TA} {p pos tpos : Pos} {elts : List Expr} {kk : Nat} (hg : Gl X "enumerate") (hm : X.mg "enumerate" = none) (ha : PA X [e] ta) (hs : starEach [e] X.env = [(false, eval e X.env)] := by rfl) (hK : X.K = K := by rfl) :
    PI X (.Tuple elts kk tpos) (.Call (.Name "enumerate" p) [e] [] pos) (iEnum K ta) := by subst hK; exact pi_enum hg hm ha hs
theorem pi_zipK {e e2 : Expr} {ta : TA} {p pos tpos : Pos} {elts : List Expr} {kk : Nat} (hg : Gl X "zip") (hm : X.mg "zip" = none) (ha : PA X [e, e2] ta)
    (hs : starEach [e, e2] X.env = (false, eval e X.env) :: starEach [e2] X.env := by rfl) (hpl : (backTo pos (starEach [e2] X.env)).any (·.1) = false := by rfl) (hK : X.K = K := by rfl) :
    PI X (.Tuple elts kk tpos) (.Call (.Name "zip" p) [e, e2] [] pos) (iZip K ta) := by subst hK; exact pi_zip hg hm ha hs hpl
theorem pg_tupK {es : List Expr} {k : Nat} {pos : Pos} {t : TGs} {n : Nat} (hc : X.calm = true) (h : PGs X es t)
    (hn : (assignEach es X.env).length = n := by rfl) (hst : (assignEach es X.env).findIdx? (·.1) = none := by rfl) (hK : X.K = K := by rfl) : PG X (.Tuple es k pos) (gTup K n t) := by subst hK; exact pg_tup hc h hn hst
end
end Fp

namespace Fp
open PySem PySem.Spec PyProof.Rows L2
/-! ### a Hook over addresses of one's own -/
/-- one function object: where it lies, its names, its row, its defaults -/
structure Fn where
  ad : PySem.W.Frag → Addr
  name : Str
  qual : Str
  st : Stmt
  dfl : List He.Dv := []
def Fn.data (K : PySem.W.Frag) (d : Fn) : Option FuncData := match K.lookup (d.ad K) with
  | some o => (match o.data with
    | .func fd => some fd
    | _ => none)
  | none => none
def Fn.dvs (K : PySem.W.Frag) (d : Fn) : List V := d.dfl.map (He.Dv.v K)
def Fn.seen (K : PySem.W.Frag) (d : Fn) : He.FnW := (d.data K).map fun fd => (fd.name, fd.qualname, fd.params, fd.body, fd.scope, fd.globals, fd.closure, fd.builtins)
def Fn.due (d : Fn) : He.FnW := some (d.name, d.qual, defArgs d.st, .stmts (defBody d.st), defScope d.st, mainGlobals, [], builtinsNs)
def Fn.good (K : PySem.W.Frag) (d : Fn) : Bool := PySem.W.keepIn K (.ref (d.ad K)) && (match d.data K with
  | some fd => PySem.W.codeIn K fd.code d.qual && He.dflB K fd.defaults (d.dvs K)
  | none => false)
theorem Fn.data_at {K : PySem.W.Frag} {d : Fn} {fd : FuncData} (h : d.data K = some fd) : ∃ oc od sl, K.lookup (d.ad K) = some ⟨oc, od, .func fd, sl⟩ := by
  unfold Fn.data at h
  cases q : K.lookup (d.ad K) with
  | none => rw [q] at h; cases h
  | some o =>
    rw [q] at h
    obtain ⟨oc, od, dt, sl⟩ := o
    cases dt with
    | func f => cases h; exact ⟨oc, od, sl, rfl⟩
    | _ => cases h
theorem Fn.got {K : PySem.W.Frag} {d : Fn} (e : d.seen K = d.due) (c : d.good K = true) : ∃ fd, FunD K d.name d.qual (defArgs d.st) (defBody d.st) (defScope d.st) (d.dvs K) [] (d.ad K) fd := by
  obtain ⟨kp, c⟩ := Bool.and_eq_true_iff.mp c
  unfold Fn.seen at e
  cases q : d.data K with
  | none => rw [q] at c; cases c
  | some fd =>
    rw [q] at c e
    obtain ⟨c1, c2⟩ := Bool.and_eq_true_iff.mp c
    obtain ⟨oc, od, sl, lk⟩ := Fn.data_at q
    obtain ⟨a1, a2, a3, a4, a5, a6, a7, a8, a9, a10, a11, a12, a13, a14, a15⟩ := fd
    have e := Option.some.inj e
    simp only [Prod.mk.injEq] at e
    obtain ⟨rfl, rfl, rfl, rfl, rfl, rfl, rfl, rfl⟩ := e
    exact ⟨_, ⟨oc, od, a8, a9, a10, a11, a12, a13, a14, sl, rfl, lk, c1, He.dflB_ok c2, .inl rfl⟩, kp⟩
abbrev AlY : Type := Bool × List He.FnW × List (Option (List (Option (Str × Int))))
structure Hd where
  n : Nat
  fa : List He.Fa
  fn : List Fn
  ts : List He.Tab
  ex : PySem.W.Frag → Bool
def Hd.look (h : Hd) (K : PySem.W.Frag) : AlY := ((h.fa.all fun f => f.ok K) && (h.fn.all (Fn.good K) && h.ex K), h.fn.map (Fn.seen K), h.ts.map fun t => He.dicW K (t.1 K))
def Hd.due (h : Hd) (w : World) : AlY := (true, h.fn.map Fn.due, h.ts.map fun t => some (He.keysIn w.params t.2))
def Hd.obs (h : Hd) (g : Addr → Option Obj) : AlY := h.look (He.frG g (He.asD g h.n))
def Hd.hook (h : Hd) : PySem.W.Hook where
  α := AlY
  obs := fun s => h.obs s.heap.get?
  val := fun w => h.due w
  says := fun w hp => ∃ K : PySem.W.Frag, K.In hp ∧ h.look K = h.due w
  of := fun _ _ e => ⟨_, He.frG_in, e⟩
  keeps := fun _ _ _ ⟨K, i, c⟩ k => ⟨K, i.keeps k, c⟩
theorem Hd.obs_eq (h : Hd) (s : PySem.W.SharedT) : h.obs (HandSHeadRun.getT s) = h.hook.obs s.abs := by
  rw [show HandSHeadRun.getT s = s.abs.heap.get? from funext (HandSHeadRun.getT_eq s)]
  rfl
section
variable {h : Hd} {K : PySem.W.Frag} {w : World}
theorem Hd.bools (c : h.look K = h.due w) : (h.fa.all fun f => f.ok K) = true ∧ h.fn.all (Fn.good K) = true ∧ h.ex K = true := by
  have e : ((h.fa.all fun f => f.ok K) && (h.fn.all (Fn.good K) && h.ex K)) = true := congrArg (fun z : AlY => z.1) c
  obtain ⟨e1, e2⟩ := Bool.and_eq_true_iff.mp e
  exact ⟨e1, Bool.and_eq_true_iff.mp e2⟩
theorem Hd.fact (c : h.look K = h.due w) {f : He.Fa} (i : Nat) (hf : h.fa[i]? = some f) : f.ok K = true := List.all_eq_true.mp (Hd.bools c).1 f (List.mem_of_getElem? hf)
theorem Hd.fun_ (c : h.look K = h.due w) {d : Fn} (i : Nat) (hd : h.fn[i]? = some d) : ∃ fd, FunD K d.name d.qual (defArgs d.st) (defBody d.st) (defScope d.st) (d.dvs K) [] (d.ad K) fd := by
  have e : h.fn.map (Fn.seen K) = h.fn.map Fn.due := congrArg (fun z : AlY => z.2.1) c
  have e2 : (h.fn.map (Fn.seen K))[i]? = (h.fn.map Fn.due)[i]? := by rw [e]
  rw [List.getElem?_map, List.getElem?_map, hd] at e2
  exact Fn.got (Option.some.inj e2) (List.all_eq_true.mp (Hd.bools c).2.1 d (List.mem_of_getElem? hd))
theorem Hd.dict (c : h.look K = h.due w) {t : He.Tab} (i : Nat) (ht : h.ts[i]? = some t) : ∃ es n, KDict K w (t.1 K) es n := by
  have e : h.ts.map (fun t => He.dicW K (t.1 K)) = h.ts.map fun t => some (He.keysIn w.params t.2) := congrArg (fun z : AlY => z.2.2) c
  have e2 : (h.ts.map (fun t => He.dicW K (t.1 K)))[i]? = (h.ts.map fun t => some (He.keysIn w.params t.2))[i]? := by rw [e]
  rw [List.getElem?_map, List.getElem?_map, ht] at e2
  exact He.dicW_ok (Option.some.inj e2)
end
/-! ### checks of one's own -/
/-- a tuple of these lies there -/
def tupA (K : PySem.W.Frag) (a : Addr) (vs : List V) : Bool := match K.lookup a with
  | some o => (match o.cls, o.data with
    | .type c, .seq its _ => decide (c = "tuple") && (decide (its.size ≤ sizeLine) && He.relAll vs its.toList)
    | _, _ => false)
  | none => false
theorem tupA_ok {K : PySem.W.Frag} {a : Addr} {vs : List V} (h : tupA K a vs = true) : SqT K (fun _ => none) a vs := by
  unfold tupA at h
  cases q : K.lookup a with
  | none => rw [q] at h; cases h
  | some o =>
    rw [q] at h
    obtain ⟨oc, od, dt, sl⟩ := o
    cases oc with
    | type c =>
      cases dt with
      | seq its n =>
        obtain ⟨h1, h2⟩ := Bool.and_eq_true_iff.mp h
        obtain ⟨h3, h4⟩ := Bool.and_eq_true_iff.mp h2
        exact .inr ⟨_, its, n, q, congrArg Value.type (of_decide_eq_true h1), rfl, of_decide_eq_true h3, He.relAll_ok h4⟩
      | _ => cases h
    | _ => cases h
/-- the object that a table holds at a text -/
def atKey (K : PySem.W.Frag) (d : Addr) (k : Str) : Addr := match PySem.W.nsIn K d k with
  | some (some (.ref a)) => a
  | _ => 0
def atB (K : PySem.W.Frag) (d : Addr) (k : Str) : Bool := He.eqO (PySem.W.nsIn K d k) (some (some (.ref (atKey K d k))))
theorem kdct_of {K : PySem.W.Frag} {w : World} {d : Addr} {k : Str} {es : Array DictEntry} {n : Nat} (D : KDict K w d es n) (h : atB K d k = true) : KDct K w d k (.ref (atKey K d k)) := ⟨es, n, _, D.at_, D.lit, He.eqO_ok h, rfl⟩
/-- a property's getter -/
def getter (C m : Str) (K : PySem.W.Frag) : Addr := match PySem.W.recIn K (He.ma K (He.ga K C) m) "property" with
  | some (.ref g :: _) => g
  | _ => 0
def propB (K : PySem.W.Frag) (C m : Str) : Bool := He.eqO (PySem.W.findIn K (.ref (He.ga K C)) m) (some (some (.ref (He.ma K (He.ga K C) m)))) && (He.eqO (PySem.W.specialIn K (.ref (He.ma K (He.ga K C) m)) "__get__") (some (some (.builtin "property.__get__"))) &&
  (decide (PySem.W.takesIn K (.ref (He.ma K (He.ga K C) m)) = some true) && (match PySem.W.recIn K (He.ma K (He.ga K C) m) "property" with
    | some (.ref _ :: _) => true
    | _ => false)))
theorem propB_ok {K : PySem.W.Frag} {C m : Str} (h : propB K C m = true) : PropOf K (He.ga K C) m (He.ma K (He.ga K C) m) (getter C m K) := by
  obtain ⟨h1, h⟩ := Bool.and_eq_true_iff.mp h
  obtain ⟨h2, h⟩ := Bool.and_eq_true_iff.mp h
  obtain ⟨h3, h⟩ := Bool.and_eq_true_iff.mp h
  refine ⟨He.eqO_ok h1, He.eqO_ok h2, of_decide_eq_true h3, ?_⟩
  unfold getter
  cases q : PySem.W.recIn K (He.ma K (He.ga K C) m) "property" with
  | none => rw [q] at h; cases h
  | some l =>
    rw [q] at h
    cases l with
    | nil => cases h
    | cons v r =>
      cases v with
      | ref g => exact ⟨r, rfl⟩
      | _ => cases h
/-- isinstance of a class's objects -/
def insB (K : PySem.W.Frag) (C : Str) : Bool := He.eqO (PySem.W.findIn K (.ref (He.ga K C)) "__class__") (some (some (.builtin "object.__class__"))) && (He.eqO (PySem.W.specialIn K (.builtin "object.__class__") "__get__") (some (some (.builtin "getset_descriptor.__get__"))) &&
  (decide (PySem.W.takesIn K (.builtin "object.__class__") = some true) && decide (PySem.W.mroIn K (He.ga K C) (.type "object") = some true)))
theorem insB_ok {K : PySem.W.Frag} {C : Str} (h : insB K C = true) : PySem.W.findIn K (.ref (He.ga K C)) "__class__" = some (some (.builtin "object.__class__")) ∧ PySem.W.specialIn K (.builtin "object.__class__") "__get__" = some (some (.builtin "getset_descriptor.__get__")) ∧ PySem.W.takesIn K (.builtin "object.__class__") = some true ∧ PySem.W.mroIn K (He.ga K C) (.type "object") = some true := by
  obtain ⟨h1, h⟩ := Bool.and_eq_true_iff.mp h
  obtain ⟨h2, h⟩ := Bool.and_eq_true_iff.mp h
  obtain ⟨h3, h⟩ := Bool.and_eq_true_iff.mp h
  exact ⟨He.eqO_ok h1, He.eqO_ok h2, of_decide_eq_true h3, of_decide_eq_true h⟩
theorem relAll_strs (K : PySem.W.Frag) (xs : List Str) : (xs.map He.Dv.str).map (He.Dv.v K) = xs.map V.str := by
  rw [List.map_map]
  rfl
def neB (K : PySem.W.Frag) (C : Str) : Bool := He.eqO (PySem.W.findIn K (.ref (He.ga K C)) "__ne__") (some (some (.builtin "object.__ne__"))) && decide (PySem.W.mroIn K (He.ga K C) (.type "object") = some true)
theorem neB_ok {K : PySem.W.Frag} {C : Str} (h : neB K C = true) : OwnNe K (He.ga K C) := by
  obtain ⟨h1, h2⟩ := Bool.and_eq_true_iff.mp h
  exact ⟨He.eqO_ok h1, of_decide_eq_true h2⟩
end Fp

/-! ## an own exception's __init__ that begins with super().__init__(e) -/
namespace Fp
open PySem PySem.Spec PyProof.Rows L2
/-- what the written part says of the class -/
structure SupC (K : PySem.W.Frag) (C : Addr) : Prop where
  oex : OexC K C
  me : PySem.W.mroIn K C (.ref C) = some true
  su : PySem.W.ks_superIn K C C "__init__" = some (some (.builtin "ValueError.__init__"))
  op : PySem.W.nsIn K cStatics "thirdparty.any" = some none
  ve : PySem.W.subIn K (.ref C) (.type "ValueError") = some true
/-- .. of its __init__ at f: the closure's one cell, the code -/
structure SupD (P : Program) (K : PySem.W.Frag) (C : Addr) (x qual : Str) (params : Arguments) (body : List Stmt) (scope : Scope) (f : Addr) (fd : FuncData) (cc cda : Addr) : Prop where
  ex : ∃ (oc : Value) (od : Option Addr) (kV doc pm : Value) (an : Option Addr) (ct : Value) (osl : Array (Option Value)),
    fd = PySem.W.ksFn x qual params body scope .none kV doc pm an (.ref cda) ct cc ∧ K.lookup f = some ⟨oc, od, .func fd, osl⟩ ∧ PySem.W.codeIn K (.ref cda) qual = true
  cell : ∃ cl cld csl, K.lookup cc = some ⟨cl, cld, .cell (some (.ref C)), csl⟩
  code : ∃ ccl cdd vs ccs file tf, K.lookup cda = some ⟨ccl, cdd, .fields vs, ccs⟩ ∧ vs[2]? = some (.str file tf) ∧ ((P.main.file : Str) == file) = true
  top : (P.main.scope.names.lookup ("super" : Str)).isSome = false
/-- its names: the parameters, all local; super, __class__ -/
structure SupS (ps : List Str) (params : Arguments) (scope : Scope) : Prop where
  kind : scope.kind = .function
  co : scope.isCoroutine = false
  gen : scope.isGenerator = false
  nd : ps.Nodup
  loc : ∀ y ∈ ps, scope.names.lookup y = some .local
  nocell : ∀ y ∈ scope.names, y.2 ≠ .cell
  free : ∀ y ∈ scope.names, y.2 = .free → y.1 = ("__class__" : Str)
  su : scope.names.lookup ("super" : Str) = some .globalImplicit
  cl : scope.names.lookup ("__class__" : Str) = some .free
  hd : ∃ ar : Arg, (params.posonlyargs ++ params.args).head? = some ar ∧ ps[0]? = some ar.arg
abbrev supEnv (qual : Str) (scope : Scope) (L f cda cc : Addr) : PySem.Env := PySem.W.ksEnv qual scope L f (.ref cda) cc
def cxS (P : Program) (w : World) (K : PySem.W.Frag) (mg : Str → Option Value) (base : Heap) (N : List Str) (qual : Str) (scope : Scope) (f cda cc : Addr) (A : Around) (outer : List PySem.Env) (s : Shared) (H : Hp) : Cx where
  prog := P
  w := w
  K := K
  mg := mg
  base := base
  A := A.deeper (supEnv qual scope s.heap.objs.size f cda cc)
  N := N
  s_0 := s
  H_0 := H
  env := supEnv qual scope s.heap.objs.size f cda cc
  outer := outer
  stack := supEnv qual scope s.heap.objs.size f cda cc :: outer
  ex := []
  calm := true
  fn := fun _ => false
  pn := []
  xe := fun _ _ => False
theorem zip_lookup {α : Type} : ∀ {ps : List Str} {us : List α} {i : Nat} {y : Str} {u : α}, ps.Nodup → ps[i]? = some y → us[i]? = some u → (ps.zip us).lookup y = some u
  | [], _, _, _, _, _, e, _ => by cases e
  | _ :: _, [], _, _, _, _, _, e => by cases e
  | p :: ps, v :: us, 0, y, u, _, e1, e2 => by
    have e1 := Option.some.inj e1
    have e2 := Option.some.inj e2
    subst e1 e2
    simp [List.zip, List.zipWith, List.lookup]
  | p :: ps, v :: us, i + 1, y, u, nd, e1, e2 => by
    have ne : y ≠ p := fun z => (List.nodup_cons.mp nd).1 (by rw [← z]; exact List.mem_of_getElem? e1)
    have e : (y == p) = false := by simpa using ne
    have ih := zip_lookup (ps := ps) (us := us) (List.nodup_cons.mp nd).2 e1 e2
    show List.lookup y ((p, v) :: ps.zip us) = some u
    rw [List.lookup_cons, e]
    exact ih
theorem lookup_rev {α : Type} : ∀ {l : List (Str × α)} {y : Str} {u : α}, (l.map (·.1)).Nodup → l.lookup y = some u → l.reverse.lookup y = some u := by
  intro l y u nd h
  have key : ∀ {l : List (Str × α)}, (l.map (·.1)).Nodup → (y, u) ∈ l → l.lookup y = some u := by
    intro l
    induction l with
    | nil => intro _ h; cases h
    | cons p l ih =>
      intro nd h
      obtain ⟨a, b⟩ := p
      rcases List.mem_cons.mp h with z | z
      · cases z
        simp [List.lookup]
      · have ne : y ≠ a := fun q => (List.nodup_cons.mp nd).1 (by rw [← q]; exact List.mem_map.mpr ⟨(y, u), z, rfl⟩)
        have e : (y == a) = false := by simpa using ne
        rw [List.lookup_cons, e]
        exact ih (List.nodup_cons.mp nd).2 z
  refine key ?_ (List.mem_reverse.mpr (PySem.mem_of_lookup h))
  rw [List.map_reverse]
  exact List.pairwise_reverse.mpr (nd.imp fun h => Ne.symm h)
section
variable {P : Program} {w : World} {K : PySem.W.Frag} {mg : Str → Option Value} {base : Heap} {C : Addr} {x qual : Str} {params : Arguments} {scope : Scope} {f cc cda : Addr} {fd : FuncData} {ps : List Str} {body : List Stmt}
theorem inv_sup {A : Around} {outer : List PySem.Env} {s : Shared} {H : Hp} {us : List Value} {vs : List V} {h₁ : Heap} {tk : Nat} (D : SupD P K C x qual params body scope f fd cc cda) (S : SupS ps params scope) (hd : A.handled = none) (e0 : Env0 P w K mg base A outer s H) (hl : vs.length = ps.length) (r : Vals vs us)
    (hns : h₁.Ns s.heap.objs.size fun y => (ps.zip us).reverse.lookup y) (kp : ∀ b o, s.heap.get? b = some o → h₁.get? b = some o) :
    Inv (cxS P w K mg base ps qual scope f cda cc A outer s H) [] (L2.start ps vs) H { s with heap := h₁, toks := tk } := by
  obtain ⟨cl, cld, csl, hcell⟩ := D.cell
  have KX : K.In base := e0.mod.kin
  have bcc : base.get? cc = some ⟨cl, cld, .cell (some (.ref C)), csl⟩ := KX _ _ hcell
  have hcc := (e0.bs _ _ bcc)
  have cm : ∀ {y c}, ([(("__class__" : Str), cc)] : List (Str × Addr)).lookup y = some c → y = ("__class__" : Str) ∧ c = cc := fun {y c} e => by
    rcases List.mem_cons.mp (PySem.mem_of_lookup e) with z | z
    · cases z; exact ⟨rfl, rfl⟩
    · cases z
  have noA : ∀ b : Addr, b ∉ (cxS P w K mg base ps qual scope f cda cc A outer s H).ex := fun b z => absurd (show b ∈ ([] : List Addr) from z) (by simp)
  refine ⟨⟨e0.mod, S.kind, rfl, rfl, Nat.le_refl _, fun y z c e1 e2 => (cm e1).1.trans (cm e2).1.symm, fun y hy => ?_, fun y c z _ => ?_, fun _ => hd, Around.frames_deeper e0.frames, .inr ⟨rfl, rfl⟩, fun b z => absurd z (noA b), e0.bs, e0.bsz, fun b _ _ => noA b,
      fun b z => absurd z (noA b), e0.funs, e0.frf⟩,
    rfl, e0.bare, Un.kept kp, ⟨_, hns, fun i y v e1 e2 e3 => ?_⟩, fun y c e => ?_, e0.hok.fresh (Nat.le_refl _), fun y c e => ?_, fun q hq => absurd (show q ∈ ([] : List (Addr × Obj)) ++ [] from hq) (by simp), e0.hok.kept kp, ?_⟩
  · have hy : scope.names.lookup y = some .cell ∨ scope.names.lookup y = some .free := hy
    rcases hy with hy | hy
    · exact absurd rfl (S.nocell _ (PySem.mem_of_lookup hy))
    · have e := S.free _ (PySem.mem_of_lookup hy) rfl
      have e : y = ("__class__" : Str) := e
      subst e
      exact ⟨cc, by show List.lookup _ [(_, cc)] = _; simp [List.lookup]⟩
  · have z : false = true := z
    cases z
  · have e1 : ps[i]? = some y := e1
    have hi : i < ps.length := (List.getElem?_eq_some_iff.mp e1).1
    have ha : vs[i]? = some v := by
      unfold L2.start at e2
      rw [List.getElem?_append_left (by simpa [hl] using hi), List.getElem?_map] at e2
      cases q : vs[i]? with
      | none => rw [q] at e2; cases e2
      | some a => rw [q] at e2; cases e2; rfl
    obtain ⟨u, hu, rv⟩ := r.get ha
    refine ⟨u, rv, .inl ⟨S.loc y (List.mem_of_getElem? e1), ?_⟩⟩
    have hul : us.length = ps.length := r.length.symm.trans hl
    refine lookup_rev ?_ (zip_lookup S.nd e1 hu)
    rw [List.map_fst_zip (by omega)]
    exact S.nd
  · obtain ⟨_, rfl⟩ := cm e
    exact ⟨_, _, kp _ _ hcc.1, rfl⟩
  · obtain ⟨_, rfl⟩ := cm e
    exact hcc.2
  · unfold L2.start
    show _ = ps.length
    rw [List.length_append, List.length_map, List.length_replicate]
    omega
theorem sup_cw {M : Model} {A : Around} {E : Value → Shared → Prop} {s : Shared} {i : String} {u a : Addr} {pos : Pos} {env : PySem.Env} {e : Expr} {Q : Value → Shared → Prop} (hse : starEach [e] env = [(false, eval e env)])
    (h : wpAny M A (spliced (backTo pos (starEach [e] env))) (fun vs s₁ => PySem.W.KxsAt i u a s₁.heap ∧ wpAny M A (call (.ref u) vs) Q E s₁) E s) : wpAny M A (callWith pos (.ref u) [] (backTo pos (starEach [e] env)) []) Q E s := by
  rw [hse] at h ⊢
  exact PySem.W.kxs_callWith (i := i) (x := a) rfl (PySem.Calls.evalArgs_plain h)
/-- the reading of such a body: the text is made, the rest runs -/
def tSup (K : PySem.W.Frag) (C : Addr) (ta : TA) (tr : TS) : TS := fun D σ H => ∃ a, σ[0]? = some (some (.ref a)) ∧ H a = some (exo a C none) ∧ ta σ H fun vs H1 => vs.length ≤ 1000 ∧ H1 a = some (exo a C none) ∧ tr D σ H1
theorem fn_sup {k : Nat} {sp : Sp} {e : Expr} {p0 p1 p2 p3 p4 : Pos} {rest : List Stmt} (T : SupC K C) (D : SupD P K C x qual params (.Expr (.Call (.Attribute (.Call (.Name "super" p0) [] [] p1) "__init__" p2) [e] [] p3) p4 :: rest) scope f fd cc cda) (S : SupS ps params scope) (hmg : mg "super" = none)
    (len : ∀ vs H Q E, sp vs H Q E → vs.length = ps.length)
    (hbody : ∀ (A : Around) (outer : List PySem.Env) (s : Shared) (H : Hp), Room k (A.deeper (supEnv qual scope s.heap.objs.size f cda cc)) →
      ∃ ta tr, PA (cxS P w K mg base ps qual scope f cda cc A outer s H) [e] ta ∧ PSs (cxS P w K mg base ps qual scope f cda cc A outer s H) rest tr ∧ ∀ (vs : List V) (Q : VK) (E : XK), sp vs H Q E → tSup K C ta tr { nx := fun _ H' => Q .non H', rt := Q } (L2.start ps vs) H)
    (hev : ∀ env : PySem.Env, ∃ pl : Sem Bool, eval (.Call (.Attribute (.Call (.Name "super" p0) [] [] p1) "__init__" p2) [e] [] p3) env = (do
      let ov ← attributeBase (.Call (.Name "super" p0) [] [] p1) "__init__" env (eval (.Call (.Name "super" p0) [] [] p1) env)
      standAt p2.atName
      let (f, first) ← holding [ov] (getMethod ov "__init__" pl)
      callWith p3 f first (backTo p3 (starEach [e] env)) []))
    (hsw : ∀ (A : Around) (outer : List PySem.Env) (s : Shared) (H : Hp), starEach [e] (supEnv qual scope s.heap.objs.size f cda cc) = [(false, eval e (supEnv qual scope s.heap.objs.size f cda cc))]) : FnOk P w K mg base CX0 (k + 1) f fd ps sp := by
  have D0 := D
  obtain ⟨oc, od, kV, doc, pm, an, ct, osl, rfl, lk, hcd⟩ := D.ex
  refine ⟨len, fun A outer s H args us vs Q E hr e0 hb r hsp => ?_⟩
  have hl := len _ _ _ _ hsp
  have KX : K.In s.heap := e0.mod.kin.keeps fun b o e => (e0.bs b o e).1
  have lim : s.heap.NoLimit := e0.mod.nolimit.keeps fun b o e => (e0.bs b o e).1
  refine ks_codeAny_call_defAt (fd := PySem.W.ksFn x qual params (.Expr (.Call (.Attribute (.Call (.Name "super" p0) [] [] p1) "__init__" p2) [e] [] p3) p4 :: rest) scope .none kV doc pm an (.ref cda) ct cc) (body := .Expr (.Call (.Attribute (.Call (.Name "super" p0) [] [] p1) "__init__" p2) [e] [] p3) p4 :: rest) (binds := ps.zip us) hr.depth (KX _ _ lk) rfl lim (PySem.W.codeRec_of KX hcd) rfl hb S.nocell (fun y hy => S.loc _ (List.of_mem_zip hy).1) (fun h₁ hns hk₁ => ?_) S.co S.gen S.kind
  obtain ⟨ta, tr, ha, htr, hq⟩ := hbody A outer s H (hr.deeper _)
  have I := inv_sup (tk := s.toks + (ps.zip us).length) D0 S hr.hd e0 hl r hns hk₁
  obtain ⟨a, hs0, hexo, hta⟩ := hq vs Q E hsp
  have hse := hsw A outer s H
  obtain ⟨cl, cld, csl, hcell⟩ := D.cell
  obtain ⟨ccl, cdd, vsC, ccs, file, tf, hcode, hvs, hfile⟩ := D.code
  obtain ⟨ar, har, har0⟩ := S.hd
  obtain ⟨nm, q, N, bs, bm, sn, sub, ab, col, dd, k0, k1, k2, k3, k5, hC, hbm⟩ := T.oex.cls
  have hcl : PySem.W.clsIn K C = some { name := nm, bases := bs, mro := .ref C :: bm, ns := N, qualname := q, hasDict := true, slotNames := sn, subclasses := sub, abstract := ab, collection := col, hasDel := false } := by unfold PySem.W.clsIn; rw [hC] <;> rfl
  have hsu := T.su
  unfold PySem.W.ks_superIn at hsu
  rw [hcl] at hsu
  have X1 : K.In h₁ := KX.keeps hk₁
  obtain ⟨t1, ho⟩ := exo_at I.hok hexo
  obtain ⟨mb, hmb1, hmb2⟩ := e0.mod.blt
  -- self
  have hv : (ps.zip us).reverse.lookup ar.arg = some (.ref a) := by
    have hi : 0 < ps.length := (List.getElem?_eq_some_iff.mp har0).1
    have hv0 : vs[0]? = some (.ref a) := by
      unfold L2.start at hs0
      rw [List.getElem?_append_left (by simpa [hl] using hi), List.getElem?_map] at hs0
      cases z : vs[0]? with
      | none => rw [z] at hs0; cases hs0
      | some b => rw [z] at hs0; cases hs0; rfl
    obtain ⟨u, hu, rv⟩ := r.get hv0
    obtain rfl : u = Value.ref a := rv
    have hul : us.length = ps.length := r.length.symm.trans hl
    refine lookup_rev ?_ (zip_lookup S.nd har0 hu)
    rw [List.map_fst_zip (by omega)]
    exact S.nd
  have har' : scope.names.lookup ar.arg = some .local := S.loc _ (List.mem_of_getElem? har0)
  obtain ⟨hp, g0, d0, tt, os0⟩ := s
  have kb : ∀ b o, base.get? b = some o → h₁.get? b = some o := fun b o e => hk₁ b o (e0.bs b o e).1
  obtain ⟨pl, hpl⟩ := hev (supEnv qual scope hp.objs.size f cda cc)
  show PySem.wpAt (model P w) (A.deeper (supEnv qual scope hp.objs.size f cda cc)) (.func _ (supEnv qual scope hp.objs.size f cda cc)) (execs _ (supEnv qual scope hp.objs.size f cda cc)) _ _ _
  refine ks_wpAt_execs_cons (ks_wpAt_Expr_any (ks_wpAt_MethodCall ?_ hpl) I.quiet)
  refine ks_wpAt_super_base (env := supEnv qual scope hp.objs.size f cda cc) S.su S.cl (by decide) rfl (X1 _ _ lk) rfl har rfl (X1 _ _ hcode) rfl hvs hfile D.top ?_
  refine PySem.W.ks_loadName_global S.kind S.su (Calls.loadGlobal_builtin (env := supEnv qual scope hp.objs.size f cda cc) (e0.mod.glob.keeps kb) hmg (hmb1.keeps kb) ((hmb2 "super" (by decide)).trans (show bootBuiltins "super" = some (.type "super") by decide +kernel)) ⟨rfl, ?_⟩)
  refine wpAny_loadName_free S.kind S.cl rfl ⟨_, X1 _ _ hcell, rfl⟩ ?_
  refine wpAny_loadName_local S.kind har' hns hv ?_
  refine ks_wpAny_isType_cls (X1 _ _ hC) rfl ⟨rfl, ?_⟩
  refine ks_wpAny_call_super (X1 _ _ hC) rfl ho rfl (fun c z => by cases z) (PySem.W.looks_mroIn X1 T.me) (fun h2 e2 k2 => ?_)
  have X2 : K.In h2 := X1.keeps k2
  have ho2 := k2 _ _ ho
  have In2 : PySem.W.InstAt h2 a { cls := .ref C, dict := none, data := .fields #[.ref t1, .none, .none, .none, .bool false, .none] } C none := ⟨ho2, rfl, rfl, trivial⟩
  refine PySem.W.kxs_getMethod PySem.W.kxs_ValueError (l₀ := .ref C :: bm) e2 (PySem.W.looks_opaque X2 T.op) (fun A Q E s k q => wpAny_bind ((PySem.W.looks_clsIn X2 hcl) A _ E s k (wpAny_pure q))) rfl X2 hsu (In2.type.andThen (PySem.W.looks_subIn X2 T.ve)) (PySem.W.ks_ne X2 In2 hcl) (by decide) ?_
  show wpAny _ _ (callWith p3 (.ref h2.objs.size) [] (backTo p3 (starEach [e] (supEnv qual scope hp.objs.size f cda cc))) []) _ _ _
  have kk : ∀ b o, h₁.get? b = some o → (h2.push (PySem.W.kxs_mw "ValueError.__init__" a)).get? b = some o := fun b o z => Heap.get?_push_of_some _ (k2 b o z)
  have hu : (h2.push (PySem.W.kxs_mw "ValueError.__init__" a)).get? h2.objs.size = some (PySem.W.kxs_mw "ValueError.__init__" a) := Heap.get?_push_at rfl rfl
  have I2 := I.kept (t' := tt + (ps.zip us).length + 1) kk
  have sz : h₁.objs.size ≤ h2.objs.size := Nat.le_of_lt (Heap.lt_size e2)
  have I3 := I2.pins_of (pins' := [(h2.objs.size, PySem.W.kxs_mw "ValueError.__init__" a)]) (fun p hp => by
    rw [List.mem_singleton.mp hp]
    exact ⟨hu, I.hok.fresh sz, Nat.ne_of_gt (Nat.lt_of_lt_of_le I.lt sz), I.nofs sz, fun v z => by cases z⟩)
  refine sup_cw (i := "ValueError.__init__") (a := a) hse ?_
  refine wpAny_mono (ha.run p3 _ _ _ H _ I3 hta) (fun us1 s4 ⟨vs1, H1, I4, r4, hlen, hexo1, q4⟩ => ?_) (fun _ _ z => False.elim z)
  have hu4 : s4.heap.get? h2.objs.size = some (PySem.W.kxs_mw "ValueError.__init__" a) := (I4.pin (h2.objs.size, PySem.W.kxs_mw "ValueError.__init__" a) (List.mem_append_right _ (List.mem_singleton.mpr rfl))).1
  refine ⟨hu4, ?_⟩
  obtain ⟨t4, ho4⟩ := exo_at I4.hok hexo1
  have X4 : K.In s4.heap := I4.kIn
  have hz : us1.length ≤ sizeLine := by
    rw [← r4.length, sizeLine_eq]
    omega
  obtain ⟨hp4, g4, d4, tk4, os4⟩ := s4
  refine wpAny_call (codeAny_of_tree ?_)
  show wpAny _ (Around.in1 _) (callAny (.ref h2.objs.size) ⟨us1, []⟩) _ _ _
  simp only [callAny]
  refine wpAny_bind (wpAny_load hu4 ?_)
  simp only [PySem.W.kxs_mw, show (Value.type "method-wrapper" == Value.type "method" || Value.type "method-wrapper" == Value.type "builtin_function_or_method" || Value.type "method-wrapper" == Value.type "method-wrapper") = true by decide, if_true]
  refine PySem.W.KFB.if_so (by decide) ?_
  refine wpAny_bind (PySem.W.check_bound_init F.excBase_ValueError.toExcCallFacts (X4 _ _ hC) ho4 rfl ?_)
  refine wpAny_bind (wpAny_pure (wpAny_pure ?_))
  refine ⟨plainId_quiet F.excBase_ValueError.init.plain _, codeAny_builtin F.excBase_ValueError.initEntry ?_⟩
  refine PySem.W.exc_init_tree (cls := .ref C) (t0 := t4) (dv := none) (c2 := .none) (c3 := .none) (b4 := .bool false) ho4 hz fun h5 k5' e5 _ => ?_
  have J := I4.write (t' := tk4) (x := a) (e := a) (o := exo a C none) (by rw [hexo1]; exact True.intro) (.inl rfl) k5' ⟨_, e5⟩ (exo_ok e5)
  have eu : upd H1 a (exo a C none) = H1 := by
    funext b
    by_cases hb : b = a
    · rw [hb, upd_same, hexo1]
    · rw [upd_ne hb]
  rw [eu] at J
  have J := J.pins_of (pins' := []) (fun p hp => by cases hp)
  refine PySem.wpAt_of_wpAny (wpAny_mono (htr.run [] _ _ H1 _ J q4) (fun fl s' hs => ?_) (fun _ _ z => False.elim z))
  have fin : ∀ {σ' : L2.St} {H' : Hp} {v : V} {u : Value}, Inv (cxS P w K mg base ps qual scope f cda cc A outer ⟨hp, g0, d0, tt, os0⟩ H) [] σ' H' s' → RelV v u → Q v H' → CE outer P w H ⟨hp, g0, d0, tt, os0⟩ Q u s' :=
    fun {σ' H' v u} J rv q => ⟨v, H', J.os, J.bare, J.base, J.hok, rv, q⟩
  cases fl with
  | ret u =>
    obtain ⟨v, σ', H', J, rv, q⟩ := hs
    exact fin J rv q
  | next =>
    obtain ⟨σ', H', J, q⟩ := hs
    exact fin (v := V.non) (u := Value.none) J rfl q
  | brk =>
    obtain ⟨_, _, _, q⟩ := hs
    exact False.elim q
  | cont =>
    obtain ⟨_, _, _, q⟩ := hs
    exact False.elim q
end
end Fp

/-! ## function values: a lambda that captures nothing, made in a def, called anywhere below; a def of the top handed on -/
namespace Fp
open PySem PySem.Spec PyProof.Rows L2
/-- at f: the lambda's function object, its code at c -/
def lamO (f : Addr) (q : Str) (params : Arguments) (body : Expr) (scope : Scope) (c : Addr) : HO := .ext fun h => ∃ pm ctv : Value, h.get? f = some (PySem.W.kla_obj "<lambda>" q params body scope [] pm c ctv)
theorem lamO_ok {P : Program} {w : World} {H : Hp} {h : Heap} {f c : Addr} {q : Str} {params : Arguments} {body : Expr} {scope : Scope} {pm ctv : Value} (e : h.get? f = some (PySem.W.kla_obj "<lambda>" q params body scope [] pm c ctv)) : ObjOk P w H h f (lamO f q params body scope c) :=
  ⟨⟨pm, ctv, e⟩, ⟨_, e⟩, fun _ _ ⟨pm, ctv, z⟩ st => ⟨pm, ctv, st _ z⟩⟩
theorem lamO_at {P : Program} {w : World} {H : Hp} {h : Heap} {f c : Addr} {q : Str} {params : Arguments} {body : Expr} {scope : Scope} (hok : HOk P w H h) (e : H f = some (lamO f q params body scope c)) : ∃ pm ctv, h.get? f = some (PySem.W.kla_obj "<lambda>" q params body scope [] pm c ctv) := by
  have x : ObjOk P w H h f (.ext fun h => ∃ pm ctv : Value, h.get? f = some (PySem.W.kla_obj "<lambda>" q params body scope [] pm c ctv)) := hok f _ e
  exact x.1
/-- what the making asks of the maker's table at P: it knows code objects of this name alone -/
def Tbl (H : Hp) (P : Addr) (q : Str) (ps : Array Value) : Prop := H P = some (.tbl ps) ∧ TriplesOk ps.toList ∧ ∀ (pos : Pos) (cv : Value), codeAmong pos ps.toList = some cv → ∃ c, cv = .ref c ∧ H c = some (LamX.CodeO c q)
/-- the lambda's names: parameters alone -/
structure LamN (ps : List Str) (scope : Scope) : Prop where
  kind : scope.kind = .function
  co : scope.isCoroutine = false
  gen : scope.isGenerator = false
  nd : ps.Nodup
  loc : ∀ y ∈ ps, scope.names.lookup y = some .local
  own : ∀ y ∈ scope.names, y.2 ≠ .cell ∧ y.2 ≠ .free
theorem clo_nil {cells : List (Str × Addr)} : ∀ {names : List (Str × NameKind)}, (∀ y ∈ names, y.2 ≠ .free) → cloFrom cells names [] = []
  | [], _ => rfl
  | (x, k) :: r, h => by
    have hk : k ≠ .free := h (x, k) List.mem_cons_self
    have ih := clo_nil (cells := cells) (names := r) fun y hy => h y (List.mem_cons_of_mem _ hy)
    cases k <;> first
      | exact absurd rfl hk
      | exact ih
/-- lambda ..: made anew, or its code found in the table -/
def tLamV (P : Addr) (q : Str) (params : Arguments) (body : Expr) (scope : Scope) : TE := fun _ H Q => ∃ ps, Tbl H P q ps ∧
  (∀ (c f : Addr) (more : Array Value), H c = none → H f = none → f ≠ c → TriplesOk (ps ++ more).toList → (∀ (pos : Pos) (cv : Value), codeAmong pos (ps ++ more).toList = some cv → codeAmong pos ps.toList = some cv ∨ cv = .ref c) → Q (.ref f) (upd (upd (upd H P (.tbl (ps ++ more))) c (LamX.CodeO c q)) f (lamO f q params body scope c))) ∧
  (∀ (c f : Addr) (pos : Pos), codeAmong pos ps.toList = some (.ref c) → H c = some (LamX.CodeO c q) → H f = none → Q (.ref f) (upd H f (lamO f q params body scope c)))
section
variable {X : Cx} {c P : Addr} {params : Arguments} {body : Expr} {scope : Scope} {pos : Pos}
theorem pe_lamV {ps : List Str} (TB : LamX.TabB X.base X.mg c P) (hcode : X.env.code = .ref c) (L : LamN ps scope) (hdef : defaultsOf params X.env = ([], [])) : PE X (.Lambda params body scope pos) (tLamV P (X.env.qual ++ "<lambda>") params body scope) := by
  refine ⟨fun pins s σ H Q I ⟨ps, ⟨hP, ht, ha⟩, hnew, hold⟩ => PySem.W.kla_eval hdef ?_⟩
  have bP : s.heap.BuiltinsAt X.mg P := TB.bm.keeps I.bk
  have oP : s.heap.get? P = some { cls := .none, data := .fields ps } := I.hok P _ hP
  have hcl : closureFor scope X.env = pure [] := by
    have z := closure_ok (scope := scope) (env := X.env) fun y hy e => absurd e (L.own y hy).2
    rwa [clo_nil fun y hy => (L.own y hy).2] at z
  cases hc : codeAmong pos ps.toList with
  | none =>
    refine PySem.W.kla_makeFunction hcl I.ok.glob (I.mod.glob.keeps I.bk) hcode (TB.code.keeps I.bk) oP ht hc TB.gP bP fun c' ctv h' tk hx hge hlt ⟨c2, oc, vs, t, e2, hoc, hd, hv⟩ htb => ?_
    cases e2
    have nC : H c' = none := I.hok.fresh hge
    have hsz : s.heap.objs.size ≤ h'.objs.size := Nat.le_trans hge (Nat.le_of_lt hlt)
    have nF : H h'.objs.size = none := I.hok.fresh hsz
    have I0 := LamX.inv_table (t' := tk) (more := #[rawInt pos.line, rawInt pos.col, .ref c']) (h' := h') (q := X.env.qual ++ "<lambda>") I hP (fun b o hb e => hx b o hb e) htb hge ⟨oc, vs, t, hoc, hd, hv⟩
    have I1 := I0.laid (t' := tk) (a := h'.objs.size) (o := lamO h'.objs.size (X.env.qual ++ "<lambda>") params body scope c') (h' := h'.push (PySem.W.kla_obj "<lambda>" (X.env.qual ++ "<lambda>") params body scope [] ((X.mg "__name__").getD .none) c' ctv)) (fun b o e => Heap.get?_push_of_some _ e) (Nat.le_refl _) (lamO_ok (Heap.get?_push_size _ rfl))
    have eL : (ps ++ #[rawInt pos.line, rawInt pos.col, .ref c']).toList = ps.toList ++ [rawInt pos.line, rawInt pos.col, .ref c'] := by simp
    exact ⟨.ref h'.objs.size, _, I1, rfl, hnew c' h'.objs.size _ nC nF (Nat.ne_of_gt hlt) (by rw [eL]; exact PySem.TriplesOk_snoc _ _ _ _ ht) fun p' cv e => by rw [eL] at e; exact LamX.among_app _ ht e⟩
  | some cv =>
    obtain ⟨c', e, hco⟩ := ha pos cv hc
    subst e
    refine PySem.W.kla_makeFunctionHit hcl I.ok.glob (I.mod.glob.keeps I.bk) hcode (TB.code.keeps I.bk) oP ht hc bP fun ctv h' tk hx hsz => ?_
    have I1 := (I.kept (t' := tk) hx).laid (t' := tk) (a := h'.objs.size) (o := lamO h'.objs.size (X.env.qual ++ "<lambda>") params body scope c') (h' := h'.push (PySem.W.kla_obj "<lambda>" (X.env.qual ++ "<lambda>") params body scope [] ((X.mg "__name__").getD .none) c' ctv)) (fun b o e => Heap.get?_push_of_some _ e) (Nat.le_refl _) (lamO_ok (Heap.get?_push_size _ rfl))
    exact ⟨.ref h'.objs.size, _, I1, rfl, hold c' h'.objs.size pos hc hco (I.hok.fresh hsz)⟩
end
/-! ### its call -/
abbrev lamE (q : Str) (scope : Scope) (L f c : Addr) : PySem.Env := PySem.W.envX q scope L f (.ref c) []
def cxV (P : Program) (w : World) (K : PySem.W.Frag) (mg : Str → Option Value) (base : Heap) (N : List Str) (q : Str) (scope : Scope) (f c : Addr) (A : Around) (outer : List PySem.Env) (s : Shared) (H : Hp) : Cx where
  prog := P
  w := w
  K := K
  mg := mg
  base := base
  A := A.deeper (lamE q scope s.heap.objs.size f c)
  N := N
  s_0 := s
  H_0 := H
  env := lamE q scope s.heap.objs.size f c
  outer := outer
  stack := lamE q scope s.heap.objs.size f c :: outer
  ex := []
  calm := true
  fn := fun _ => false
  pn := []
  xe := fun _ _ => False
/-- the lambda keeps a promise -/
structure LamOk (P : Program) (w : World) (K : PySem.W.Frag) (mg : Str → Option Value) (base : Heap) (k : Nat) (q : Str) (params : Arguments) (body : Expr) (scope : Scope) (ps : List Str) (sp : Sp) : Prop where
  nm : LamN ps scope
  len : ∀ vs H Q E, sp vs H Q E → vs.length = ps.length
  bind : ∀ (pm cv ctv : Value) (us : List Value), us.length = ps.length → bindArgs (PySem.W.kla_fn "<lambda>" q params body scope [] pm cv ctv) ⟨us, []⟩ = pure (ps.zip us)
  body : ∀ (f c : Addr) (A : Around) (outer : List PySem.Env) (s : Shared) (H : Hp), Room k (A.deeper (lamE q scope s.heap.objs.size f c)) → ∃ t, PE (cxV P w K mg base ps q scope f c A outer s H) body t ∧ ∀ (vs : List V) (Q : VK) (E : XK), sp vs H Q E → t (L2.start ps vs) H Q
section
variable {P : Program} {w : World} {K : PySem.W.Frag} {mg : Str → Option Value} {base : Heap} {k : Nat} {q : Str} {params : Arguments} {body : Expr} {scope : Scope} {ps : List Str} {sp : Sp}
theorem lam_run {f c : Addr} {A : Around} {outer : List PySem.Env} {s : Shared} {H : Hp} {us : List Value} {vs : List V} {Q : VK} {E : XK} (L : LamOk P w K mg base k q params body scope ps sp) (hf : H f = some (lamO f q params body scope c)) (hc : H c = some (LamX.CodeO c q)) (hr : Room (k + 1) A) (e0 : Env0 P w K mg base A outer s H) (r : Vals vs us) (hsp : sp vs H Q E) :
    codeAny (model P w) A (.call (.ref f) ⟨us, []⟩) (CR CX0 outer P w H s Q E) s := by
  have hl := L.len _ _ _ _ hsp
  have hul : us.length = ps.length := r.length.symm.trans hl
  obtain ⟨pm, ctv, of⟩ := lamO_at e0.hok hf
  obtain ⟨⟨oc, vs', t, hoc, hd, hv⟩, _, _⟩ := e0.hok c _ hc
  have lim : s.heap.NoLimit := e0.mod.nolimit.keeps fun b o e => (e0.bs b o e).1
  refine PySem.W.kla_callFunE hr.depth of rfl L.nm.co L.nm.gen rfl ⟨c, oc, vs', t, rfl, hoc, hd, hv⟩ ?_
  rw [L.bind _ _ _ us hul]
  refine wpAny_pure (wpAny_newFunctionEnv (fun y hy => (L.nm.own y hy).1) (fun y hy => L.nm.loc _ (List.of_mem_zip hy).1) (fun h₁ hns hsb => ⟨lim.fresh _ hsb, ?_⟩) L.nm.kind)
  show codeAny _ _ (.expr body (lamE q scope s.heap.objs.size f c)) _ _
  have kp : ∀ b o, s.heap.get? b = some o → h₁.get? b = some o := fun b o e => hsb.extBut b o (Nat.ne_of_lt (Heap.lt_size e)) (Heap.get?_push_of_some _ e)
  have noA : ∀ b : Addr, b ∉ (cxV P w K mg base ps q scope f c A outer s H).ex := fun b z => absurd (show b ∈ ([] : List Addr) from z) (by simp)
  have noC : ∀ {y : Str} {a : Addr}, (cxV P w K mg base ps q scope f c A outer s H).env.cells.lookup y = some a → False := fun {y a} z => nomatch (show ([] : List (Str × Addr)).lookup y = some a from z)
  have J : Inv (cxV P w K mg base ps q scope f c A outer s H) [] (L2.start ps vs) H { s with heap := h₁, toks := s.toks + (ps.zip us).length } := by
    refine ⟨⟨e0.mod, L.nm.kind, rfl, rfl, Nat.le_refl _, fun y z a e1 _ => (noC e1).elim, fun y hy => ?_, fun y a _ e => (noC e).elim, fun _ => hr.hd, Around.frames_deeper e0.frames, .inr ⟨rfl, rfl⟩, fun b z => absurd z (noA b), e0.bs, e0.bsz, fun b _ _ => noA b, fun b z => absurd z (noA b), e0.funs, e0.frf⟩,
      rfl, e0.bare, Un.kept kp, ⟨_, hns, fun i y v e1 e2 e3 => ?_⟩, fun y a e => (noC e).elim, e0.hok.fresh (Nat.le_refl _), fun y a e => (noC e).elim, fun q hq => absurd (show q ∈ ([] : List (Addr × Obj)) ++ [] from hq) (by simp), e0.hok.kept kp, ?_⟩
    · have hy : scope.names.lookup y = some .cell ∨ scope.names.lookup y = some .free := hy
      rcases hy with hy | hy
      · exact absurd rfl (L.nm.own _ (PySem.mem_of_lookup hy)).1
      · exact absurd rfl (L.nm.own _ (PySem.mem_of_lookup hy)).2
    · have e1 : ps[i]? = some y := e1
      have hi : i < ps.length := (List.getElem?_eq_some_iff.mp e1).1
      have ha : vs[i]? = some v := by
        unfold L2.start at e2
        rw [List.getElem?_append_left (by simpa [hl] using hi), List.getElem?_map] at e2
        cases z : vs[i]? with
        | none => rw [z] at e2; cases e2
        | some a => rw [z] at e2; cases e2; rfl
      obtain ⟨u, hu, rv⟩ := r.get ha
      refine ⟨u, rv, .inl ⟨L.nm.loc y (List.mem_of_getElem? e1), lookup_rev ?_ (zip_lookup L.nm.nd e1 hu)⟩⟩
      rw [List.map_fst_zip (by omega)]
      exact L.nm.nd
    · unfold L2.start
      show _ = ps.length
      rw [List.length_append, List.length_map, List.length_replicate]
      omega
  obtain ⟨t, ht, hq⟩ := L.body f c A outer s H (hr.deeper _)
  refine PySem.W.kla_codeExpr (wpAny_mono (ht.run [] _ _ H Q J (hq vs Q E hsp)) (fun v s' ⟨w', H', J', rv, z⟩ => ?_) fun e s' z => False.elim z)
  exact ⟨w', H', J'.os, J'.bare, J'.base, J'.hok, rv, z⟩
/-- what is callable at f, with the promise sp, while the heap is H -/
def Callable (P : Program) (w : World) (K : PySem.W.Frag) (mg : Str → Option Value) (base : Heap) (k : Nat) (sp : Sp) (M : List Addr) (H : Hp) (f : Addr) : Prop :=
  (∃ fd ps, FnOk P w K mg base CX0 k f fd ps sp ∧ PySem.W.keepIn K (.ref f) = true ∧ Binds K fd ps []) ∨
    ∃ j c q params body scope ps, k = j + 1 ∧ LamOk P w K mg base j q params body scope ps sp ∧ f ∉ M ∧ c ∉ M ∧ H f = some (lamO f q params body scope c) ∧ H c = some (LamX.CodeO c q)
end
/-- f(e, ..), f in slot i -/
def tCallV (P : Program) (w : World) (K : PySem.W.Frag) (mg : Str → Option Value) (base : Heap) (k i : Nat) (sp : Sp) (t : TA) : TE := fun σ H Q => ∃ f, σ[i]? = some (some (.ref f)) ∧
  (((∃ fd ps, FnOk P w K mg base CX0 k f fd ps sp ∧ PySem.W.keepIn K (.ref f) = true ∧ Binds K fd ps []) ∧ t σ H fun vs H1 => sp vs H1 Q E0) ∨
    ∃ j c q params body scope ps, k = j + 1 ∧ LamOk P w K mg base j q params body scope ps sp ∧ H f = some (lamO f q params body scope c) ∧ t σ H fun vs H1 => H1 f = some (lamO f q params body scope c) ∧ H1 c = some (LamX.CodeO c q) ∧ sp vs H1 Q E0)
theorem pe_callV {X : Cx} {k i : Nat} {sp : Sp} {x : Str} {p pos : Pos} {e : Expr} {es : List Expr} {t : TA} (hr : Room k X.A) (hN : X.N[i]? = some x) (hv : Vis X.env.scope x) (ha : PA X (e :: es) t)
    (hdb : (x == ("__debug__" : Str)) = false := by decide) (hcd : (x == ("__classdict__" : Str)) = false := by decide)
    (he : starEach (e :: es) X.env = (false, eval e X.env) :: starEach es X.env := by rfl) (hpl : (backTo pos (starEach es X.env)).any (·.1) = false := by rfl) : PE X (.Call (.Name x p) (e :: es) [] pos) (tCallV X.prog X.w X.K X.mg X.base k i sp t) := by
  refine ⟨fun pins s σ H Q I ⟨f, hs, h⟩ => wpAny_Call_Name_kw (thn ((pe_var (pos := p) hN hv hdb hcd).run pins s σ H (fun v H1 => v = .ref f ∧ H1 = H) I ⟨.ref f, hs, rfl, rfl⟩) fun u s1 ⟨v, H1, I1, r1, ev, eH⟩ => ?_)⟩
  subst ev eH
  cases r1
  rcases h with ⟨⟨fd, ps, F, hk, hb⟩, ht⟩ | ⟨j, c, q, params, body, scope, ps, rfl, L, hf, ht⟩
  · refine PySem.W.callWith_K (h₀ := X.base) I.ok.mod.kin hk (thn (ha.run pos pins s1 σ _ _ I1 ht) fun us s2 ⟨vs, H2, I2, r, z⟩ => ⟨I2.kIn, ?_⟩) he hpl
    exact run_fn F hr hb .nil pass0 I2 r (by rw [List.append_nil]; exact z)
  · have at_ : ∀ {H' : Hp} {s' : Shared}, Inv X pins σ H' s' → H' f = some (lamO f q params body scope c) → PySem.W.FnAt f s'.heap := fun I' e' => by
      obtain ⟨pm, ctv, e⟩ := lamO_at I'.hok e'
      exact ⟨_, _, _, _, e⟩
    refine PySem.W.callWith_F (at_ I1 hf) (thn (ha.run pos pins s1 σ _ _ I1 ht) fun us s2 ⟨vs, H2, I2, r, h1, h2, z⟩ => ⟨at_ I2 h1, ?_⟩) he hpl
    refine wpAny_call (codeAny_mono (lam_run L h1 h2 hr I2.env0 r z) fun rr s' hq => ?_)
    cases rr with
    | error e => exact (show False from hq).elim
    | ok fl =>
      cases fl with
      | ret u => exact I2.after hq
      | next => exact False.elim hq
      | brk => exact False.elim hq
      | cont => exact False.elim hq
end Fp

/-! ## trees: a number, or a tuple of two trees -/
namespace Fp
open PySem L2
inductive Tree where
  | leaf (i : Int)
  | node (l r : Tree)
def Tree.isNode : Tree → Bool
  | .leaf _ => false
  | .node _ _ => true
def Tree.height : Tree → Nat
  | .leaf _ => 0
  | .node l r => max l.height r.height + 1
def Tree.letters : Tree → List Int
  | .leaf i => [i]
  | .node l r => l.letters ++ r.letters
def Tree.ev {α : Type} (d : Int → α) (op : α → α → α) : Tree → α
  | .leaf i => d i
  | .node l r => op (l.ev d op) (r.ev d op)
def Tree.cls : Tree → String
  | .leaf _ => "int"
  | .node _ _ => "tuple"
def trep (K : PySem.W.Frag) (M : List Addr) (H : Hp) : Tree → V → Prop
  | .leaf i, v => v = .int i
  | .node l r, v => ∃ a x y, v = .ref a ∧ TupAt K M H a [x, y] ∧ trep K M H l x ∧ trep K M H r y
section
variable {K : PySem.W.Frag}
theorem trep_imp {M M' : List Addr} {H H' : Hp} (f : ∀ a vs, TupAt K M H a vs → TupAt K M' H' a vs) : ∀ {T : Tree} {v : V}, trep K M H T v → trep K M' H' T v
  | .leaf _, _, h => h
  | .node _ _, _, ⟨a, x, y, e, h, h1, h2⟩ => ⟨a, x, y, e, f a _ h, trep_imp f h1, trep_imp f h2⟩
def yTree (K : PySem.W.Frag) : Ty Tree where
  rep := fun M H v T => trep K M H T v
  keep := fun k h => trep_imp (fun _ _ z => z.keep k) h
  less := fun s h => trep_imp (fun _ _ z => z.less s) h
  more := fun f h => trep_imp (fun _ _ z => z.more f) h
theorem ty_tup {M : List Addr} {H : Hp} {a : Addr} {vs : List V} (h : TupAt K M H a vs) : TyX K H (.ref a) (.type "tuple") := by
  rcases h with ⟨_, h⟩ | h
  · exact .base (.tup h)
  · rcases h with h | ⟨o, its, n, h1, h2, _⟩
    · rcases h with h | ⟨_, h⟩ <;> cases h
    · exact .kTuple h1 h2
theorem tyTree : TyY K (yTree K) Tree.cls := ⟨fun {M H v x} h => by
  cases x with
  | leaf i => have e : v = .int i := h; subst e; exact .base (.int i)
  | node l r =>
    obtain ⟨a, _, _, e, z, _⟩ := h
    subst e
    exact ty_tup z⟩
variable {ss : SS} {te ta tb : TE} {l r : Tree} {i : Int}
theorem ve_t0 (ha : Ve ta ss (yTree K) (.node l r)) (hb : Ve tb ss yInt 0) : Ve (tOp (rIxT K) ta tb) ss (yTree K) l := ve_op ha hb fun M v1 v2 H1 wf r1 r2 Q q => by
  obtain ⟨a, x, y, rfl, h, h1, h2⟩ := r1
  exact ⟨a, [x, y], 0, x, rfl, r2, h.sq, rfl, q _ H1 Ke.refl h1⟩
theorem ve_t1 (ha : Ve ta ss (yTree K) (.node l r)) (hb : Ve tb ss yInt 1) : Ve (tOp (rIxT K) ta tb) ss (yTree K) r := ve_op ha hb fun M v1 v2 H1 wf r1 r2 Q q => by
  obtain ⟨a, x, y, rfl, h, h1, h2⟩ := r1
  exact ⟨a, [x, y], 1, y, rfl, r2, h.sq, rfl, q _ H1 Ke.refl h2⟩
/-- a datum told in other words -/
theorem ve_as {α β : Type} {t : Ty α} {u : Ty β} {x : α} {y : β} (h : Ve te ss t x) (f : ∀ M H v, t.rep M H v x → u.rep M H v y) : Ve te ss u y := fun M σ H E wf H1 k Q q => h M σ H E wf H1 k Q fun v H2 k2 r => q v H2 k2 (f M H2 v r)
theorem xe_as {α β : Type} {L : List Addr} {ms : List MSlot} {t : Ty α} {u : Ty β} {P : β → List MSlot → Prop} {g : α → β} (h : Xe L te ss ms t fun x => P (g x)) (f : ∀ M H v x, t.rep M H v x → u.rep M H v (g x)) : Xe L te ss ms u P := fun M σ H nd s wf E O Q q => h M σ H nd s wf E O Q fun v H' x ms' k O' r p => q v H' (g x) ms' k O' (f M H' v x r) p
theorem ve_node (ha : Ve ta ss (yTree K) l) (hb : Ve tb ss (yTree K) r) : Ve (tTup (tCons ta (tCons tb tNil))) ss (yTree K) (.node l r) :=
  ve_as (ve_pair (K := K) ha hb) fun M H v ⟨a, x, y, e, h, h1, h2⟩ => ⟨a, x, y, e, h, h1, h2⟩
theorem ve_leaf (h : Ve te ss yInt i) : Ve te ss (yTree K) (.leaf i) := ve_as h fun _ _ _ r => r
theorem ve_num (h : Ve te ss (yTree K) (.leaf i)) : Ve te ss yInt i := ve_as h fun _ _ _ r => r
theorem p2_leaf {M : List Addr} {H : Hp} : ∀ {vs : List V} {ns : List Int}, P2 (yInt.rep M H) vs ns → P2 ((yTree K).rep M H) vs (ns.map .leaf)
  | [], [], _ => trivial
  | [], _ :: _, h => h.elim
  | _ :: _, [], h => h.elim
  | _ :: _, _ :: _, h => ⟨h.1, p2_leaf h.2⟩
theorem ve_leaves {ns : List Int} (h : Ve te ss (yList yInt) ns) : Ve te ss (yList (yTree K)) (ns.map .leaf) := ve_as h fun M H v ⟨a, vs, e, n, h, p⟩ => ⟨a, vs, e, n, h, p2_leaf p⟩
theorem ve_isNode {T : Tree} (h : Ve te ss (yTree K) T) : Ve (tCB (rIsi K) (tCons te (tCons (tC (.ty "tuple")) tNil))) ss yBool T.isNode := ve_isi (T := Tree.cls) tyTree h (by cases T with
  | leaf _ => exact (show kitB "int" "tuple" = some false by decide +kernel)
  | node _ _ => exact (show kitB "tuple" "tuple" = some true by decide +kernel))
end
/-! a row of trees and texts -/
def ySum {α β : Type} (t : Ty α) (u : Ty β) : Ty (α ⊕ β) where
  rep := fun M H v x => match x with
    | .inl a => t.rep M H v a
    | .inr b => u.rep M H v b
  keep := fun {M H H' v x} k h => match x, h with
    | .inl _, h => t.keep k h
    | .inr _, h => u.keep k h
  less := fun {M M' H v x} s h => match x, h with
    | .inl _, h => t.less s h
    | .inr _, h => u.less s h
  more := fun {M H v x p} f h => match x, h with
    | .inl _, h => t.more f h
    | .inr _, h => u.more f h
end Fp
/-! ## function values in the layer -/
namespace Fp
open PySem PySem.Spec PyProof.Rows L2
/-- a table of code objects, all named q -/
def mTab (q : Str) : MSlot where
  I := fun M H P => ∃ ps, H P = some (.tbl ps) ∧ TriplesOk ps.toList ∧ ∀ (pos : Pos) (cv : Value), codeAmong pos ps.toList = some cv → ∃ c, cv = .ref c ∧ c ∉ M ∧ H c = some (LamX.CodeO c q)
  stab := fun k s n ⟨ps, h, t, f⟩ => ⟨ps, k.keep _ _ n h, t, fun pos cv e => by
    obtain ⟨c, e1, e2, e3⟩ := f pos cv e
    exact ⟨c, e1, e2, k.keep _ _ (fun z => e2 (s c z)) e3⟩⟩
  more := fun {M H a p} hp ⟨ps, h, t, f⟩ => ⟨ps, h, t, fun pos cv e => by
    obtain ⟨c, e1, e2, e3⟩ := f pos cv e
    refine ⟨c, e1, fun z => ?_, e3⟩
    rcases List.mem_cons.mp z with z | z
    · rw [z, hp] at e3; cases e3
    · exact e2 z⟩
  less := fun s ⟨ps, h, t, f⟩ => ⟨ps, h, t, fun pos cv e => by
    obtain ⟨c, e1, e2, e3⟩ := f pos cv e
    exact ⟨c, e1, fun z => e2 (s c z), e3⟩⟩
  there := fun ⟨ps, h, _⟩ => ⟨_, h⟩
section
variable {P : Program} {w : World} {K : PySem.W.Frag} {mg : Str → Option Value} {base : Heap} {k : Nat} {sp : Sp}
theorem Callable.imp {M M' : List Addr} {H H' : Hp} {f : Addr} (i : ∀ a o, a ∉ M → H a = some o → a ∉ M' ∧ H' a = some o) (h : Callable P w K mg base k sp M H f) : Callable P w K mg base k sp M' H' f := by
  rcases h with h | ⟨j, c, q, params, body, scope, ps, e, L, nf, nc, hf, hc⟩
  · exact .inl h
  · exact .inr ⟨j, c, q, params, body, scope, ps, e, L, (i f _ nf hf).1, (i c _ nc hc).1, (i f _ nf hf).2, (i c _ nc hc).2⟩
/-- what can be called with the promise sp -/
def yCall (P : Program) (w : World) (K : PySem.W.Frag) (mg : Str → Option Value) (base : Heap) (k : Nat) (sp : Sp) : Ty Addr where
  rep := fun M H v f => v = .ref f ∧ Callable P w K mg base k sp M H f
  keep := fun k ⟨e, h⟩ => ⟨e, h.imp fun a o n z => ⟨n, k.keep a o n z⟩⟩
  less := fun s ⟨e, h⟩ => ⟨e, h.imp fun a o n z => ⟨fun y => n (s a y), z⟩⟩
  more := fun {M H v x p} hp ⟨e, h⟩ => ⟨e, h.imp fun a o n z => ⟨fun y => by
    rcases List.mem_cons.mp y with y | y
    · rw [y, hp] at z; cases z
    · exact n y, z⟩⟩
/-- lambda .. -/
theorem xe_lamV {L : List Addr} {ss : SS} {ms : List MSlot} {j i : Nat} {Pt : Addr} {q : Str} {params : Arguments} {body : Expr} {scope : Scope} {ps : List Str} {PA : Addr → List MSlot → Prop} (hL : L[i]? = some Pt) (hm : ms[i]? = some (mTab q)) (hok : LamOk P w K mg base j q params body scope ps sp) (p : ∀ f, PA f ms) :
    Xe L (tLamV Pt q params body scope) ss ms (yCall P w K mg base (j + 1) sp) PA := fun M σ H nd s wf E O Q qq => by
  obtain ⟨a', e', pp, hP, ht, hf⟩ := O.get hm
  have : a' = Pt := Option.some.inj (e'.symm.trans hL)
  subst this
  have hPM : a' ∈ M := s a' (List.mem_of_getElem? hL)
  have ems : ms.set i (mTab q) = ms := by
    obtain ⟨hi, z⟩ := List.getElem?_eq_some_iff.mp hm
    rw [← z]
    exact List.set_getElem_self hi
  refine ⟨pp, ⟨hP, ht, fun pos cv e => ?_⟩, fun c f more hc hff fc tb am => ?_, fun c f pos am hc hff => ?_⟩
  · obtain ⟨c, e1, _, e3⟩ := hf pos cv e
    exact ⟨c, e1, e3⟩
  · have kA : ∀ {N : List Addr}, a' ∈ N → Ke N H (upd (upd (upd H a' (.tbl (pp ++ more))) c (LamX.CodeO c q)) f (lamO f q params body scope c)) := fun hN => ((Ke.mut hN).trans (Ke.new (by rw [upd_ne (ne_of_none hP hc).symm]; exact hc))).trans (Ke.new (by rw [upd_ne fc, upd_ne (ne_of_none hP hff).symm]; exact hff))
    have O' := Own.put (m' := mTab q) (kA (List.mem_singleton.mpr rfl)) hPM ⟨pp ++ more, by rw [upd_ne (ne_of_none hP hff), upd_ne (ne_of_none hP hc), upd_same], tb, fun pos cv e => ?_⟩ nd hL O
    · rw [ems] at O'
      exact qq _ _ f ms (kA (List.mem_of_getElem? hL)) O' ⟨rfl, .inr ⟨j, c, q, params, body, scope, ps, rfl, hok, wf.not hff, wf.not hc, upd_same, by rw [upd_ne (Ne.symm fc), upd_same]⟩⟩ (p f)
    · rcases am pos cv e with z | z
      · obtain ⟨c0, e1, e2, e3⟩ := hf pos cv z
        exact ⟨c0, e1, e2, (kA (N := [a']) (List.mem_singleton.mpr rfl)).keep c0 _ (fun y => e2 (by rw [List.mem_singleton.mp y]; exact hPM)) e3⟩
      · exact ⟨c, z, wf.not hc, by rw [upd_ne (Ne.symm fc), upd_same]⟩
  · obtain ⟨c0, e1, e2, _⟩ := hf pos _ am
    cases e1
    exact qq _ _ f ms (Ke.new hff) (O.grow (Ke.new hff)) ⟨rfl, .inr ⟨j, c, q, params, body, scope, ps, rfl, hok, wf.not hff, e2, upd_same, by rw [upd_ne (ne_of_none hc hff)]; exact hc⟩⟩ (p f)
/-- f(e, ..), f such a value -/
theorem ve_callV {A α : Type} {ss : SS} {i : Nat} {f : Addr} {t : Ty α} {sl : A → List Slot} {pre : A → Prop} {g : A → α} {ta : TA} (a : A) (hf : ss[i]? = some (some ⟨yCall P w K mg base k (SpF sl pre t g), f⟩)) (h : Vs ta ss (sl a)) (hp : pre a) : Ve (tCallV P w K mg base k i (SpF sl pre t g) ta) ss t (g a) := fun M σ H En wf H1 kk Q q => by
  obtain ⟨v, hv, ev, hc⟩ := En.get hf
  subst ev
  have fin : ∀ {vs : List V} {H2 : Hp}, Ke [] H1 H2 → ArgsR M H2 vs (sl a) → SpF sl pre t g vs H2 Q E0 := fun {vs H2} k2 r => spF_of a (wf.keep (kk.trans k2.all)) r hp fun v H' k' r' => q v H' (k2.trans k') r'
  refine ⟨f, hv, ?_⟩
  rcases hc with hc | ⟨j, c, qn, params, body, scope, ps, e, L, nf, nc, h1, h2⟩
  · exact .inl ⟨hc, h M σ H En wf H1 kk _ fun vs H2 k2 r => fin k2 r⟩
  · have a1 := kk.keep f _ nf h1
    have a2 := kk.keep c _ nc h2
    exact .inr ⟨j, c, qn, params, body, scope, ps, e, L, a1, h M σ H En wf H1 kk _ fun vs H2 k2 r => ⟨k2.one a1, k2.one a2, fin k2 r⟩⟩
/-- a def of the top as such a value -/
theorem ve_defV {ss : SS} {f : Addr} {fd : FuncData} {ps : List Str} (F : FnOk P w K mg base CX0 k f fd ps sp) (hk : PySem.W.keepIn K (.ref f) = true) (hb : Binds K fd ps []) : Ve (tC (.ref f)) ss (yCall P w K mg base k sp) f := ve_k fun _ _ => ⟨rfl, .inl ⟨fd, ps, F, hk, hb⟩⟩
/-- a lambda's promise from its body's value -/
theorem lamOk_of {A α : Type} {q : Str} {params : Arguments} {body : Expr} {scope : Scope} {ps : List Str} {t : Ty α} {sl : A → List Slot} {pre : A → Prop} {g : A → α} (N : LamN ps scope) (hlen : ∀ a, (sl a).length = ps.length)
    (bind : ∀ (pm cv ctv : Value) (us : List Value), us.length = ps.length → bindArgs (PySem.W.kla_fn "<lambda>" q params body scope [] pm cv ctv) ⟨us, []⟩ = pure (ps.zip us))
    (hb : ∀ (f c : Addr) (A : Around) (outer : List PySem.Env) (s : Shared) (H : Hp), Room k (A.deeper (lamE q scope s.heap.objs.size f c)) → ∃ te, PE (cxV P w K mg base ps q scope f c A outer s H) body te ∧ ∀ a, pre a → Ve te (startS ps (sl a)) t (g a)) :
    LamOk P w K mg base k q params body scope ps (SpF sl pre t g) := ⟨N, fun vs H Q E ⟨M, a, _, _, _, h, _⟩ => h.len.trans (hlen a), bind, fun f c A outer s H hr => by
  obtain ⟨te, ht, hv⟩ := hb f c A outer s H hr
  refine ⟨te, ht, fun vs Q E ⟨M, a, _, _, wf, ar, _, hp, q⟩ => ?_⟩
  have en := ar.env (ps.length - (sl a).length)
  have e1 : L2.start ps vs = vs.map some ++ List.replicate (ps.length - (sl a).length) none := by
    unfold L2.start
    rw [ar.len]
  rw [e1]
  exact hv a hp M _ H en wf H Ke.refl Q fun v H2 k2 r => q v (g a) [] H2 k2 trivial r rfl⟩
end
section
variable {P : Program} {w : World} {K : PySem.W.Frag} {mg : Str → Option Value} {base : Heap}
theorem pe_callVK {X : Cx} {k i : Nat} {sp : Sp} {x : Str} {p pos : Pos} {e : Expr} {es : List Expr} {t : TA} (hr : Room k X.A) (hN : X.N[i]? = some x) (hv : Vis X.env.scope x) (ha : PA X (e :: es) t)
    (hdb : (x == ("__debug__" : Str)) = false := by decide) (hcd : (x == ("__classdict__" : Str)) = false := by decide)
    (he : starEach (e :: es) X.env = (false, eval e X.env) :: starEach es X.env := by rfl) (hpl : (backTo pos (starEach es X.env)).any (·.1) = false := by rfl)
    (h1 : X.prog = P := by rfl) (h2 : X.w = w := by rfl) (h3 : X.K = K := by rfl) (h4 : X.mg = mg := by rfl) (h5 : X.base = base := by rfl) : PE X (.Call (.Name x p) (e :: es) [] pos) (tCallV P w K mg base k i sp t) := by
  subst h1 h2 h3 h4 h5
  exact pe_callV hr hN hv ha hdb hcd he hpl
end
/-- a def whose code is known -/
theorem fnXC {P : Program} {w : World} {K : PySem.W.Frag} {mg : Str → Option Value} {base : Heap} {x qual : Str} {params : Arguments} {body : List Stmt} {scope : Scope} {dvs : List V} {kws : List (Str × V)} {f c : Addr} {fd : FuncData} {N ps : List Str} {k : Nat}
    {A β : Type} {ext : A → List Addr} {sl : A → List Slot} {msA : A → List MSlot} {pre : A → Prop} {t : Ty β} {post : A → β → List MSlot → Prop}
    (F : FunD K x qual params body scope dvs kws f fd) (hcode : fd.code = .ref c) (S : FnScope N ps scope) (hlen : ∀ a, (sl a).length = ps.length)
    (hbody : ∀ (Ar : Around) (outer : List PySem.Env) (s : Shared) (H : Hp) (E : XK), Room k (Ar.deeper (PyProof.Rows.envOfC qual scope s.heap.objs.size f (.ref c))) →
      ∃ ts, PSs (cxOf CX0 P w K mg base N qual scope f (.ref c) Ar outer s H E).nox body ts ∧ ∀ a, pre a → Xs [] (ext a) t ts (startS N (sl a)) (msA a) (fun _ ms' => ∃ x, (∀ M H, t.rep M H .non x) ∧ post a x ms') (fun x ms' => post a x ms') (fun _ _ => False) (fun _ _ => False)) :
    FnOk P w K mg base CX0 (k + 1) f fd ps (SpX ext sl msA pre t post) := by
  obtain ⟨oc, od, dV, kV, doc, pm, an, cdv, ct, osl, rfl, lk, hcd, _, _⟩ := F.ex
  have e : cdv = .ref c := hcode
  subst e
  refine fn_of lk hcd S (fun vs H Q E ⟨M, a, _, _, _, h, _⟩ => h.len.trans (hlen a)) fun Ar outer s H vs Q E hr ⟨M, a, nd, sub, wf, ar, own, hp, kq⟩ => ?_
  obtain ⟨ts, h, q⟩ := hbody Ar outer s H E hr
  refine ⟨ts, h.nox, ?_⟩
  have en := ar.env (N.length - (sl a).length)
  have e1 : L2.start N vs = vs.map some ++ List.replicate (N.length - (sl a).length) none := by
    unfold L2.start
    rw [ar.len]
  rw [e1]
  exact q a hp M _ H _ ⟨nd, (fun _ z => by cases z), sub, wf, en, own⟩ ⟨fun σ' H' ss' ms' e E' O ⟨x, hx, p⟩ => kq .non x ms' H' e O (hx M H') p, fun v H' x ms' e r O p => kq v x ms' H' e O r p, fun _ _ _ _ _ _ _ z => z.elim, fun _ _ _ _ _ _ _ z => z.elim⟩
end Fp

/-! ## defs told with their exact room: how deep, how many units; and that no repr is under way around -/
namespace Fp
open PySem PySem.Spec PyProof.Rows L2
structure Rm (d u : Nat) (A : Around) : Prop where
  hd : A.handled = none
  dp : A.depth + d < recursionLimit
  un : A.units + u < cLine
  gd : A.guards = some []
theorem Rm.mono {k d u : Nat} {A : Around} (r : Rm d u A) (h : 3 * k + 5 ≤ d ∧ 16 * k + 200 ≤ u) : Room k A := ⟨r.hd, by have := r.dp; omega, by have := r.un; omega⟩
theorem Rm.less {d u d' u' : Nat} {A : Around} (r : Rm d u A) (h : d' ≤ d ∧ u' ≤ u) : Rm d' u' A := ⟨r.hd, by have := r.dp; omega, by have := r.un; omega, r.gd⟩
theorem Rm.deeper {d u : Nat} {A : Around} (r : Rm (d + 1) (u + 3) A) (env : PySem.Env) : Rm d u (A.deeper env) := ⟨r.hd, by have := r.dp; show A.depth + 1 + d < _; omega, by have := r.un; show A.units + 3 + u < _; omega, r.gd⟩
theorem Rm.fit {d u n : Nat} {A : Around} (r : Rm d u A) (h : n ≤ u) : A.units + n < cLine := by have := r.un; omega
theorem _root_.L2.Room.fit {k n : Nat} {A : Around} (r : Room k A) (h : n ≤ 16 * k + 200) : A.units + n < cLine := by have := r.un; omega
structure FnG (P : Program) (w : World) (K : PySem.W.Frag) (mg : Str → Option Value) (base : Heap) (CX : CXT) (d u : Nat) (f : Addr) (fd : FuncData) (ps : List Str) (sp : Sp) : Prop where
  len : ∀ vs H Q E, sp vs H Q E → vs.length = ps.length
  run : ∀ (A : Around) (outer : List PySem.Env) (s : Shared) (H : Hp) (args : Args) (us : List Value) (vs : List V) (Q : VK) (E : XK), Rm d u A → Env0 P w K mg base A outer s H → BindsTo s fd args (ps.zip us) → Vals vs us → sp vs H Q E → codeAny (model P w) A (.call (.ref f) args) (CR CX outer P w H s Q E) s
section
variable {P : Program} {w : World} {K : PySem.W.Frag} {mg : Str → Option Value} {base : Heap} {CX : CXT} {d u : Nat} {x qual : Str} {params : Arguments} {body : List Stmt} {scope : Scope} {dvs : List V} {kws : List (Str × V)} {f : Addr} {fd : FuncData} {N ps : List Str} {sp : Sp}
theorem FnG.of_ok {k : Nat} (F : FnOk P w K mg base CX k f fd ps sp) (h : 3 * k + 5 ≤ d ∧ 16 * k + 200 ≤ u) : FnG P w K mg base CX d u f fd ps sp := ⟨F.len, fun A outer s H args us vs Q E r => F.run A outer s H args us vs Q E (r.mono h)⟩
theorem FnG.mono {d' u' : Nat} (F : FnG P w K mg base CX d' u' f fd ps sp) (h : d' ≤ d ∧ u' ≤ u) : FnG P w K mg base CX d u f fd ps sp := ⟨F.len, fun A outer s H args us vs Q E r => F.run A outer s H args us vs Q E (r.less h)⟩
/-- a def by its body; its code's address is told -/
theorem FnG.of {cdv : Value} (F : FunD K x qual params body scope dvs kws f fd) (hcode : fd.code = cdv) (S : FnScope N ps scope) (len : ∀ vs H Q E, sp vs H Q E → vs.length = ps.length)
    (hbody : ∀ (A : Around) (outer : List PySem.Env) (s : Shared) (H : Hp) (vs : List V) (Q : VK) (E : XK), Rm d u (A.deeper (envOfC qual scope s.heap.objs.size f cdv)) → sp vs H Q E → ∃ t, PSs (cxOf CX P w K mg base N qual scope f cdv A outer s H E) body t ∧ t { nx := fun _ H' => Q .non H', rt := Q } (L2.start N vs) H) :
    FnG P w K mg base CX (d + 1) (u + 3) f fd ps sp := by
  obtain ⟨oc, od, dV, kV, doc, pm, an, cdv', ct, osl, rfl, lk, hcd, _, _⟩ := F.ex
  obtain rfl : cdv' = cdv := hcode
  refine ⟨len, fun A outer s H args us vs Q E rm e0 hb rv hsp => ?_⟩
  have KX : K.In s.heap := e0.mod.kin.keeps fun b o z => (e0.bs b o z).1
  have kinds : ∀ y ∈ ps.zip us, scope.names.lookup y.1 = some .local ∨ (scope.names.lookup y.1 = some .cell ∧ ((cellsFrom (s.heap.objs.size + 1) scope.names []).lookup y.1).isSome = true) := fun y hy => (S.par y.1 (List.of_mem_zip (a := y.1) (b := y.2) hy).1).imp id fun z => ⟨z, PySem.W.cellsFrom_some _ _ _ (.inl z)⟩
  have room : A.depth < recursionLimit := by have := rm.dp; omega
  refine codeAny_call_function room (KX _ _ lk) rfl S.co S.gen rfl (PySem.W.codeRec_of KX hcd) (hb _ _ _ _ (wpAny_newFunctionEnv_cells S.kind kinds fun env he s1 xc => ?_))
  subst he
  refine ⟨(e0.mod.nolimit.keeps fun b o z => (e0.bs b o z).1).keeps xc.toInCall.keep, codeAny_func ?_⟩
  obtain ⟨t, ht, hq⟩ := hbody A outer s H vs Q E (rm.deeper _) hsp
  have I := inv_start (CX := CX) (E := E) (cd := cdv') (qual := qual) (f := f) S rm.hd e0 (len _ _ _ _ hsp) rv xc
  refine wpAny_mono (ht.run [] s1 (L2.start N vs) H _ I hq) (fun fl s' hs => ?_) fun _ _ z => z
  match fl, hs with
  | .ret _, ⟨v, _, H', J, r, q⟩ => exact ⟨v, H', J.os, J.bare, J.base, J.hok, r, q⟩
  | .next, ⟨_, H', J, q⟩ => exact ⟨V.non, H', J.os, J.bare, J.base, J.hok, rfl, q⟩
  | .brk, ⟨_, _, _, q⟩ => exact q.elim
  | .cont, ⟨_, _, _, q⟩ => exact q.elim
/-- .. whose promise is of the layer; the code's address known -/
theorem fnG {A β : Type} {ext : A → List Addr} {sl : A → List Slot} {msA : A → List MSlot} {pre : A → Prop} {t : Ty β} {post : A → β → List MSlot → Prop} {cdv : Value} (F : FunD K x qual params body scope dvs kws f fd) (hcode : fd.code = cdv) (S : FnScope N ps scope) (hlen : ∀ a, (sl a).length = ps.length)
    (hbody : ∀ (Ar : Around) (outer : List PySem.Env) (s : Shared) (H : Hp) (E : XK), Rm d u (Ar.deeper (envOfC qual scope s.heap.objs.size f cdv)) →
      ∃ ts, PSs (cxOf CX0 P w K mg base N qual scope f cdv Ar outer s H E).nox body ts ∧ ∀ a, pre a → Xs [] (ext a) t ts (startS N (sl a)) (msA a) (fun _ ms' => ∃ x, (∀ M H, t.rep M H .non x) ∧ post a x ms') (fun x ms' => post a x ms') (fun _ _ => False) (fun _ _ => False)) :
    FnG P w K mg base CX0 (d + 1) (u + 3) f fd ps (SpX ext sl msA pre t post) :=
  FnG.of F hcode S (fun vs H Q E ⟨M, a, _, _, _, h, _⟩ => h.len.trans (hlen a)) fun Ar outer s H vs Q E hr ⟨M, a, nd, sub, wf, ar, own, hp, kq⟩ => by
    obtain ⟨ts, h, q⟩ := hbody Ar outer s H E hr
    refine ⟨ts, h.nox, ?_⟩
    have e1 : L2.start N vs = vs.map some ++ List.replicate (N.length - (sl a).length) none := by
      unfold L2.start
      rw [ar.len]
    rw [e1]
    exact q a hp M _ H _ ⟨nd, (fun _ z => by cases z), sub, wf, ar.env _, own⟩ ⟨fun σ' H' ss' ms' e E' O ⟨x, hx, p⟩ => kq .non x ms' H' e O (hx M H') p, fun v H' x ms' e r O p => kq v x ms' H' e O r p, fun _ _ _ _ _ _ _ z => z.elim, fun _ _ _ _ _ _ _ z => z.elim⟩
end
section
variable {X : Cx} {CX : CXT} {d u : Nat} {f : Addr} {fd : FuncData} {ps : List Str} {sp : Sp} {dvs : List V} {ds : List Value} {E : XK} {x : Str} {p pos : Pos} {e : Expr} {es : List Expr} {t : TA}
theorem run_fnG {pins : List (Addr × Obj)} {σ : L2.St} {H : Hp} {s : Shared} {Q : VK} {us : List Value} {vs : List V} (F : FnG X.prog X.w X.K X.mg X.base CX d u f fd ps sp) (hr : Rm d u X.A) (hb : Binds X.K fd ps ds) (hd : Vals dvs ds) (hx : Passes CX X E) (I : Inv X pins σ H s) (rv : Vals vs us) (h : sp (vs ++ dvs) H Q E) :
    wpAny (model X.prog X.w) X.A (call (.ref f) us) (EP X pins σ Q) X.xe s := by
  have r2 := rv.append hd
  have hl : (us ++ ds).length = ps.length := r2.length.symm.trans (F.len _ _ _ _ h)
  refine wpAny_call (codeAny_mono (F.run X.A X.stack s H ⟨us, []⟩ _ _ Q E hr I.env0 (hb s us I.kIn hl) r2 h) fun res s' hq => ?_)
  match res, hq with
  | .error er, hq => exact hx pins σ H s er s' I hq
  | .ok (.ret _), hq => exact I.after hq
  | .ok .next, hq => exact False.elim hq
  | .ok .brk, hq => exact False.elim hq
  | .ok .cont, hq => exact False.elim hq
/-- f(e, ..) -/
theorem pe_callG (F : FnG X.prog X.w X.K X.mg X.base CX d u f fd ps sp) (hr : Rm d u X.A) (hg : Gl X x) (hm : X.mg x = some (.ref f)) (hk : PySem.W.keepIn X.K (.ref f) = true) (hb : Binds X.K fd ps ds) (hd : Vals dvs ds) (hx : Passes CX X E) (ha : PA X (e :: es) t)
    (hdb : (x == ("__debug__" : Str)) = false := by decide) (he : starEach (e :: es) X.env = (false, eval e X.env) :: starEach es X.env := by rfl) (hpl : (backTo pos (starEach es X.env)).any (·.1) = false := by rfl) : PE X (.Call (.Name x p) (e :: es) [] pos) (tCall sp dvs E t) :=
  ⟨fun pins s σ H Q I h => wpAny_Call_Name_kw (ld_glob I hg hm (PySem.W.callWith_K (h₀ := X.base) I.ok.mod.kin hk (thn (ha.run pos pins s σ H _ I h) fun _ _ ⟨_, _, I1, r, q⟩ => ⟨I1.kIn, run_fnG F hr hb hd hx I1 r q⟩) he hpl) hdb)⟩
theorem pe_call0G (F : FnG X.prog X.w X.K X.mg X.base CX d u f fd ps sp) (hr : Rm d u X.A) (hg : Gl X x) (hm : X.mg x = some (.ref f)) (hk : PySem.W.keepIn X.K (.ref f) = true) (hb : Binds X.K fd ps ds) (hd : Vals dvs ds) (hx : Passes CX X E)
    (hdb : (x == ("__debug__" : Str)) = false := by decide) : PE X (.Call (.Name x p) [] [] pos) (tCall sp dvs E tNil) :=
  ⟨fun pins s σ H Q I h => wpAny_Call_Name_kw (ld_glob I hg hm (PySem.W.callWith_K0 I.kIn hk (run_fnG F hr hb hd hx I .nil h)) hdb)⟩
end
structure DefG (P : Program) (w : World) (K : PySem.W.Frag) (mg : Str → Option Value) (base : Heap) (d u : Nat) (x : Str) (ps : List Str) (sp : Sp) (f : Addr) (fd : FuncData) : Prop where
  ok : FnG P w K mg base CX0 d u f fd ps sp
  bi : Binds K fd ps []
  kp : PySem.W.keepIn K (.ref f) = true
  mg : mg x = some (.ref f)
end Fp
namespace Fp
open PySem PySem.Spec PyProof.Rows L2
/-- the first datum, and the heap at the call's begin -/
def ghost (H0 : Hp) : List Slot → List Slot
  | [] => []
  | s :: r => ⟨yFrom H0 s.t, s.x⟩ :: r
theorem ghost_args {M : List Addr} {H : Hp} : ∀ {vs : List V} {sl : List Slot}, ArgsR M H vs sl → ArgsR M H vs (ghost H sl)
  | [], [], _ => trivial
  | [], _ :: _, h => h.elim
  | _ :: _, [], h => h.elim
  | _ :: _, _ :: _, h => ⟨⟨h.1, fun _ z => z⟩, h.2⟩
theorem ghost_len (H : Hp) (sl : List Slot) : (ghost H sl).length = sl.length := by cases sl <;> rfl
/-- a def that gives back a new list -/
theorem fnGN {P : Program} {w : World} {K : PySem.W.Frag} {mg : Str → Option Value} {base : Heap} {d u : Nat} {x qual : Str} {params : Arguments} {body : List Stmt} {scope : Scope} {dvs : List V} {kws : List (Str × V)} {f : Addr} {fd : FuncData} {N ps : List Str}
    {A β : Type} {sl : A → List Slot} {pre : A → Prop} {t : Ty β} {g : A → List β} {cdv : Value} (F : FunD K x qual params body scope dvs kws f fd) (hcode : fd.code = cdv) (S : FnScope N ps scope) (hlen : ∀ a, (sl a).length = ps.length)
    (hbody : ∀ (Ar : Around) (outer : List PySem.Env) (s : Shared) (H : Hp) (E : XK), Rm d u (Ar.deeper (envOfC qual scope s.heap.objs.size f cdv)) →
      ∃ ts, PSs (cxOf CX0 P w K mg base N qual scope f cdv Ar outer s H E).nox body ts ∧ ∀ a, pre a → Xs [] [] (yFrL H t) ts (startS N (ghost H (sl a))) [] (fun _ _ => False) (fun xs _ => xs = g a) (fun _ _ => False) (fun _ _ => False)) :
    FnG P w K mg base CX0 (d + 1) (u + 3) f fd ps (SpO sl pre fun a m => m = mL t (g a)) :=
  FnG.of F hcode S (fun vs H Q E ⟨M, a, _, h, _⟩ => h.len.trans (hlen a)) fun Ar outer s H vs Q E hr ⟨M, a, wf, ar, hp, kq⟩ => by
    obtain ⟨ts, h, q⟩ := hbody Ar outer s H E hr
    refine ⟨ts, h.nox, ?_⟩
    have ag := ghost_args ar
    have e1 : L2.start N vs = vs.map some ++ List.replicate (N.length - (ghost H (sl a)).length) none := by
      unfold L2.start
      rw [ag.len]
    rw [e1]
    refine q a hp M _ H _ ⟨List.nodup_nil, (fun _ z => by cases z), (fun _ z => by cases z), wf, ag.env _, trivial⟩ ⟨fun _ _ _ _ _ _ _ z => z.elim, fun v H' xs ms' e r O p => ?_, fun _ _ _ _ _ _ _ z => z.elim, fun _ _ _ _ _ _ _ z => z.elim⟩
    obtain ⟨b, ws, rfl, nb, h0, hb, pr⟩ := r
    have p : xs = g a := p
    subst p
    exact kq b (mL t (g a)) H' h0 e ⟨ws, hb, pr⟩ rfl
end Fp

/-! ## the end of a law whose def is told by its exact room; tables of code objects may stand in the heap -/
namespace Fp
open PySem PySem.Spec PyProof.Rows L2
/-- the abstract heap at the law's call: the script (where it is no part of K), the tables -/
def hp0 (K : PySem.W.Frag) (a : Addr) (ob : Obj) (xs : List V) (tabs : List Addr) : Hp := fun b => if b ∈ tabs then some (.tbl #[]) else if b = a ∧ (K.lookup a).isNone = true then some (.frz ob (.lst xs)) else none
section
variable {K : PySem.W.Frag} {a : Addr} {ob : Obj} {xs : List V} {tabs : List Addr}
theorem hp0_tab {b : Addr} (h : b ∈ tabs) : hp0 K a ob xs tabs b = some (.tbl #[]) := if_pos h
theorem hp0_scr (h : a ∉ tabs) (k : K.lookup a = none) : hp0 K a ob xs tabs a = some (.frz ob (.lst xs)) := by
  unfold hp0
  rw [if_neg h, if_pos ⟨rfl, by rw [k]; rfl⟩]
theorem hp0_inv {b : Addr} {o : HO} (h : hp0 K a ob xs tabs b = some o) : (b ∈ tabs ∧ o = .tbl #[]) ∨ (b ∉ tabs ∧ b = a ∧ K.lookup a = none ∧ o = .frz ob (.lst xs)) := by
  unfold hp0 at h
  by_cases h1 : b ∈ tabs
  · rw [if_pos h1] at h
    exact .inl ⟨h1, (Option.some.inj h).symm⟩
  · rw [if_neg h1] at h
    by_cases h2 : b = a ∧ (K.lookup a).isNone = true
    · rw [if_pos h2] at h
      exact .inr ⟨h1, h2.1, Option.isNone_iff_eq_none.mp h2.2, (Option.some.inj h).symm⟩
    · rw [if_neg h2] at h
      cases h
end
theorem law_G {P : Program} {w : World} {K : PySem.W.Frag} {mg mb : Str → Option Value} {d u : Nat} {fa a : Addr} {cs : List (Addr × Addr)} {fd : FuncData} {x : Str} {sp : Sp} {s : Shared} {vs : List Value} {ns : List Int}
    (KX : K.In s.heap) (hns : s.heap.Ns mainGlobals mg) (hb : s.heap.Ns builtinsNs mb) (hbb : ∀ y : Str, y ≠ "__name__" → mb y = bootBuiltins y) (hlim : s.heap.NoLimit) (hg : s.gens = #[])
    (hT : ∀ p ∈ cs, s.heap.get? p.2 = some { cls := .none, data := .fields #[] } ∧ K.lookup p.2 = none ∧ PySem.W.CodeHd s.heap p.1 p.2)
    (hbm : ∃ (bm : Addr) (o : Obj), mg "__builtins__" = some (.ref bm) ∧ bm ≠ builtinsNs ∧ s.heap.get? bm = some o ∧ o.cls = .type "module" ∧ o.dict = some builtinsNs ∧ o.data = .plain)
    (ha : s.heap.get? a = some { cls := .type "list", data := .seq vs.toArray }) (hi : IntsAre vs ns) (hl : ns.length ≤ sizeLine) (hr : Rm d u callerA)
    (F : ∀ base : Heap, K.In base → base.Ns mainGlobals mg → (∀ p ∈ cs, LamX.TabB base mg p.1 p.2) → FnG P w K mg base CX0 d u fa fd [x] sp) (bind : ∀ (s : Shared) (v : Value), BindsTo s fd ⟨[v], []⟩ [(x, v)])
    (hsp : ∀ H : Hp, (∀ p ∈ cs, H p.2 = some (.tbl #[])) → SqL K H a (ns.map V.int) → sp [.ref a] H (fun v _ => v = .bl true) E0) :
    codeAny (model P w) callerA (.call (.ref fa) ⟨[.ref a], []⟩) (fun r s' => r = .ok (.ret (.bool true)) ∧ OldK s.heap s'.heap ∧ s'.os = s.os ∧ AllBare s'.gens) s := by
  have rv := vals_ints hi
  have tabAt : ∀ b ∈ cs.map (·.2), s.heap.get? b = some { cls := .none, data := .fields #[] } := fun b hb => by
    obtain ⟨p, hp, rfl⟩ := List.mem_map.mp hb
    exact (hT p hp).1
  have inT : ∀ p ∈ cs, p.2 ∈ cs.map (·.2) := fun p hp => List.mem_map.mpr ⟨p, hp, rfl⟩
  have aT : a ∉ cs.map (·.2) := fun z => by
    have q := congrArg Obj.data (Option.some.inj (ha.symm.trans (tabAt a z)))
    exact nomatch (show Data.seq vs.toArray 0 = Data.fields #[] from q)
  -- the heap
  obtain ⟨H, hH⟩ : ∃ H : Hp, H = hp0 K a { cls := .type "list", data := .seq vs.toArray } (ns.map V.int) (cs.map (·.2)) := ⟨_, rfl⟩
  have Ht : ∀ p ∈ cs, H p.2 = some (.tbl #[]) := fun p hp => by rw [hH]; exact hp0_tab (inT p hp)
  have Hi : ∀ {b : Addr} {o : HO}, H b = some o → (b ∈ cs.map (·.2) ∧ o = .tbl #[]) ∨ (b ∉ cs.map (·.2) ∧ b = a ∧ K.lookup a = none ∧ o = .frz { cls := .type "list", data := .seq vs.toArray } (.lst (ns.map V.int))) := fun {b o} e => hp0_inv (by rw [← hH]; exact e)
  have hS : SqL K H a (ns.map V.int) := by
    cases hk : K.lookup a with
    | none => exact .inl (.inr ⟨_, by rw [hH]; exact hp0_scr aT hk⟩)
    | some o =>
      have e := (KX a o hk).symm.trans ha
      cases e
      exact .inr ⟨_, vs.toArray, _, hk, rfl, rfl, rfl, by rw [List.size_toArray, hi.length]; exact hl, by simpa using rv⟩
  have hok : HOk P w H s.heap := fun b o e => by
    rcases Hi e with ⟨h1, rfl⟩ | ⟨_, rfl, _, rfl⟩
    · exact tabAt b h1
    · exact ⟨ha, by rw [List.length_map]; exact hl, vs, _, rv, ha⟩
  have free : ∀ {b : Addr} {o : Obj}, s.heap.get? b = some o → (∀ us n, o.data ≠ .seq us n) → o.data ≠ .fields #[] → H b = none := fun {b o} e h1 h2 => by
    cases q : H b with
    | none => rfl
    | some v =>
      rcases Hi q with ⟨z, _⟩ | ⟨_, z, _, _⟩
      · have := e.symm.trans (tabAt b z)
        cases this
        exact (h2 rfl).elim
      · rw [z, ha] at e
        cases e
        exact (h1 _ _ rfl).elim
  have low : ∀ {b : Addr} {o : Obj}, s.heap.get? b = some o → H b = none → (hidT s.heap H).get? b = some o := fun e n => hidT_get e n
  have names : ∀ {b : Addr} {m : Str → Option Value}, s.heap.Ns b m → (hidT s.heap H).Ns b m := fun ⟨o, es, ep, e, dd, r⟩ => ⟨o, es, ep, low e (free e (fun us n z => nomatch dd.symm.trans z) fun z => nomatch dd.symm.trans z), dd, r⟩
  have kin : K.In (hidT s.heap H) := fun b o e => low (KX b o e) (by
    cases q : H b with
    | none => rfl
    | some v =>
      rcases Hi q with ⟨z, _⟩ | ⟨_, z, k, _⟩
      · obtain ⟨p, hp, rfl⟩ := List.mem_map.mp z
        exact nomatch (hT p hp).2.1.symm.trans e
      · subst z
        exact nomatch k.symm.trans e)
  have tabs : ∀ p ∈ cs, LamX.TabB (hidT s.heap H) mg p.1 p.2 := fun p hp => by
    obtain ⟨tp, _, o, us, file, tf, flags, tg, inF, text, tt, e1, r1, r2, r3, rest⟩ := hT p hp
    obtain ⟨bm, obm, b1, b2, b3, b4, b5, b6⟩ := hbm
    refine ⟨⟨o, us, file, tf, flags, tg, inF, text, tt, low e1 (free e1 (fun vs n z => nomatch r2.symm.trans z) fun z => ?_), r1, r2, r3, rest⟩, ⟨bm, obm, b1, b2, fun z => ?_, fun z => ?_, low b3 (free b3 (fun vs n z => nomatch b6.symm.trans z) fun z => nomatch b6.symm.trans z), b4, b5, b6⟩, fun z => ?_⟩
    · have z2 := r2.symm.trans z
      cases z2
      simp at r3
    · obtain ⟨og, es, ep, eg, dg, _⟩ := hns
      rw [z, eg] at b3
      cases b3
      exact nomatch dg.symm.trans b6
    · rw [z, tp] at b3
      cases b3
      exact nomatch b6
    · obtain ⟨og, es, ep, eg, dg, _⟩ := hns
      rw [z, tp] at eg
      cases eg
      exact nomatch dg
  have mod : L2.Mod K mg (hidT s.heap H) := ⟨kin, names hns, ⟨mb, names hb, hbb⟩, hlim.imp fun mc h => ⟨names h.1, h.2⟩⟩
  have e0 : Env0 P w K mg (hidT s.heap H) callerA [] s H := ⟨rfl, mod, fun b o e => of_hidT e, Nat.le_of_eq (hidT_size _ _), trivial, (fun b hb => absurd (show b ∈ ([] : List Addr) from hb) (by simp)), hok, .of_eq hg⟩
  refine codeAny_mono ((F _ kin (names hns) tabs).run callerA [] s H ⟨[.ref a], []⟩ [.ref a] [.ref a] _ E0 hr e0 (bind s (.ref a)) (.cons rfl .nil) (hsp H Ht hS)) fun r s' h => ?_
  match r, h with
  | .error _, h => exact (show False from h).elim
  | .ok .next, h => exact False.elim h
  | .ok .brk, h => exact False.elim h
  | .ok .cont, h => exact False.elim h
  | .ok (.ret v), ⟨z, H', os, bare, un, hok', rz, q⟩ =>
    have q : z = .bl true := q
    subst q
    obtain rfl : v = Value.bool true := rz
    have same : ∀ b o, b ∉ cs.map (·.2) → s.heap.get? b = some o → s'.heap.get? b = some o := fun b o nb e => by
      cases y : H b with
      | none => exact un.keep b o e y (fun z => nomatch (show b ∈ ([] : List Addr) from z)) (by simp)
      | some v =>
        rcases Hi y with ⟨z, _⟩ | ⟨_, z, k, rfl⟩
        · exact absurd z nb
        · have f1 := (hok b _ y).1
          have f2 := (hok' b _ (un.frzs b _ _ y)).1
          rw [f2, ← e, f1]
    have grown : ∀ p ∈ cs, ∃ more : Array Value, s'.heap.get? p.2 = some { cls := .none, data := .fields more } := fun p hp => by
      obtain ⟨more, z⟩ := un.tbls p.2 #[] (Ht p hp)
      exact ⟨_, hok' p.2 _ z⟩
    refine ⟨rfl, ⟨fun b o e => ?_, fun b o e => ?_⟩, os, bare⟩
    · by_cases hb : b ∈ cs.map (·.2)
      · obtain ⟨p, hp, rfl⟩ := List.mem_map.mp hb
        obtain ⟨more, hm⟩ := grown p hp
        have tp := (hT p hp).1
        rw [tp] at e
        cases e
        exact .inr (.inl ⟨((hT p hp).2.2.tab tp).isCodeTable, rfl, #[], more, rfl, by rw [Array.empty_append]; exact hm⟩)
      · exact .inl (same b o hb e)
    · by_cases hb : b ∈ cs.map (·.2)
      · obtain ⟨p, hp, rfl⟩ := List.mem_map.mp hb
        obtain ⟨more, hm⟩ := grown p hp
        exact ⟨_, hm⟩
      · exact ⟨o, same b o hb e⟩
/-- what is known of the law's def at the head's heap -/
def LawG (l : PySem.W.OpenLaw) (w : World) (K : PySem.W.Frag) (d u n : Nat) (x : Str) (mg : Str → Option Value) (fa : Addr) (h : Heap) : Prop :=
  ∃ (fd : FuncData) (cs : List (Addr × Addr)) (sp : Sp), (∀ p ∈ cs, h.get? p.2 = some { cls := .none, data := .fields #[] } ∧ K.lookup p.2 = none ∧ PySem.W.CodeHd h p.1 p.2) ∧ (∀ (s : Shared) (v : Value), BindsTo s fd ⟨[v], []⟩ [(x, v)]) ∧
    (∀ (H : Hp) (a : Addr) (ns : List Int), ns.length ≤ n → (∀ z ∈ ns, Builtin.Int.intBits z ≤ 1048576) → (∀ p ∈ cs, H p.2 = some (.tbl #[])) → SqL K H a (ns.map V.int) → sp [.ref a] H (fun v _ => v = .bl true) E0) ∧
    ∀ base : Heap, K.In base → base.Ns mainGlobals mg → (∀ p ∈ cs, LamX.TabB base mg p.1 p.2) → FnG l.prog w K mg base CX0 d u fa fd [x] sp
theorem walk_G {l : PySem.W.OpenLaw} {n d u : Nat} {q : Program} {loose : List Str} {XP : (Str → Option Value) → Heap → Prop} {YP : World → Heap → Prop} {df : DefRec} {x : Str} (hn : l.most = some n) (hn2 : n ≤ sizeLine) (hdf : df.params.defaults = []) (hr : Rm d u callerA)
    (F : ∀ (w : World) (mg : Str → Option Value) (fa : Addr) (h : Heap), YP w h → h.Ns mainGlobals mg → mg df.name = some (.ref fa) → ∃ K : PySem.W.Frag, K.In h ∧ LawG l w K d u n x mg fa h) : PySem.W.WalkO q loose XP YP l.row.toRowW df [] (fun f vs => PySem.call f vs) :=
  Att.attach_callB hn hdf fun w s₀ s₁ mg mb fa o pm cd doc a vs ns G Y ho hd hcd hmg hobj hints hlen hbits hg => by
    obtain ⟨K, KX, fd, cs, sp, hT, hb, hsp, hF⟩ := F w mg fa _ Y G.T.g hmg
    exact law_G KX G.T.g G.T.b G.T.builtins G.T.nolimit hg hT G.T.bmain hobj hints (Nat.le_trans hlen hn2) hr hF hb fun H h1 h2 => hsp H a ns hlen hbits h1 h2
end Fp

/-! ## a Hook that sees closures' cells, and the tables of the defs that make lambdas -/
namespace Fp
open PySem PySem.Spec PyProof.Rows L2
def cellsOf (g : Addr → Option Obj) (as : List Addr) : List Addr := as.flatMap fun a => match g a with
  | some ⟨_, _, .func fd, _⟩ => fd.closure.map (·.2)
  | _ => []
def asX (g : Addr → Option Obj) (n : Nat) : List Addr := He.asD g n ++ cellsOf g (He.asD g n)
/-- a def's code, its table -/
def codeOf (K : PySem.W.Frag) (f : Addr) : Addr := match K.lookup f with
  | some ⟨_, _, .func fd, _⟩ => (match fd.code with
    | .ref c => c
    | _ => 0)
  | _ => 0
def refOr (v : Value) : Addr := match v with
  | .ref a => a
  | _ => 0
def tabOf (K : PySem.W.Frag) (f : Addr) : Addr := match K.lookup (codeOf K f) with
  | some ⟨_, _, .fields vs, _⟩ => refOr (vs.getD 11 .none)
  | _ => 0
def strAt (vs : Array Value) (i : Nat) : Bool := match vs.getD i .none with
  | .str _ _ => true
  | _ => false
def intAt (vs : Array Value) (i : Nat) : Bool := match vs.getD i .none with
  | .int _ _ => true
  | _ => false
def boolAt (vs : Array Value) (i : Nat) : Bool := match vs.getD i .none with
  | .bool _ => true
  | _ => false
theorem strAt_ok {vs : Array Value} {i : Nat} (h : strAt vs i = true) : ∃ a t, vs.getD i .none = .str a t := by
  unfold strAt at h
  split at h
  · rename_i a t e; exact ⟨a, t, e⟩
  · cases h
theorem intAt_ok {vs : Array Value} {i : Nat} (h : intAt vs i = true) : ∃ a t, vs.getD i .none = .int a t := by
  unfold intAt at h
  split at h
  · rename_i a t e; exact ⟨a, t, e⟩
  · cases h
theorem boolAt_ok {vs : Array Value} {i : Nat} (h : boolAt vs i = true) : ∃ a, vs.getD i .none = .bool a := by
  unfold boolAt at h
  split at h
  · rename_i a e; exact ⟨a, e⟩
  · cases h
def emptyTab (K : PySem.W.Frag) (P : Addr) : Bool := match K.lookup P with
  | some ⟨.none, none, .fields us, sl⟩ => us.toList.isEmpty && sl.toList.isEmpty
  | _ => false
theorem emptyTab_ok {K : PySem.W.Frag} {P : Addr} (h : emptyTab K P = true) : K.lookup P = some { cls := .none, data := .fields #[] } := by
  unfold emptyTab at h
  split at h
  · rename_i us sl e
    obtain ⟨h1, h2⟩ := Bool.and_eq_true_iff.mp h
    have e1 : us = #[] := by cases us; simpa using h1
    have e2 : sl = #[] := by cases sl; simpa using h2
    rw [e, e1, e2]
  · cases h
def hdB (K : PySem.W.Frag) (c P : Addr) : Bool := match K.lookup c with
  | some ⟨.type t, _, .fields vs, _⟩ => decide (t = "code") && (decide (vs[11]? = some (.ref P)) && (decide (vs.getD 11 .none = .ref P) && (strAt vs 18 && (intAt vs 7 && (boolAt vs 9 && (intAt vs 10 && decide (c ≠ P)))))))
  | _ => false
theorem hdB_ok {K : PySem.W.Frag} {c P : Addr} {h : Heap} (X : K.In h) (e : hdB K c P = true) : PySem.W.CodeHd h c P := by
  unfold hdB at e
  split at e
  · rename_i t od vs sl q
    simp only [Bool.and_eq_true, decide_eq_true_eq] at e
    obtain ⟨h1, h2, h3, h4, h5, h6, h7, h8⟩ := e
    obtain ⟨file, tf, e4⟩ := strAt_ok h4
    obtain ⟨flags, tg, e5⟩ := intAt_ok h5
    obtain ⟨inF, e6⟩ := boolAt_ok h6
    obtain ⟨text, tt, e7⟩ := intAt_ok h7
    exact ⟨_, vs, file, tf, flags, tg, inF, text, tt, X _ _ q, by rw [h1], rfl, h2, h3, e4, e5, e6, e7, h8⟩
  · cases e
def codeB (K : PySem.W.Frag) (f : Addr) : Bool := match K.lookup f with
  | some ⟨_, _, .func fd, _⟩ => (match fd.code with
    | .ref _ => true
    | _ => false)
  | _ => false
def tabB (K : PySem.W.Frag) (f : Addr) : Bool := codeB K f && (emptyTab K (tabOf K f) && hdB K (codeOf K f) (tabOf K f))
def cutK (K : PySem.W.Frag) (ts : List Addr) : PySem.W.Frag := K.filter fun p => decide (p.1 ∉ ts)
theorem cutK_look {ts : List Addr} {a : Addr} : ∀ {K : PySem.W.Frag}, (cutK K ts).lookup a = if a ∈ ts then none else K.lookup a
  | [] => by
    show none = _
    split <;> rfl
  | (b, o) :: K => by
    have ih := cutK_look (ts := ts) (a := a) (K := K)
    unfold cutK at ih ⊢
    rw [List.filter_cons]
    by_cases hb : b ∈ ts
    · rw [if_neg (by simp [hb]), ih]
      by_cases ha : a ∈ ts
      · rw [if_pos ha, if_pos ha]
      · rw [if_neg ha, if_neg ha, List.lookup_cons]
        have e : (a == b) = false := beq_eq_false_iff_ne.mpr fun z => ha (z ▸ hb)
        rw [e]
    · rw [if_pos (by simp [hb]), List.lookup_cons, List.lookup_cons]
      cases e : a == b with
      | true =>
        have := beq_iff_eq.mp e
        subst this
        rw [if_neg hb]
      | false => exact ih
theorem cutK_in {K : PySem.W.Frag} {ts : List Addr} {h : Heap} (X : K.In h) : (cutK K ts).In h := fun a o e => by
  rw [cutK_look] at e
  split at e
  · cases e
  · exact X a o e
structure Hx where
  h : Hd
  tb : List (PySem.W.Frag → Addr)
def Hx.tabs (x : Hx) (K : PySem.W.Frag) : List Addr := x.tb.map fun f => tabOf K (f K)
def Hx.cut (x : Hx) (K : PySem.W.Frag) : PySem.W.Frag := cutK K (x.tabs K)
def Hx.look (x : Hx) (K : PySem.W.Frag) : Bool × AlY := (x.tb.all fun f => tabB K (f K) && decide (f (x.cut K) = f K), x.h.look (x.cut K))
def Hx.due (x : Hx) (w : World) : Bool × AlY := (true, x.h.due w)
def Hx.obs (x : Hx) (g : Addr → Option Obj) : Bool × AlY := x.look (He.frG g (asX g x.h.n))
def Hx.hook (x : Hx) : PySem.W.Hook where
  α := Bool × AlY
  obs := fun s => x.obs s.heap.get?
  val := fun w => x.due w
  says := fun w hp => ∃ K : PySem.W.Frag, K.In hp ∧ x.look K = x.due w
  of := fun _ _ e => ⟨_, He.frG_in, e⟩
  keeps := fun _ _ _ ⟨K, i, c⟩ k => ⟨K, i.keeps k, c⟩
theorem Hx.obs_eq (x : Hx) (s : PySem.W.SharedT) : x.obs (HandSHeadRun.getT s) = x.hook.obs s.abs := by
  rw [show HandSHeadRun.getT s = s.abs.heap.get? from funext (HandSHeadRun.getT_eq s)]
  rfl
/-- the tables of the defs that make lambdas, at the head's heap -/
theorem Hx.tabs_ok {x : Hx} {K : PySem.W.Frag} {w : World} {h : Heap} (X : K.In h) (c : x.look K = x.due w) : ∀ p ∈ x.tb.map (fun f => (codeOf K (f K), tabOf K (f K))), h.get? p.2 = some { cls := .none, data := .fields #[] } ∧ (x.cut K).lookup p.2 = none ∧ PySem.W.CodeHd h p.1 p.2 := fun p hp => by
  obtain ⟨f, hf, rfl⟩ := List.mem_map.mp hp
  have e : (x.tb.all fun f => tabB K (f K) && decide (f (x.cut K) = f K)) = true := congrArg Prod.fst c
  obtain ⟨e1, e2⟩ := Bool.and_eq_true_iff.mp (Bool.and_eq_true_iff.mp (Bool.and_eq_true_iff.mp (List.all_eq_true.mp e f hf)).1).2
  refine ⟨X _ _ (emptyTab_ok e1), ?_, hdB_ok X e2⟩
  unfold Hx.cut
  rw [cutK_look]
  exact if_pos (List.mem_map.mpr ⟨f, hf, rfl⟩)
theorem Hx.base {x : Hx} {K : PySem.W.Frag} {w : World} (c : x.look K = x.due w) : x.h.look (x.cut K) = x.h.due w := congrArg Prod.snd c
theorem Hx.both {x : Hx} {K : PySem.W.Frag} {w : World} (c : x.look K = x.due w) {f : PySem.W.Frag → Addr} (i : Nat) (hf : x.tb[i]? = some f) : Fp.codeB K (f K) = true ∧ f (x.cut K) = f K := by
  obtain ⟨h1, h2⟩ := Bool.and_eq_true_iff.mp (List.all_eq_true.mp (show (x.tb.all fun f => tabB K (f K) && decide (f (x.cut K) = f K)) = true from congrArg Prod.fst c) f (List.mem_of_getElem? hf))
  exact ⟨(Bool.and_eq_true_iff.mp h1).1, of_decide_eq_true h2⟩
/-- a def's code, as its record tells it -/
theorem code_is {K : PySem.W.Frag} {x qual : Str} {params : Arguments} {body : List Stmt} {scope : Scope} {dvs : List V} {kws : List (Str × V)} {f : Addr} {fd : FuncData} {ts : List Addr} (F : FunD (cutK K ts) x qual params body scope dvs kws f fd) (e : codeB K f = true) : fd.code = .ref (codeOf K f) := by
  obtain ⟨oc, od, dV, kV, doc, pm, an, cdv, ct, osl, rfl, lk, _⟩ := F.ex
  rw [cutK_look] at lk
  split at lk
  · cases lk
  · unfold Fp.codeB at e
    unfold codeOf
    rw [lk] at e ⊢
    show cdv = _
    clear lk F
    cases cdv <;> first
      | rfl
      | (exact absurd e Bool.false_ne_true)
end Fp
namespace Fp
open PySem PySem.Spec PyProof.Rows L2
theorem code_at {K K2 : PySem.W.Frag} {x qual : Str} {params : Arguments} {body : List Stmt} {scope : Scope} {dvs : List V} {kws : List (Str × V)} {f f2 : Addr} {fd : FuncData} {ts : List Addr} (F : FunD K x qual params body scope dvs kws f fd) (hK : cutK K2 ts = K) (ea : f = f2) (e : codeB K2 f2 = true) : fd.code = .ref (codeOf K2 f2) := by
  subst hK ea
  exact code_is F e
end Fp

namespace Fp
open PySem L2
def top (i : Nat) : Stmt := PySem.Challenge.pw_foldplans_k30_letters_and_values.main.body.getD i (.Pass ⟨0, 0, 0, 0⟩)
abbrev FnP (K : PySem.W.Frag) (x : Str) (st : Stmt) (f : Addr) (fd : FuncData) : Prop := FunD K x x (defArgs st) (defBody st) (defScope st) [] [] f fd
/-- a def of the text that keeps its promise -/
structure Def (P : Program) (w : World) (K : PySem.W.Frag) (mg : Str → Option Value) (base : Heap) (k : Nat) (x : Str) (ps : List Str) (sp : Sp) (f : Addr) (fd : FuncData) : Prop where
  ok : FnOk P w K mg base CX0 k f fd ps sp
  bi : Binds K fd ps []
  kp : PySem.W.keepIn K (.ref f) = true
  mg : mg x = some (.ref f)
structure Tx (w : World) (K : PySem.W.Frag) (mg : Str → Option Value) : Prop where
  b_int : mg "int" = none
  b_len : mg "len" = none
  b_abs : mg "abs" = none
  b_list : mg "list" = none
  b_tuple : mg "tuple" = none
  b_range : mg "range" = none
  b_isinstance : mg "isinstance" = none
  b_min : mg "min" = none
  b_str : mg "str" = none
  b_sum : mg "sum" = none
end Fp

namespace Fp
open PySem L2
section
variable {P : Program} {w : World} {K : PySem.W.Frag} {mg : Str → Option Value} {base : Heap}
/-! ### the pen's defs -/
abbrev s_pen : Stmt := top 4
theorem sc_pen : FnScope ["_law_script"] ["_law_script"] (defScope s_pen) := ⟨rfl, rfl, rfl, by decide +kernel, rfl, by decide +kernel, by decide +kernel⟩

abbrev s_draw : Stmt := top 5
theorem sc_draw : FnScope ["_law_pen_here", "_law_span", "_law_digit", "_law_turn", "_law_cell", "_law_mixed"] ["_law_pen_here", "_law_span"] (defScope s_draw) := ⟨rfl, rfl, rfl, by decide +kernel, rfl, by decide +kernel, by decide +kernel⟩

theorem ok_draw {f : Addr} {fd : FuncData} {k : Nat} (F : FnP K "_law_draw" s_draw f fd) (T : Tx w K mg) : FnOk P w K mg base CX0 (k + 1) f fd ["_law_pen_here", "_law_span"] spDraw := by
  refine okN F sc_draw (fun vs H Q E h => ?_) (fun cdv A outer s H E hr => ?_)
  · obtain ⟨M, a, _, _, _, h, _⟩ := h
    exact h.len
  have hu := hu_of hr
  refine ⟨_, (pss_cons (ps_if (pt_cmpR op_gt (pe_dget hu (pv 0) pe_str (fun _ _ => rfl)) pe_int (nomark _)) (pss_cons (ps_set (i := 2) sc_draw.nd rfl (by first | exact Or.inl rfl | exact Or.inr rfl) (pe_op op_mod (pe_callTy call_int1 (by rfl) T.b_int (by decide +kernel) (pa_cons (pe_dget hu (pv 0) pe_str (fun _ _ => rfl)) pa_nil)) (pv 1)))
    (pss_cons (ps_dput hu (pv 0) pe_str (pe_op op_fdiv (pe_dget hu (pv 0) pe_str (fun _ _ => rfl)) (pv 1)) rfl)
    (pss_one (ps_ret (pv 2))))) pss_nil)
    (pss_cons (ps_set (i := 3) sc_draw.nd rfl (by first | exact Or.inl rfl | exact Or.inr rfl) (pe_dget hu (pv 0) pe_str (fun _ _ => rfl)))
    (pss_cons (ps_dput hu (pv 0) pe_str (pe_op op_add (pv 3) pe_int) rfl)
    (pss_cons (ps_set (i := 4) sc_draw.nd rfl (by first | exact Or.inl rfl | exact Or.inr rfl) (pe_op op_add (pe_op op_mul pe_int (pv 3)) pe_int))
    (Evl.pss_cut (ps_if (pt_cmpR (op_neK (K := K) (hr.fit (by omega))) (pe_dget hu (pv 0) pe_str (fun _ _ => rfl)) (pe_lst pa_nil) (nomark _)) (pss_one (ps_set (i := 4) sc_draw.nd rfl (by first | exact Or.inl rfl | exact Or.inr rfl) (pe_ix (ix_listK (K := K)) (pe_dget hu (pv 0) pe_str (fun _ _ => rfl)) (pe_op op_mod (pe_callTy call_int1 (by rfl) T.b_int (by decide +kernel) (pa_cons (pv 3) pa_nil)) (pe_callB (call_lenK (K := K)) (by rfl) T.b_len (by decide +kernel) (pa_cons (pe_dget hu (pv 0) pe_str (fun _ _ => rfl)) pa_nil))) (fun _ _ => rfl)))) pss_nil)
    (Evl.pss_cut (ps_if (PW.pt (pw_and (pt_cmpR op_lt (pv 3) (pe_callB (call_lenK (K := K)) (by rfl) T.b_len (by decide +kernel) (pa_cons (pe_dget hu (pv 0) pe_str (fun _ _ => rfl)) pa_nil)) (nomark _)) (pw_and1 (pt_cmpR op_ge (pe_callB call_abs (by rfl) T.b_abs (by decide +kernel) (pa_cons (pv 4) pa_nil)) (pe_op op_pow pe_int pe_int) (nomark _))))) (pss_cons (ps_dput hu (pv 0) pe_str (pe_op op_fdiv (pe_op op_sub (pe_callB call_abs (by rfl) T.b_abs (by decide +kernel) (pa_cons (pv 4) pa_nil)) (pe_op op_pow pe_int pe_int)) (pv 1)) rfl)
    (pss_one (ps_ret (pe_op op_mod (pe_callTy call_int1 (by rfl) T.b_int (by decide +kernel) (pa_cons (pe_op op_sub (pe_callB call_abs (by rfl) T.b_abs (by decide +kernel) (pa_cons (pv 4) pa_nil)) (pe_op op_pow pe_int pe_int)) pa_nil)) (pv 1))))) pss_nil)
    (pss_cons (ps_set (i := 5) sc_draw.nd rfl (by first | exact Or.inl rfl | exact Or.inr rfl) (pe_op op_mul (pe_op op_mod (pe_callTy call_int1 (by rfl) T.b_int (by decide +kernel) (pa_cons (pv 4) pa_nil)) pe_int) pe_int))
    (pss_cons (ps_set (i := 5) sc_draw.nd rfl (by first | exact Or.inl rfl | exact Or.inr rfl) (pe_op op_mod (pe_callTy call_int1 (by rfl) T.b_int (by decide +kernel) (pa_cons (pe_op op_add (pe_op op_add (pv 5) (pe_op op_mul (pv 3) (pe_op op_add (pe_op op_mul (pv 3) pe_int) pe_int))) pe_int) pa_nil)) pe_int))
    (pss_cons (ps_set (i := 5) sc_draw.nd rfl (by first | exact Or.inl rfl | exact Or.inr rfl) (pe_op op_mod (pe_callTy call_int1 (by rfl) T.b_int (by decide +kernel) (pa_cons (pe_op op_mul (pv 5) (pe_op op_add (pv 5) pe_int)) pa_nil)) pe_int))
    (pss_cons (ps_set (i := 5) sc_draw.nd rfl (by first | exact Or.inl rfl | exact Or.inr rfl) (pe_op op_mod (pe_callTy call_int1 (by rfl) T.b_int (by decide +kernel) (pa_cons (pe_op op_add (pe_op op_add (pe_op op_mul (pv 5) (pv 5)) (pe_op op_mul pe_int (pv 5))) (pe_op op_mul pe_int (pv 3))) pa_nil)) pe_int))
    (pss_one (ps_ret (pe_op op_mod (pe_callTy call_int1 (by rfl) T.b_int (by decide +kernel) (pa_cons (pe_op op_fdiv (pe_op op_mod (pe_callTy call_int1 (by rfl) T.b_int (by decide +kernel) (pa_cons (pe_op op_mul (pv 5) (pe_op op_add (pv 5) pe_int)) pa_nil)) pe_int) pe_int) pa_nil)) (pv 1)))))))))))))), fun vs Q h => ?_⟩
  obtain ⟨M, ⟨p, n, N⟩, nd, sub, wf, ar, own, ⟨n0, n1, hN⟩, q⟩ := h
  have n0 : 0 < n := n0
  have n1 : n < 1073741824 := n1
  have hN : N ≤ 1000000000000 := hN
  have hpM : p ∈ M := sub p (List.mem_singleton.mpr rfl)
  obtain ⟨⟨c, ns, t, l, hp, nc, hc, hlen, h0, hT⟩, _⟩ := own
  have hT : t ≤ (N : Int) := hT
  obtain ⟨v1, v2, rfl, e1, e2⟩ : ∃ v1 v2, vs = [v1, v2] ∧ v1 = .ref p ∧ v2 = .int n := by
    match vs, ar with
    | [v1, v2], h => exact ⟨v1, v2, rfl, h.1, h.2.1⟩
  subst e1 e2
  clear ar
  have pc : c ≠ p := ne_of hc hp (by intro z; cases z)
  have small : ∀ {a b d : Int}, (penD c a b).length < sizeLine := by intros; show 3 < sizeLine; decide
  -- the end of every way
  have fin : ∀ (r : Int) (H' : Hp) (t' l' : Int), 0 ≤ r → r < n → Ke [p] H H' → H' p = some (.dK (penD c t' l')) → H' c = some (.lst (ns.map V.int)) → 0 ≤ t' → t' ≤ t + 1 → Q (.int r) H' := fun r H' t' l' r0 r1 k e ec t0 t1 =>
    q _ r [mPen (N + 1)] H' k ⟨⟨c, ns, t', l', e, nc, ec, hlen, t0, by show t' ≤ ((N + 1 : Nat) : Int); omega⟩, trivial⟩ rfl ⟨r0, r1, rfl⟩
  have kp : ∀ {H1 : Hp} {o : HO}, Ke [p] H1 (upd H1 p o) := Ke.mut (List.mem_singleton.mpr rfl)
  -- if left > 0
  refine ⟨_, rfl, p, _, rfl, (by have z := DGet.k (k := kL) hp; rw [pen_left] at z; exact z), l, 0, rfl, rfl, _, rfl, ite2 (fun c1 => ?_) (fun c1 => ?_)⟩
  · refine ⟨_, rfl, p, _, rfl, (by have z := DGet.k (k := kL) hp; rw [pen_left] at z; exact z), .inl ⟨l, rfl, _, rfl, l, n, rfl, rfl, n0, ?_⟩⟩
    refine ⟨_, rfl, p, _, rfl, (by have z := DGet.k (k := kL) hp; rw [pen_left] at z; exact z), _, rfl, l, n, rfl, rfl, ⟨n0, n1⟩, _, rfl, p, _, rfl, DPut.k (k := kL) hp (by show 3 < sizeLine; decide), _, rfl, ?_⟩
    refine fin _ _ t (l / n) (Int.emod_nonneg _ (by omega)) (Int.emod_lt_of_pos _ n0) kp (by rw [upd_same, put_left]) (by rw [upd_ne pc]; exact hc) h0 (by omega)
  -- turn
  refine ⟨_, rfl, p, _, rfl, (by have z := DGet.k (k := kT) hp; rw [pen_turn] at z; exact z), ?_⟩
  refine ⟨_, rfl, t, 1, rfl, rfl, _, rfl, p, _, rfl, DPut.k (k := kT) hp (by show 3 < sizeLine; decide), ?_⟩
  rw [put_turn]
  have hp1 : (upd H p (.dK (penD c (t + 1) l))) p = some (.dK (penD c (t + 1) l)) := upd_same
  have hc1 : (upd H p (.dK (penD c (t + 1) l))) c = some (.lst (ns.map V.int)) := by rw [upd_ne pc]; exact hc
  have k1 : Ke [p] H (upd H p (.dK (penD c (t + 1) l))) := kp
  generalize hH1 : upd H p (.dK (penD c (t + 1) l)) = H1 at hp1 hc1 k1 ⊢
  -- cell
  refine ⟨_, rfl, 61, t, rfl, rfl, .inl ⟨by decide, by decide⟩, _, _, rfl, rfl, ?_⟩
  -- if cells != []; what follows is shown for any cell
  refine Evl.q_cut (M := fun σ' H' => ∃ cell : Int, σ' = [some (.ref p), some (.int n), none, some (.int t), some (.int cell), none] ∧ Ke [p] H H' ∧ H' p = some (.dK (penD c (t + 1) l)) ∧ H' c = some (.lst (ns.map V.int))) ?_ ?_
  · refine ⟨_, rfl, p, _, rfl, (by have z := DGet.k (k := kC) hp1; rw [pen_cells] at z; exact z), (by show 0 ≤ sizeLine; decide), fun e he => ?_⟩
    have hce : c ≠ e := ne_of_none hc1 he
    have hpe : p ≠ e := ne_of_none hp1 he
    have hp2 : (upd H1 e (.lst [])) p = some (.dK (penD c (t + 1) l)) := by rw [upd_ne hpe]; exact hp1
    have hc2 : (upd H1 e (.lst [])) c = some (.lst (ns.map V.int)) := by rw [upd_ne hce]; exact hc1
    have k2 : Ke [p] H (upd H1 e (.lst [])) := k1.trans (Ke.new he)
    refine ⟨_, _, .lst (SqL.of hc2) (dpAll_ints K _ ns), .lst (SqL.of upd_same) .nil, shp_ints ns, shp_ints [], _, rfl, ?_⟩
    refine ite2 (fun c2 => ?_) (fun c2 => ?_)
    · have hns : 0 < ns.length := by
        cases ns with
        | nil => exact absurd c2 (by decide)
        | cons x r => exact Nat.succ_pos _
      obtain ⟨v, hv⟩ := atI_mod (k := t) hns
      have hl : ((ns.map V.int).length : Int) = (ns.length : Int) := by rw [List.length_map]
      refine ⟨_, rfl, p, _, rfl, (by have z := DGet.k (k := kC) hp2; rw [pen_cells] at z; exact z), _, rfl, .inl ⟨t, rfl, _, rfl, p, _, rfl, (by have z := DGet.k (k := kC) hp2; rw [pen_cells] at z; exact z), c, _, rfl, .inl (SqL.of hc2), t, _, rfl, rfl, (by rw [hl]; omega), c, _, _, _, rfl, rfl, SqL.of hc2, (by rw [hl]; exact hv), v, rfl, k2, hp2, hc2⟩⟩
    · exact ⟨_, rfl, k2, hp2, hc2⟩
  rintro σ' H2 ⟨cell, rfl, k2, hp2, hc2⟩
  clear hp1 hc1 k1
  have absC : ∀ i : Int, (if i < 0 then -i else i) = (i.natAbs : Int) := fun i => by omega
  -- if turn < len(cells) and abs(cell) >= 10 ** 18
  refine Evl.q_cut (M := fun σ' H' => σ' = [some (.ref p), some (.int n), none, some (.int t), some (.int cell), none] ∧ H' = H2) ?_ ?_
  · refine ⟨_, rfl, _, rfl, p, _, rfl, (by have z := DGet.k (k := kC) hp2; rw [pen_cells] at z; exact z), c, _, rfl, .inl (SqL.of hc2), t, _, rfl, rfl, _, rfl, ite2 (fun c3 => ?_) (fun c3 => ⟨rfl, rfl⟩)⟩
    refine ⟨_, rfl, cell, rfl, 10, 18, rfl, rfl, ⟨by decide, by decide, by decide⟩, _, _, rfl, rfl, _, rfl, ite2 (fun c4 => ?_) (fun c4 => ⟨rfl, rfl⟩)⟩
    refine ⟨_, rfl, cell, rfl, 10, 18, rfl, rfl, ⟨by decide, by decide, by decide⟩, _, _, rfl, rfl, _, rfl, _, _, rfl, rfl, ⟨n0, n1⟩, _, rfl, p, _, rfl, DPut.k (k := kL) hp2 (by show 3 < sizeLine; decide), ?_⟩
    rw [put_left]
    refine ⟨_, rfl, cell, rfl, 10, 18, rfl, rfl, ⟨by decide, by decide, by decide⟩, _, _, rfl, rfl, .inl ⟨_, rfl, _, rfl, _, _, rfl, rfl, n0, ?_⟩⟩
    exact fin _ _ (t + 1) _ (Int.emod_nonneg _ (by omega)) (Int.emod_lt_of_pos _ n0) (k2.trans kp) upd_same (by rw [upd_ne pc]; exact hc2) (by omega) (by omega)
  rintro σ' H3 ⟨rfl, rfl⟩
  -- the mixing
  refine ⟨_, rfl, .inl ⟨cell, rfl, cell, 4294967087, rfl, rfl, (by show (0 : Int) < 4294967087; decide), _, 48611, rfl, rfl, .inr ⟨by decide, by decide⟩, ?_⟩⟩
  refine ⟨_, rfl, _, rfl, _, rfl, t, 27919, rfl, rfl, .inr ⟨by decide, by decide⟩, _, 10601, rfl, rfl, t, _, rfl, rfl, .inl ⟨by omega, by omega⟩, _, _, rfl, rfl, _, 41, rfl, rfl, .inl ⟨_, rfl, _, 4294967029, rfl, rfl, (by show (0 : Int) < 4294967029; decide), ?_⟩⟩
  dsimp only
  generalize hm2 : (cell % 4294967087 * 48611 + t * (t * 27919 + 10601) + 41) % 4294967029 = m2
  have b2 := Int.emod_nonneg (cell % 4294967087 * 48611 + t * (t * 27919 + 10601) + 41) (show (4294967029 : Int) ≠ 0 by decide)
  have d2 := Int.emod_lt_of_pos (cell % 4294967087 * 48611 + t * (t * 27919 + 10601) + 41) (show (0 : Int) < 4294967029 by decide)
  rw [hm2] at b2 d2
  clear hm2
  refine ⟨_, rfl, _, rfl, m2, 75013, rfl, rfl, m2, _, rfl, rfl, .inl ⟨by omega, by omega⟩, .inl ⟨_, rfl, _, 4294966997, rfl, rfl, (by show (0 : Int) < 4294966997; decide), ?_⟩⟩
  dsimp only
  generalize hm3 : (m2 * (m2 + 75013)) % 4294966997 = m3
  have b3 := Int.emod_nonneg (m2 * (m2 + 75013)) (show (4294966997 : Int) ≠ 0 by decide)
  have d3 := Int.emod_lt_of_pos (m2 * (m2 + 75013)) (show (0 : Int) < 4294966997 by decide)
  rw [hm3] at b3 d3
  clear hm3
  refine ⟨_, rfl, _, rfl, m3, m3, rfl, rfl, .inl ⟨by omega, by omega⟩, _, rfl, 30427, m3, rfl, rfl, .inl ⟨by decide, by decide⟩, _, _, rfl, rfl, _, rfl, 19, t, rfl, rfl, .inl ⟨by decide, by decide⟩, _, _, rfl, rfl, .inl ⟨_, rfl, _, 4294966981, rfl, rfl, (by show (0 : Int) < 4294966981; decide), ?_⟩⟩
  dsimp only
  generalize hm4 : (m3 * m3 + 30427 * m3 + 19 * t) % 4294966981 = m4
  have b4 := Int.emod_nonneg (m3 * m3 + 30427 * m3 + 19 * t) (show (4294966981 : Int) ≠ 0 by decide)
  have d4 := Int.emod_lt_of_pos (m3 * m3 + 30427 * m3 + 19 * t) (show (0 : Int) < 4294966981 by decide)
  rw [hm4] at b4 d4
  clear hm4
  refine ⟨_, rfl, _, rfl, m4, 58111, rfl, rfl, m4, _, rfl, rfl, .inl ⟨by omega, by omega⟩, .inl ⟨_, rfl, _, 4294966943, rfl, rfl, (by show (0 : Int) < 4294966943; decide), _, 64, rfl, rfl, ⟨by decide, by decide⟩, .inl ⟨_, rfl, _, rfl, _, n, rfl, rfl, n0, ?_⟩⟩⟩
  exact fin _ _ (t + 1) l (Int.emod_nonneg _ (by omega)) (Int.emod_lt_of_pos _ n0) k2 hp2 hc2 (by omega) (by omega)
abbrev spPen (K : PySem.W.Frag) : Sp := SpO (A := List Int) (fun ns => [⟨yScr K, ns⟩]) (fun ns => ns.length ≤ 63) (fun _ m => m = mPen 0)
theorem cut63 {α : Type} (f : Int → α) (ns : List Int) (h : ns.length ≤ 63) : cutV (ns.map V.int) none (some 63) = ns.map V.int := by
  unfold cutV
  rw [HT.sIx_none]
  have e : HT.sIx (ns.map V.int).length (ns.map V.int).length (some 63) = min 63 (ns.map V.int).length := HT.sIx_nat _ _ 63
  rw [e, List.drop_zero]
  exact List.take_of_length_le (by rw [List.length_map]; omega)
theorem ok_pen {f : Addr} {fd : FuncData} {k : Nat} (F : FnP K "_law_pen" s_pen f fd) (T : Tx w K mg) : FnOk P w K mg base CX0 (k + 1) f fd ["_law_script"] (spPen K) := by
  refine okN F sc_pen (fun vs H Q E h => ?_) (fun cdv A outer s H E hr => ?_)
  · obtain ⟨M, a, _, h, _⟩ := h
    exact h.len
  have hu := hu_of hr
  refine ⟨_, (pss_one (ps_ret (pe_disp (pps_cons pe_str (pe_callTy (call_listK (K := K)) (by rfl) T.b_list (by decide +kernel) (pa_cons (pe_slice (sl_listK (K := K)) (pv 0) po_none (po_some pe_int)) pa_nil)) (pps_cons pe_str pe_int (pps_cons pe_str pe_int pps_nil))) (by rfl) (by rfl) (fun z => by cases z) (by decide)))), fun vs Q h => ?_⟩
  obtain ⟨M, ns, wf, ar, hl, q⟩ := h
  obtain ⟨v1, rfl, a, rfl, hs⟩ : ∃ v1, vs = [v1] ∧ ∃ a, v1 = .ref a ∧ ∀ H', (Ke M H H' → SqL K H' a (ns.map V.int)) := by
    match vs, ar with
    | [v1], h => exact ⟨v1, rfl, h.1⟩
  intro p hp
  have kp : Ke M H (upd H p (.dK [])) := Ke.new hp
  refine ⟨_, rfl, 63, rfl, a, _, rfl, hs _ kp, fun b hb => ?_⟩
  have hbp : p ≠ b := ne_of_none upd_same hb
  refine ⟨b, _, rfl, .inl (SqL.of upd_same), fun c hc => ?_⟩
  have hcp : p ≠ c := ne_of_none (by rw [upd_ne hbp]; exact upd_same) hc
  refine ⟨by rw [upd_ne hcp, upd_ne hbp, upd_same], [(kC, .ref c), (kT, .int 0), (kL, .int 0)], rfl, (by show 3 ≤ 15; decide), ?_⟩
  have em : mergeK ([] : List (Key × V)) [(kC, .ref c), (kT, .int 0), (kL, .int 0)] = penD c 0 0 := by
    show putK (putK (putK [] kC (.ref c)) kT (.int 0)) kL (.int 0) = _
    rfl
  rw [em]
  have k3 : Ke [] H (upd (upd (upd H p (.dK [])) b (.lst (cutV (ns.map V.int) none (some 63)))) c (.lst (cutV (ns.map V.int) none (some 63)))) := ((Ke.new hp).trans (Ke.new hb)).trans (Ke.new hc)
  have k4 : Ke [] H (upd (upd (upd (upd H p (.dK [])) b (.lst (cutV (ns.map V.int) none (some 63)))) c (.lst (cutV (ns.map V.int) none (some 63)))) p (.dK (penD c 0 0))) := ⟨fun x o _ e => by rw [upd_ne (ne_of_none e hp)]; exact k3.one e, fun x o e => ⟨o, by rw [upd_ne (ne_of_none e hp)]; exact k3.one e⟩⟩
  refine q p (mPen 0) _ hp k4 ⟨c, ns, 0, 0, upd_same, (fun z => ?_), (by rw [upd_ne (Ne.symm hcp), upd_same, cut63 V.int ns hl]), hl, by decide, by decide⟩ rfl
  rcases List.mem_cons.mp z with z | z
  · exact hcp z.symm
  · exact wf.not (((Ke.new hp).trans (Ke.new hb) : Ke [] H _).free hc) z
end
end Fp

namespace Fp
open PySem L2
section
variable {P : Program} {w : World} {K : PySem.W.Frag} {mg : Str → Option Value} {base : Heap} {ss : SS}
abbrev s_pick : Stmt := top 6
theorem sc_pick : FnScope ["_law_pen_here", "_law_options"] ["_law_pen_here", "_law_options"] (defScope s_pick) := ⟨rfl, rfl, rfl, by decide +kernel, rfl, by decide +kernel, by decide +kernel⟩

abbrev spPick {α : Type} (t : Ty α) : Sp := SpX (A := Addr × List α × Nat) (fun a => [a.1]) (fun a => [⟨yRef, a.1⟩, ⟨yList t, a.2.1⟩]) (fun a => [mPen a.2.2]) (fun a => a.2.1 ≠ [] ∧ a.2.1.length ≤ 100000 ∧ a.2.2 ≤ 100000000000) t (fun a x ms' => x ∈ a.2.1 ∧ ms' = [mPen (a.2.2 + 1)])
theorem ok_pick {α : Type} {t : Ty α} {f fD : Addr} {fd fdD : FuncData} (F : FnP K "_law_pick" s_pick f fd) (T : Tx w K mg) (D_draw : Def P w K mg base 1 "_law_draw" ["_law_pen_here", "_law_span"] spDraw fD fdD) : FnOk P w K mg base CX0 2 f fd ["_law_pen_here", "_law_options"] (spPick t) := by
  refine fnX F sc_pick (fun _ => rfl) fun cdv A outer s H E hr => ?_
  refine ⟨_, (pss_one (ps_ret (pe_ix (ix_listK (K := K)) (pv 1) (pe_call D_draw.ok (hr.mono (by omega)) (by rfl) D_draw.mg D_draw.kp D_draw.bi .nil pass0 (pa_cons (pv 0) (pa_cons (pe_callB (call_lenK (K := K)) (by rfl) T.b_len (by decide +kernel) (pa_cons (pv 1) pa_nil)) pa_nil))) (fun _ _ => rfl)))), fun ⟨p, xs, N⟩ ⟨h0, hl, hN⟩ => ?_⟩
  have hl : xs.length ≤ 100000 := hl
  have hN : N ≤ 100000000000 := hN
  have h0 : 0 < xs.length := List.length_pos_iff.mpr h0
  refine xs_retX (xe_ixL (xe_of (ve_v rfl) (xe_draw (i := 0) (j := 0) rfl rfl (xe_of (ve_len seqL (ve_v rfl)) ⟨N, rfl, by show (0 : Int) < (xs.length : Int); omega, by show (xs.length : Int) < 1073741824; omega, by show N ≤ 1000000000000; omega, fun r r0 r1 => ?_⟩))))
  have r1 : r < (xs.length : Int) := r1
  have hr : r.toNat < xs.length := by omega
  exact ⟨r.toNat, xs[r.toNat], by omega, List.getElem?_eq_getElem hr, List.getElem_mem hr, rfl⟩
end
end Fp

namespace Fp
open PySem L2
/-! ### trees: what k30 asks -/
theorem letters_pos : ∀ T : Tree, 0 < T.letters.length
  | .leaf _ => by simp [Tree.letters]
  | .node l r => by
    have := letters_pos l
    unfold Tree.letters
    rw [List.length_append]
    omega
theorem height_lt : ∀ T : Tree, T.height < T.letters.length
  | .leaf _ => by simp [Tree.letters, Tree.height]
  | .node l r => by
    have h1 := height_lt l
    have h2 := height_lt r
    have p1 := letters_pos l
    have p2 := letters_pos r
    unfold Tree.letters Tree.height
    rw [List.length_append]
    rcases Nat.le_total l.height r.height with h | h
    · rw [Nat.max_eq_right h]; omega
    · rw [Nat.max_eq_left h]; omega
def Tree.size : Tree → Nat
  | .leaf _ => 1
  | .node l r => l.size + r.size + 1
theorem size_pos : ∀ T : Tree, 0 < T.size
  | .leaf _ => by simp [Tree.size]
  | .node l r => by unfold Tree.size; omega
def Tree.data : Tree → PyData
  | .leaf i => .int i
  | .node l r => .tuple [l.data, r.data]
theorem data_can : ∀ T : Tree, T.data.canLay0 = true
  | .leaf _ => rfl
  | .node l r => by
    show (l.data.canLay0 && (r.data.canLay0 && true)) = true
    rw [data_can l, data_can r] <;> rfl
theorem isD_tree {K : PySem.W.Frag} : IsD K (yTree K) Tree.data := ⟨fun {M H v x} h => by
  have key : ∀ (T : Tree) (v : V), trep K M H T v → Dp K H v T.data := by
    intro T
    induction T with
    | leaf i => intro v h; have e : v = .int i := h; subst e; exact .int i
    | node l r ih1 ih2 =>
      intro v h
      obtain ⟨a, x, y, e, h, h1, h2⟩ := h
      subst e
      exact .tup h.sq (.cons (ih1 x h1) (.cons (ih2 y h2) .nil))
  exact key x v h⟩
/-- the tree as a text -/
def joinS (a b : Str) : Str := (("(" : Str) ++ a) ++ b ++ (")" : Str)
def leafS (i : Int) : Str := (toString i : Str) ++ ("." : Str)
def Tree.txt (T : Tree) : Str := T.ev leafS joinS
theorem leafS_len : ∀ i ∈ upto 51, (leafS i).length ≤ 3 := by decide +kernel
theorem log_small : ∀ i ∈ upto 51, i.natAbs.log2 < 1920 := by decide +kernel
theorem txt_len : ∀ T : Tree, (∀ i ∈ T.letters, i ∈ upto 51) → T.txt.length + 2 ≤ 5 * T.letters.length
  | .leaf i, h => by
    have := leafS_len i (h i (by simp [Tree.letters]))
    show (leafS i).length + 2 ≤ 5 * 1
    omega
  | .node l r, h => by
    have h1 := txt_len l fun i hi => h i (List.mem_append_left _ hi)
    have h2 := txt_len r fun i hi => h i (List.mem_append_right _ hi)
    show (joinS l.txt r.txt).length + 2 ≤ 5 * (l.letters ++ r.letters).length
    unfold joinS
    rw [Str.length_append, Str.length_append, Str.length_append, List.length_append, show (("(" : Str)).length = 1 from by decide +kernel, show ((")" : Str)).length = 1 from by decide +kernel]
    omega
/-- each node's sides fit -/
def OkT {α : Type} (pre : α × α → Prop) (d : Int → α) (op : α → α → α) : Tree → Prop
  | .leaf _ => True
  | .node l r => OkT pre d op l ∧ OkT pre d op r ∧ pre (l.ev d op, r.ev d op)
theorem okT_true {α : Type} {d : Int → α} {op : α → α → α} : ∀ T : Tree, OkT (fun _ => True) d op T
  | .leaf _ => trivial
  | .node l r => ⟨okT_true l, okT_true r, trivial⟩
theorem okT_txt : ∀ T : Tree, T.letters.length ≤ 10000 → (∀ i ∈ T.letters, i ∈ upto 51) → OkT (fun p : Str × Str => p.1.length + p.2.length ≤ 100000) leafS joinS T
  | .leaf _, _, _ => trivial
  | .node l r, hl, h => by
    have h1 := txt_len l fun i hi => h i (List.mem_append_left _ hi)
    have h2 := txt_len r fun i hi => h i (List.mem_append_right _ hi)
    have e : (l.letters ++ r.letters).length ≤ 10000 := hl
    rw [List.length_append] at e
    refine ⟨okT_txt l (by omega) fun i hi => h i (List.mem_append_left _ hi), okT_txt r (by omega) fun i hi => h i (List.mem_append_right _ hi), ?_⟩
    show l.txt.length + r.txt.length ≤ 100000
    omega
theorem ev_sum (d : Int → Int) : ∀ T : Tree, T.ev d (· + ·) = (T.letters.map d).sum
  | .leaf i => by simp [Tree.ev, Tree.letters]
  | .node l r => by
    unfold Tree.letters
    show l.ev d (· + ·) + r.ev d (· + ·) = _
    rw [List.map_append, List.sum_append, ev_sum d l, ev_sum d r]
theorem ev_first (d : Int → Int) : ∀ T : Tree, ∃ i, T.letters[0]? = some i ∧ T.ev d (fun a _ => a) = d i
  | .leaf i => ⟨i, rfl, rfl⟩
  | .node l r => by
    obtain ⟨i, h1, h2⟩ := ev_first d l
    refine ⟨i, ?_, h2⟩
    unfold Tree.letters
    rw [List.getElem?_append_left (letters_pos l)]
    exact h1
/-- the stack of leaves -/
def stackL (todo : List Tree) : List Int := (todo.reverse.map Tree.letters).flatten
theorem stackL_snoc (ts : List Tree) (T : Tree) : stackL (ts ++ [T]) = T.letters ++ stackL ts := by
  unfold stackL
  rw [List.reverse_append]
  rfl
theorem stackL_len : ∀ ts : List Tree, ts.length ≤ (stackL ts).length := fun ts => by
  have key : ∀ us : List Tree, us.length ≤ ((us.map Tree.letters).flatten).length := by
    intro us
    induction us with
    | nil => exact Nat.le_refl _
    | cons u us ih =>
      have := letters_pos u
      show us.length + 1 ≤ (u.letters ++ (us.map Tree.letters).flatten).length
      rw [List.length_append]
      omega
  have h := key ts.reverse
  rw [List.length_reverse] at h
  exact h
def sizes (ts : List Tree) : Nat := (ts.map Tree.size).sum
theorem sizes_snoc (ts : List Tree) (T : Tree) : sizes (ts ++ [T]) = sizes ts + T.size := by
  unfold sizes
  rw [List.map_append, List.sum_append]
  simp
/-- the stack of texts and trees -/
def pieceS : Tree ⊕ Str → Str
  | .inl T => T.txt
  | .inr z => z
def pieceN : Tree ⊕ Str → Nat
  | .inl T => 2 * T.size
  | .inr _ => 1
def stackS : List (Tree ⊕ Str) → Str
  | [] => Str.empty
  | p :: ps => stackS ps ++ pieceS p
def stackN (ps : List (Tree ⊕ Str)) : Nat := (ps.map pieceN).sum
theorem str_empty (a : Str) : Str.empty ++ a = a := Str.append_left_empty rfl
theorem str_empty' (a : Str) : a ++ Str.empty = a := Str.append_right_empty rfl
theorem stackS_app : ∀ ps qs : List (Tree ⊕ Str), stackS (ps ++ qs) = stackS qs ++ stackS ps
  | [], qs => (str_empty' _).symm
  | p :: ps, qs => by
    show stackS (ps ++ qs) ++ pieceS p = _
    rw [stackS_app ps qs, Str.append_assoc]
    rfl
theorem stackS_one (p : Tree ⊕ Str) : stackS [p] = pieceS p := str_empty _
theorem stackN_app (ps qs : List (Tree ⊕ Str)) : stackN (ps ++ qs) = stackN ps + stackN qs := by
  unfold stackN
  rw [List.map_append, List.sum_append]
/-- brackets put anywhere keep the letters -/
theorem flat_mid {ts : List Tree} {k : Nat} {a b : Tree} (ha : ts[k]? = some a) (hb : ts[k + 1]? = some b) : ((ts.take k ++ [Tree.node a b] ++ ts.drop (k + 2)).map Tree.letters).flatten = (ts.map Tree.letters).flatten := by
  have h1 : k < ts.length := (List.getElem?_eq_some_iff.mp ha).1
  have h2 : k + 1 < ts.length := (List.getElem?_eq_some_iff.mp hb).1
  have e1 : ts[k] = a := (List.getElem?_eq_some_iff.mp ha).2
  have e2 : ts[k + 1] = b := (List.getElem?_eq_some_iff.mp hb).2
  have e : ts = ts.take k ++ [a, b] ++ ts.drop (k + 2) := by
    conv => lhs; rw [← List.take_append_drop k ts]
    rw [List.append_assoc]
    congr 1
    rw [List.drop_eq_getElem_cons h1, e1, List.drop_eq_getElem_cons h2, e2]
    rfl
  conv => rhs; rw [e]
  simp [Tree.letters]
theorem flat_leaves : ∀ ns : List Int, ((ns.map Tree.leaf).map Tree.letters).flatten = ns
  | [] => rfl
  | n :: ns => by
    show [n] ++ _ = _
    rw [flat_leaves ns]
    rfl
end Fp

namespace Fp
open PySem PySem.Spec PyProof.Rows L2
theorem seqScr {K : PySem.W.Frag} : SeqY K yInt (yScr K) := ⟨fun {M H v ns} ⟨a, e, h⟩ => ⟨a, ns.map V.int, e, .inl (h H Ke.refl), by
  have key : ∀ ns : List Int, P2 (yInt.rep M H) (ns.map V.int) ns := by
    intro ns
    induction ns with
    | nil => trivial
    | cons n ns ih => exact ⟨rfl, ih⟩
  exact key ns⟩⟩
section
variable {P : Program} {w : World} {K : PySem.W.Frag} {mg : Str → Option Value} {base : Heap} {ss : SS}
structure SelfD (K : PySem.W.Frag) (mg : Str → Option Value) (x : Str) (ps : List Str) (f : Addr) (fd : FuncData) : Prop where
  bi : Binds K fd ps []
  kp : PySem.W.keepIn K (.ref f) = true
  mg : mg x = some (.ref f)
/-! ### letters -/
abbrev s_letters : Stmt := top 1
theorem sc_letters : FnScope ["tree"] ["tree"] (defScope s_letters) := ⟨rfl, rfl, rfl, by decide +kernel, rfl, by decide +kernel, by decide +kernel⟩

abbrev spLet (K : PySem.W.Frag) (h : Nat) : Sp := SpF (A := Tree) (fun T => [⟨yTree K, T⟩]) (fun T => T.height < h ∧ T.letters.length ≤ 1000000) (yList yInt) Tree.letters
theorem ok_letters {f : Addr} {fd : FuncData} (F : FnP K "letters" s_letters f fd) (T : Tx w K mg) (S : SelfD K mg "letters" ["tree"] f fd) : ∀ h, FnG P w K mg base CX0 h (3 * h + 200) f fd ["tree"] (spLet K h)
  | 0 => ⟨fun vs H Q E ⟨M, a, _, _, _, h, _⟩ => h.len, fun A outer s H args us vs Q E _ _ _ _ ⟨M, a, _, _, _, _, _, hp, _⟩ => absurd hp.1 (Nat.not_lt_zero _)⟩
  | h + 1 => by
    have D_letters : DefG P w K mg base h (3 * h + 200) "letters" ["tree"] (spLet K h) f fd := ⟨ok_letters F T S h, S.bi, S.kp, S.mg⟩
    refine fnG F rfl sc_letters (fun _ => rfl) fun A outer s H E hr => ?_
    refine ⟨_, (pss_cons (ps_if (pt_not (pt_val (pe_callB (call_isiX (K := K)) (by rfl) T.b_isinstance (by decide +kernel) (pa_cons (pv 0) (pa_cons (pe_bltn (v := .ty "tuple") (by rfl) T.b_tuple (by decide +kernel) rfl) pa_nil))))) (pss_one (ps_ret (pe_lst (pa_cons (pv 0) pa_nil)))) pss_nil)
    (pss_one (ps_ret (pe_op op_cat (pe_callG D_letters.ok (hr.less (by omega)) (by rfl) D_letters.mg D_letters.kp D_letters.bi .nil pass0 (pa_cons (pe_ix (ix_tupK (K := K)) (pv 0) pe_int (fun _ _ => rfl)) pa_nil)) (pe_callG D_letters.ok (hr.less (by omega)) (by rfl) D_letters.mg D_letters.kp D_letters.bi .nil pass0 (pa_cons (pe_ix (ix_tupK (K := K)) (pv 0) pe_int (fun _ _ => rfl)) pa_nil)))))), fun t ⟨hh, hl⟩ => ?_⟩
    refine xs_seq (xs_if (vb_not (vb_test (ve_isNode (ve_v rfl)))) (fun e => ?_) (fun e => xs_next ?_))
    · cases t with
      | leaf i => exact xs_ret (ve_lst (vi_cons (ve_num (K := K) (ve_v rfl)) vi_nil) (by show 1 ≤ 1000000; decide)) rfl
      | node l r => cases e
    · cases t with
      | leaf i => cases e
      | node l r =>
        have hh : max l.height r.height + 1 < h + 1 := hh
        have hl : (l.letters ++ r.letters).length ≤ 1000000 := hl
        rw [List.length_append] at hl
        exact xs_ret (ve_cat (ve_call l (vs_cons (ve_t0 (ve_v rfl) ve_int) vs_nil) ⟨by have := Nat.le_max_left l.height r.height; omega, by omega⟩) (ve_call r (vs_cons (ve_t1 (ve_v rfl) ve_int) vs_nil) ⟨by have := Nat.le_max_right l.height r.height; omega, by omega⟩) hl) rfl
abbrev spLetN (K : PySem.W.Frag) (h : Nat) : Sp := SpO (A := Tree) (fun T => [⟨yTree K, T⟩]) (fun T => T.height < h + 1 ∧ T.letters.length ≤ 1000000) (fun T m => m = mL yInt T.letters)
theorem ok_lettersN {f : Addr} {fd : FuncData} {h : Nat} (F : FnP K "letters" s_letters f fd) (T : Tx w K mg) (D_letters : DefG P w K mg base h (3 * h + 200) "letters" ["tree"] (spLet K h) f fd) : FnG P w K mg base CX0 (h + 1) (3 * h + 200 + 3) f fd ["tree"] (spLetN K h) := by
  refine fnGN F rfl sc_letters (fun _ => rfl) fun A outer s H E hr => ?_
  refine ⟨_, (pss_cons (ps_if (pt_not (pt_val (pe_callB (call_isiX (K := K)) (by rfl) T.b_isinstance (by decide +kernel) (pa_cons (pv 0) (pa_cons (pe_bltn (v := .ty "tuple") (by rfl) T.b_tuple (by decide +kernel) rfl) pa_nil))))) (pss_one (ps_ret (pe_lst (pa_cons (pv 0) pa_nil)))) pss_nil)
    (pss_one (ps_ret (pe_op op_cat (pe_callG D_letters.ok (hr.less (by omega)) (by rfl) D_letters.mg D_letters.kp D_letters.bi .nil pass0 (pa_cons (pe_ix (ix_tupK (K := K)) (pv 0) pe_int (fun _ _ => rfl)) pa_nil)) (pe_callG D_letters.ok (hr.less (by omega)) (by rfl) D_letters.mg D_letters.kp D_letters.bi .nil pass0 (pa_cons (pe_ix (ix_tupK (K := K)) (pv 0) pe_int (fun _ _ => rfl)) pa_nil)))))), fun t ⟨hh, hl⟩ => ?_⟩
  refine xs_seq (xs_if (vb_not (vb_test (ve_isNode (ve_from (ve_v rfl))))) (fun e => ?_) (fun e => xs_next ?_))
  · cases t with
    | leaf i => exact xs_retN (g := 0) rfl (xn_lst (vi_cons (ve_num (K := K) (ve_from (ve_v rfl))) vi_nil) (by show 1 ≤ 1000000; decide) rfl)
    | node l r => cases e
  · cases t with
    | leaf i => cases e
    | node l r =>
      have hh : max l.height r.height + 1 < h + 1 := hh
      have hl : (l.letters ++ r.letters).length ≤ 1000000 := hl
      rw [List.length_append] at hl
      exact xs_retN (g := 0) rfl (xn_cat (ve_call l (vs_cons (ve_t0 (ve_from (ve_v rfl)) ve_int) vs_nil) ⟨by have := Nat.le_max_left l.height r.height; omega, by omega⟩) (ve_call r (vs_cons (ve_t1 (ve_from (ve_v rfl)) ve_int) vs_nil) ⟨by have := Nat.le_max_right l.height r.height; omega, by omega⟩) hl rfl)
/-! ### value_of -/
abbrev s_value_of : Stmt := top 2
theorem sc_value_of : FnScope ["tree", "values", "operation", "left"] ["tree", "values", "operation"] (defScope s_value_of) := ⟨rfl, rfl, rfl, by decide +kernel, rfl, by decide +kernel, by decide +kernel⟩

abbrev spOp {α : Type} (t : Ty α) (pre : α × α → Prop) (op : α → α → α) : Sp := SpF (A := α × α) (fun a => [⟨t, a.1⟩, ⟨t, a.2⟩]) pre t (fun a => op a.1 a.2)
abbrev spVal {α : Type} (P : Program) (w : World) (K : PySem.W.Frag) (mg : Str → Option Value) (base : Heap) (t : Ty α) (pre : α × α → Prop) (op : α → α → α) (h : Nat) : Sp := SpF (A := Tree × List α × Addr × (Int → α)) (fun a => [⟨yTree K, a.1⟩, ⟨yList t, a.2.1⟩, ⟨yCall P w K mg base 1 (spOp t pre op), a.2.2.1⟩])
  (fun a => a.1.height < h ∧ (∀ i ∈ a.1.letters, 0 ≤ i ∧ a.2.1[i.toNat]? = some (a.2.2.2 i)) ∧ OkT pre a.2.2.2 op a.1) t (fun a => a.1.ev a.2.2.2 op)
theorem ok_value_of {α : Type} {t : Ty α} {pre : α × α → Prop} {op : α → α → α} {f : Addr} {fd : FuncData} (F : FnP K "value_of" s_value_of f fd) (T : Tx w K mg) (S : SelfD K mg "value_of" ["tree", "values", "operation"] f fd) : ∀ h, FnG P w K mg base CX0 (h + 20) (3 * h + 300) f fd ["tree", "values", "operation"] (spVal P w K mg base t pre op h)
  | 0 => ⟨fun vs H Q E ⟨M, a, _, _, _, h, _⟩ => h.len, fun A outer s H args us vs Q E _ _ _ _ ⟨M, a, _, _, _, _, _, hp, _⟩ => absurd hp.1 (Nat.not_lt_zero _)⟩
  | h + 1 => by
    have D_value_of : DefG P w K mg base (h + 20) (3 * h + 300) "value_of" ["tree", "values", "operation"] (spVal P w K mg base t pre op h) f fd := ⟨ok_value_of F T S h, S.bi, S.kp, S.mg⟩
    refine fnG F rfl sc_value_of (fun _ => rfl) fun A outer s H E hr => ?_
    refine ⟨_, (pss_cons (ps_if (pt_not (pt_val (pe_callB (call_isiX (K := K)) (by rfl) T.b_isinstance (by decide +kernel) (pa_cons (pv 0) (pa_cons (pe_bltn (v := .ty "tuple") (by rfl) T.b_tuple (by decide +kernel) rfl) pa_nil))))) (pss_one (ps_ret (pe_ix (ix_listK (K := K)) (pv 1) (pv 0) (fun _ _ => rfl)))) pss_nil)
    (pss_cons (ps_set (i := 3) sc_value_of.nd rfl (by first | exact Or.inl rfl | exact Or.inr rfl) (pe_callG D_value_of.ok (hr.less (by omega)) (by rfl) D_value_of.mg D_value_of.kp D_value_of.bi .nil pass0 (pa_cons (pe_ix (ix_tupK (K := K)) (pv 0) pe_int (fun _ _ => rfl)) (pa_cons (pv 1) (pa_cons (pv 2) pa_nil)))))
    (pss_one (ps_ret (pe_callVK (P := P) (w := w) (K := K) (mg := mg) (base := base) (k := 1) (sp := spOp t pre op) (i := 2) (hr.mono (by omega)) rfl (by first | exact .inl rfl | exact .inr (.inl rfl)) (pa_cons (pv 3) (pa_cons (pe_callG D_value_of.ok (hr.less (by omega)) (by rfl) D_value_of.mg D_value_of.kp D_value_of.bi .nil pass0 (pa_cons (pe_ix (ix_tupK (K := K)) (pv 0) pe_int (fun _ _ => rfl)) (pa_cons (pv 1) (pa_cons (pv 2) pa_nil)))) pa_nil))))))), fun ⟨tr, vals, g, d⟩ ⟨hh, hv, ho⟩ => ?_⟩
    have hv : ∀ i ∈ tr.letters, 0 ≤ i ∧ vals[i.toNat]? = some (d i) := hv
    refine xs_seq (xs_if (vb_not (vb_test (ve_isNode (ve_v rfl)))) (fun e => ?_) (fun e => xs_next ?_))
    · cases tr with
      | leaf i =>
        obtain ⟨h0, h1⟩ := hv i (by simp [Tree.letters])
        exact xs_ret (ve_ixL (i := i.toNat) (ve_v rfl) (ve_num (K := K) (ve_v rfl)) (by omega) h1) rfl
      | node l r => cases e
    · cases tr with
      | leaf i => cases e
      | node l r =>
        have hh : max l.height r.height + 1 < h + 1 := hh
        obtain ⟨o1, o2, o3⟩ := ho
        have pl : l.height < h ∧ (∀ i ∈ l.letters, 0 ≤ i ∧ vals[i.toNat]? = some (d i)) ∧ OkT pre d op l := ⟨by have := Nat.le_max_left l.height r.height; omega, fun i hi => hv i (List.mem_append_left _ hi), o1⟩
        have pr : r.height < h ∧ (∀ i ∈ r.letters, 0 ≤ i ∧ vals[i.toNat]? = some (d i)) ∧ OkT pre d op r := ⟨by have := Nat.le_max_right l.height r.height; omega, fun i hi => hv i (List.mem_append_right _ hi), o2⟩
        refine xs_seq (xs_asg (ve_call (l, vals, g, d) (vs_cons (ve_t0 (ve_v rfl) ve_int) (vs_cons (ve_v rfl) (vs_cons (ve_v rfl) vs_nil))) pl) ?_)
        exact xs_ret (ve_callV (t := t) (i := 2) (f := g) (sl := fun a : α × α => [⟨t, a.1⟩, ⟨t, a.2⟩]) (pre := pre) (g := fun a => op a.1 a.2) (l.ev d op, r.ev d op) rfl (vs_cons (ve_v rfl) (vs_cons (ve_call (r, vals, g, d) (vs_cons (ve_t1 (ve_v rfl) ve_int) (vs_cons (ve_v rfl) (vs_cons (ve_v rfl) vs_nil))) pr) vs_nil)) o3) rfl
/-! ### the law's own -/
abbrev s_join : Stmt := top 10
theorem sc_join : FnScope ["_law_left", "_law_right"] ["_law_left", "_law_right"] (defScope s_join) := ⟨rfl, rfl, rfl, by decide +kernel, rfl, by decide +kernel, by decide +kernel⟩

theorem ok_join {f : Addr} {fd : FuncData} {k : Nat} (F : FnP K "_law_join" s_join f fd) : FnOk P w K mg base CX0 (k + 1) f fd ["_law_left", "_law_right"] (spOp yStr (fun p => p.1.length + p.2.length ≤ 100000) joinS) := by
  refine fnX F sc_join (fun _ => rfl) fun cdv A outer s H E hr => ?_
  refine ⟨_, (pss_one (ps_ret (pe_op op_add_str (pe_op op_add_str (pe_op op_add_str pe_str (pv 0)) (pv 1)) pe_str))), fun ⟨a, b⟩ hl => ?_⟩
  have hl : a.length + b.length ≤ 100000 := hl
  have e1 : ((("(" : Str)) ++ a).length = 1 + a.length := by rw [Str.length_append]; rfl
  have e2 : (((("(" : Str)) ++ a) ++ b).length = 1 + a.length + b.length := by rw [Str.length_append, e1]
  exact xs_ret (ve_addS (ve_addS (ve_addS ve_str (ve_v rfl) (by show (("(" : Str)).length + a.length ≤ _; rw [show (("(" : Str)).length = 1 from by decide +kernel]; omega)) (ve_v rfl) (by show (("(" : Str) ++ a).length + b.length ≤ _; omega)) ve_str (by show ((("(" : Str) ++ a) ++ b).length + _ ≤ _; rw [e2, show ((")" : Str)).length = 1 from by decide +kernel]; omega)) rfl
abbrev s_leaves : Stmt := top 7
theorem sc_leaves : FnScope ["_law_part", "_law_todo", "_law_found", "_law_one"] ["_law_part"] (defScope s_leaves) := ⟨rfl, rfl, rfl, by decide +kernel, rfl, by decide +kernel, by decide +kernel⟩

abbrev spLeaves (K : PySem.W.Frag) : Sp := SpF (A := Tree) (fun T => [⟨yTree K, T⟩]) (fun T => T.letters.length ≤ 100000) (yList yInt) Tree.letters
theorem ok_leaves {f : Addr} {fd : FuncData} {k : Nat} (F : FnP K "_law_leaves" s_leaves f fd) (T : Tx w K mg) : FnOk P w K mg base CX0 (k + 1) f fd ["_law_part"] (spLeaves K) := by
  refine fnX F sc_leaves (fun _ => rfl) fun cdv A outer s H E hr => ?_
  refine ⟨_, (pss_cons (ps_par (i := 1) (j := 2) (by rfl) sc_leaves.nd rfl rfl (by decide) rfl rfl (pa_cons (pe_lst (pa_cons (pv 0) pa_nil)) (pa_cons (pe_lst pa_nil) pa_nil)) (by rfl))
    (pss_cons (ps_while PassesOwn.never (pt_cmpR (op_neM (K := K) (n := 190) (hr.fit (by omega))) (pv 1) (pe_lst pa_nil) (nomark _))
    (pss_cons (ps_set (i := 3) sc_leaves.nd rfl (by first | exact Or.inl rfl | exact Or.inr rfl) (toBM0 (K := K) (pe_bm0 PySem.F.plainAttrs_list PySem.F.slot_list_pop PySem.F.type_list_pop mt_pop (pv 1))))
    (pss_one (ps_if (pt_val (pe_callB (call_isiX (K := K)) (by rfl) T.b_isinstance (by decide +kernel) (pa_cons (pv 3) (pa_cons (pe_bltn (v := .ty "tuple") (by rfl) T.b_tuple (by decide +kernel) rfl) pa_nil)))) (pss_one (ps_expr (toBM (K := K) (pe_bm PySem.F.plainAttrs_list PySem.F.slot_list_extend PySem.F.type_list_extend mt_extend (pv 1) (pa_cons (pe_lst (pa_cons (pe_ix (ix_tupK (K := K)) (pv 3) pe_int (fun _ _ => rfl)) (pa_cons (pe_ix (ix_tupK (K := K)) (pv 3) pe_int (fun _ _ => rfl)) pa_nil))) pa_nil))))) (pss_one (ps_expr (toBM (K := K) (pe_bm PySem.F.plainAttrs_list PySem.F.slot_list_append PySem.F.type_list_append mt_append (pv 2) (pa_cons (pv 3) pa_nil)))))))))
    (pss_one (ps_ret (pv 2))))), fun tr hl => ?_⟩
  have hl : tr.letters.length ≤ 100000 := hl
  refine xs_par2 (xo_of (xn_lst (t := yTree K) (vi_cons (ve_v rfl) vi_nil) (by show 1 ≤ 1000000; decide) fun a => xo_of (xn_lst (t := yInt) vi_nil (Nat.zero_le _) fun b => ?_)))
  refine xs_seq (xs_while (fun m s' ms' => ∃ (todo : List Tree) (found : List Int) (o3 : Option Slot), m = sizes todo ∧ s' = [some ⟨yTree K, tr⟩, some ⟨yRef, a⟩, some ⟨yRef, b⟩, o3] ∧ ms' = [mL yInt found, mL (yTree K) todo] ∧ found ++ stackL todo = tr.letters) _ ⟨[tr], [], none, rfl, rfl, rfl, by show [] ++ (tr.letters ++ []) = _; simp⟩ ?_)
  rintro m s' ms' ⟨todo, found, o3, rfl, rfl, rfl, hp⟩
  have hlen : found.length + (stackL todo).length = tr.letters.length := by rw [← List.length_append, hp]
  have V : Vw ([b, a] ++ []) [mL yInt found, mL (yTree K) todo] [some ⟨yTree K, tr⟩, some ⟨yRef, a⟩, some ⟨yRef, b⟩, o3] [some ⟨yTree K, tr⟩, some ⟨yList (yTree K), todo⟩, some ⟨yRef, b⟩, o3] := vw_list (i := 1) (j := 1) (t := yTree K) (xs := todo) vw_refl rfl rfl rfl
  refine xt_view V (vb_test (ve_nil isD_tree data_can (ve_v rfl) (by decide))) ?_
  have hsl := stackL_len todo
  rcases List.eq_nil_or_concat todo with rfl | ⟨ts, x, rfl⟩
  · refine (if_neg (by decide)).mpr ?_
    refine xs_retL (i := 0) (ve_v rfl) rfl rfl ?_
    have hp : found ++ [] = tr.letters := hp
    rw [List.append_nil] at hp
    exact hp
  · rw [List.concat_eq_append] at hp hsl hlen V ⊢
    have hne : ((ts ++ [x]).isEmpty != true) = true := by cases ts <;> rfl
    refine (if_pos hne).mpr ?_
    rw [stackL_snoc] at hp
    rw [stackL_snoc, List.length_append] at hlen
    refine xs_seq (xs_asgX (xe_pop (i := 1) (ve_v rfl) rfl rfl ?_))
    refine xs_if (vb_test (ve_isNode (ve_v rfl))) (fun e => ?_) (fun e => ?_)
    · cases x with
      | leaf i => cases e
      | node l r =>
        refine xs_dropX (xe_ext (i := 1) (xs := ts) (ve_v rfl) rfl rfl (ve_lst (vi_cons (ve_t1 (ve_v rfl) ve_int) (vi_cons (ve_t0 (ve_v rfl) ve_int) vi_nil)) (by show 2 ≤ 1000000; decide)) ?_ ?_)
        · rw [List.length_append] at hsl
          show ts.length + 2 ≤ 1000000
          have : ts.length + 1 ≤ (stackL (ts ++ [Tree.node l r])).length := hsl
          rw [stackL_snoc, List.length_append] at this
          omega
        · refine ⟨_, ?_, ts ++ [r, l], found, _, rfl, rfl, rfl, ?_⟩
          · rw [show ts ++ [r, l] = (ts ++ [r]) ++ [l] by simp, sizes_snoc, sizes_snoc, sizes_snoc]
            show sizes ts + r.size + l.size < sizes ts + (l.size + r.size + 1)
            omega
          · rw [show ts ++ [r, l] = (ts ++ [r]) ++ [l] by simp, stackL_snoc, stackL_snoc, ← hp]
            show found ++ (l.letters ++ (r.letters ++ stackL ts)) = found ++ ((l.letters ++ r.letters) ++ stackL ts)
            rw [List.append_assoc]
    · cases x with
      | node l r => cases e
      | leaf i =>
        refine xs_dropX (xe_app (i := 0) (ve_v rfl) rfl (xe_of (ve_num (K := K) (ve_v rfl)) ⟨found, rfl, by omega, ?_⟩) rfl)
        refine ⟨_, ?_, ts, found ++ [i], _, rfl, rfl, rfl, ?_⟩
        · rw [sizes_snoc]
          show sizes ts < sizes ts + 1
          omega
        · rw [← hp, List.append_assoc]
          rfl
end
end Fp

namespace Fp
open PySem PySem.Spec PyProof.Rows L2
section
variable {P : Program} {w : World} {K : PySem.W.Frag} {mg : Str → Option Value} {base : Heap} {ss : SS}
def sumD : Tree ⊕ Str → PyData
  | .inl T => T.data
  | .inr z => .str z
def sumC : Tree ⊕ Str → String
  | .inl T => T.cls
  | .inr _ => "str"
abbrev yTS (K : PySem.W.Frag) : Ty (Tree ⊕ Str) := ySum (yTree K) yStr
theorem isD_sum : IsD K (yTS K) sumD := ⟨fun {M H v x} h => by
  cases x with
  | inl T => exact isD_tree.dp (x := T) h
  | inr z => exact isD_str.dp (M := M) (x := z) h⟩
theorem tySum : TyY K (yTS K) sumC := ⟨fun {M H v x} h => by
  cases x with
  | inl T => exact tyTree.ty (x := T) h
  | inr z => exact tyStr.ty (M := M) (x := z) h⟩
theorem size_letters : ∀ T : Tree, T.size + 1 = 2 * T.letters.length
  | .leaf _ => rfl
  | .node l r => by
    have h1 := size_letters l
    have h2 := size_letters r
    unfold Tree.size Tree.letters
    rw [List.length_append]
    omega
theorem stackN_len : ∀ ps : List (Tree ⊕ Str), ps.length ≤ stackN ps
  | [] => Nat.le_refl _
  | p :: ps => by
    have ih := stackN_len ps
    have hp : 1 ≤ pieceN p := by
      cases p with
      | inl T => have := size_pos T; show 1 ≤ 2 * T.size; omega
      | inr _ => exact Nat.le_refl _
    show ps.length + 1 ≤ pieceN p + stackN ps
    omega
def isT : Tree ⊕ Str → Bool
  | .inl T => T.isNode
  | .inr _ => false
def isS : Tree ⊕ Str → Bool
  | .inl _ => false
  | .inr _ => true
theorem ve_isT {te : TE} {x : Tree ⊕ Str} (h : Ve te ss (yTS K) x) : Ve (tCB (rIsi K) (tCons te (tCons (tC (.ty "tuple")) tNil))) ss yBool (isT x) := ve_isi (T := sumC) tySum h (by
  cases x with
  | inl T =>
    cases T with
    | leaf _ => exact (show kitB "int" "tuple" = some false by decide +kernel)
    | node _ _ => exact (show kitB "tuple" "tuple" = some true by decide +kernel)
  | inr _ => exact (show kitB "str" "tuple" = some false by decide +kernel))
theorem ve_isS {te : TE} {x : Tree ⊕ Str} (h : Ve te ss (yTS K) x) : Ve (tCB (rIsi K) (tCons te (tCons (tC (.ty "str")) tNil))) ss yBool (isS x) := ve_isi (T := sumC) tySum h (by
  cases x with
  | inl T =>
    cases T with
    | leaf _ => exact (show kitB "int" "str" = some false by decide +kernel)
    | node _ _ => exact (show kitB "tuple" "str" = some false by decide +kernel)
  | inr _ => exact (show kitB "str" "str" = some true by decide +kernel))
theorem ve_inl {te : TE} {T : Tree} (h : Ve te ss (yTree K) T) : Ve te ss (yTS K) (.inl T) := ve_as h fun _ _ _ r => r
theorem ve_inr {te : TE} {z : Str} (h : Ve te ss yStr z) : Ve te ss (yTS K) (.inr z) := ve_as h fun _ _ _ r => r
theorem ve_outl {te : TE} {T : Tree} (h : Ve te ss (yTS K) (.inl T)) : Ve te ss (yTree K) T := ve_as h fun _ _ _ r => r
theorem ve_outr {te : TE} {z : Str} (h : Ve te ss (yTS K) (.inr z)) : Ve te ss yStr z := ve_as h fun _ _ _ r => r
def goodP : Tree ⊕ Str → Prop
  | .inl T => ∀ i ∈ T.letters, i ∈ upto 51
  | .inr z => z = (")" : Str)
theorem sum_can (x : Tree ⊕ Str) (h : goodP x) : (sumD x).canLay0 = true := by
  cases x with
  | inl T => exact data_can T
  | inr z =>
    have h : z = (")" : Str) := h
    subst h
    decide +kernel
theorem can_listP {α : Type} {d : α → PyData} : ∀ {xs : List α}, (∀ x ∈ xs, (d x).canLay0 = true) → PyData.canLayAll0 (xs.map d) = true
  | [], _ => rfl
  | x :: xs, h => by
    show ((d x).canLay0 && PyData.canLayAll0 (xs.map d)) = true
    rw [h x List.mem_cons_self, can_listP fun y hy => h y (List.mem_cons_of_mem _ hy)] <;> rfl
abbrev s_text_of : Stmt := top 11
theorem sc_text_of : FnScope ["_law_tree", "_law_todo", "_law_found", "_law_one"] ["_law_tree"] (defScope s_text_of) := ⟨rfl, rfl, rfl, by decide +kernel, rfl, by decide +kernel, by decide +kernel⟩

abbrev spText (K : PySem.W.Frag) : Sp := SpF (A := Tree) (fun T => [⟨yTree K, T⟩]) (fun T => T.letters.length ≤ 10000 ∧ ∀ i ∈ T.letters, i ∈ upto 51) yStr Tree.txt
theorem ok_text_of {f : Addr} {fd : FuncData} {k : Nat} (F : FnP K "_law_text_of" s_text_of f fd) (T : Tx w K mg) : FnOk P w K mg base CX0 (k + 1) f fd ["_law_tree"] (spText K) := by
  refine fnX F sc_text_of (fun _ => rfl) fun cdv A outer s H E hr => ?_
  refine ⟨_, (pss_cons (ps_par (i := 1) (j := 2) (by rfl) sc_text_of.nd rfl rfl (by decide) rfl rfl (pa_cons (pe_lst (pa_cons (pv 0) pa_nil)) (pa_cons pe_str pa_nil)) (by rfl))
    (pss_cons (ps_while PassesOwn.never (pt_cmpR (op_neM (K := K) (n := 190) (hr.fit (by omega))) (pv 1) (pe_lst pa_nil) (nomark _))
    (pss_cons (ps_set (i := 3) sc_text_of.nd rfl (by first | exact Or.inl rfl | exact Or.inr rfl) (toBM0 (K := K) (pe_bm0 PySem.F.plainAttrs_list PySem.F.slot_list_pop PySem.F.type_list_pop mt_pop (pv 1))))
    (pss_one (ps_if (pt_val (pe_callB (call_isiX (K := K)) (by rfl) T.b_isinstance (by decide +kernel) (pa_cons (pv 3) (pa_cons (pe_bltn (v := .ty "tuple") (by rfl) T.b_tuple (by decide +kernel) rfl) pa_nil)))) (pss_cons (ps_set (i := 2) sc_text_of.nd rfl (by first | exact Or.inl rfl | exact Or.inr rfl) (pe_op op_add_str (pv 2) pe_str))
    (pss_one (ps_expr (toBM (K := K) (pe_bm PySem.F.plainAttrs_list PySem.F.slot_list_extend PySem.F.type_list_extend mt_extend (pv 1) (pa_cons (pe_lst (pa_cons pe_str (pa_cons (pe_ix (ix_tupK (K := K)) (pv 3) pe_int (fun _ _ => rfl)) (pa_cons (pe_ix (ix_tupK (K := K)) (pv 3) pe_int (fun _ _ => rfl)) pa_nil)))) pa_nil)))))) (pss_one (ps_set (i := 2) sc_text_of.nd rfl (by first | exact Or.inl rfl | exact Or.inr rfl) (pe_op op_add_str (pv 2) (pe_ifExp (pt_val (pe_callB (call_isiX (K := K)) (by rfl) T.b_isinstance (by decide +kernel) (pa_cons (pv 3) (pa_cons (pe_bltn (v := .ty "str") (by rfl) T.b_str (by decide +kernel) rfl) pa_nil)))) (pv 3) (pe_op op_add_str (pe_callTy call_str_int (by rfl) T.b_str (by decide +kernel) (pa_cons (pv 3) pa_nil)) pe_str)))))))))
    (pss_one (ps_ret (pv 2))))), fun tr ⟨hl, hi⟩ => ?_⟩
  have hl : tr.letters.length ≤ 10000 := hl
  have tl := txt_len tr hi
  have zl := size_letters tr
  have l1 : (("(" : Str)).length = 1 := by decide +kernel
  have l3 : (("." : Str)).length = 1 := by decide +kernel
  refine xs_parOV (xo_of (xn_lst (t := yTS K) (vi_cons (ve_inl (ve_v rfl)) vi_nil) (by show 1 ≤ 1000000; decide) fun a => ⟨_, ve_str, ?_⟩))
  refine xs_seq (xs_while (fun m s' ms' => ∃ (todo : List (Tree ⊕ Str)) (found : Str) (o3 : Option Slot), m = stackN todo ∧ s' = [some ⟨yTree K, tr⟩, some ⟨yRef, a⟩, some ⟨yStr, found⟩, o3] ∧ ms' = [mL (yTS K) todo] ∧ found ++ stackS todo = tr.txt ∧ (∀ p ∈ todo, goodP p) ∧ stackN todo ≤ 2 * tr.size) _ ⟨[.inl tr], _, none, rfl, rfl, rfl, by rw [stackS_one]; exact str_empty _, fun p hp => by rw [List.mem_singleton.mp hp]; exact hi, by show 2 * tr.size + 0 ≤ _; omega⟩ ?_)
  rintro m s' ms' ⟨todo, found, o3, rfl, rfl, rfl, hp, hg, hN⟩
  have fl : found.length + (stackS todo).length = tr.txt.length := by rw [← Str.length_append, hp]
  have tlen := stackN_len todo
  have V : Vw ([a] ++ []) [mL (yTS K) todo] [some ⟨yTree K, tr⟩, some ⟨yRef, a⟩, some ⟨yStr, found⟩, o3] [some ⟨yTree K, tr⟩, some ⟨yList (yTS K), todo⟩, some ⟨yStr, found⟩, o3] := vw_list (i := 1) (j := 0) (t := yTS K) (xs := todo) vw_refl rfl rfl rfl
  refine xt_view V (vb_test (ve_eqM (b := todo.isEmpty) (isD_list isD_sum) (isD_list isD_sum) (ve_v rfl) (ve_lst (t := yTS K) vi_nil (Nat.zero_le _)) (can_listP fun x hx => sum_can x (hg x hx)) rfl (Nat.le_trans (Nat.min_le_right _ _) (by decide)) (by cases todo <;> rfl))) ?_
  rcases List.eq_nil_or_concat todo with rfl | ⟨ts, x, rfl⟩
  · refine (if_neg (by decide)).mpr ?_
    refine xs_ret (ve_is (ve_v rfl) ?_) rfl
    have hp : found ++ Str.empty = tr.txt := hp
    rw [str_empty'] at hp
    exact hp
  · rw [List.concat_eq_append] at hp hg hN tlen fl V ⊢
    have hne : ((ts ++ [x]).isEmpty != true) = true := by cases ts <;> rfl
    refine (if_pos hne).mpr ?_
    rw [stackS_app, stackS_one] at hp fl
    rw [stackN_app] at hN tlen
    rw [Str.length_append] at fl
    have eN : stackN (ts ++ [x]) = stackN ts + pieceN x := by rw [stackN_app]; rfl
    have hN : stackN ts + (pieceN x + 0) ≤ 2 * tr.size := hN
    have hts : ts.length ≤ stackN ts := stackN_len ts
    have hgx : goodP x := hg x (by simp)
    have hgt : ∀ p ∈ ts, goodP p := fun p h => hg p (List.mem_append_left _ h)
    refine xs_seq (xs_asgX (xe_pop (i := 0) (ve_v rfl) rfl rfl ?_))
    refine xs_if (vb_test (ve_isT (ve_v rfl))) (fun e => ?_) (fun e => ?_)
    · cases x with
      | inr z => cases e
      | inl tx =>
        cases tx with
        | leaf i => cases e
        | node l r =>
          refine xs_seq (xs_asg (ve_addS (ve_v rfl) ve_str (by show found.length + _ ≤ _; rw [l1]; omega)) ?_)
          have hN : stackN ts + (2 * (l.size + r.size + 1) + 0) ≤ 2 * tr.size := hN
          refine xs_dropX (xe_ext (i := 0) (xs := ts) (ve_v rfl) rfl rfl (ve_lst (vi_cons (ve_inr ve_str) (vi_cons (ve_inl (ve_t1 (ve_outl (ve_v rfl)) ve_int)) (vi_cons (ve_inl (ve_t0 (ve_outl (ve_v rfl)) ve_int)) vi_nil))) (by show 3 ≤ 1000000; decide)) (by show ts.length + 3 ≤ 1000000; omega) ?_)
          refine ⟨_, ?_, ts ++ [.inr (")" : Str), .inl r, .inl l], _, _, rfl, rfl, rfl, ?_, ?_, ?_⟩
          · rw [eN, stackN_app]
            show stackN ts + (1 + (2 * r.size + (2 * l.size + 0))) < stackN ts + 2 * (l.size + r.size + 1)
            omega
          · rw [stackS_app, ← hp]
            show found ++ ("(" : Str) ++ ((((Str.empty ++ l.txt) ++ r.txt) ++ (")" : Str)) ++ stackS ts) = found ++ (joinS l.txt r.txt ++ stackS ts)
            unfold joinS
            rw [str_empty]
            simp only [Str.append_assoc]
          · intro p hpm
            rcases List.mem_append.mp hpm with z | z
            · exact hgt p z
            · rcases List.mem_cons.mp z with z | z
              · rw [z]; exact rfl
              · rcases List.mem_cons.mp z with z | z
                · rw [z]; exact fun i h => hgx i (List.mem_append_right _ h)
                · rw [List.mem_singleton.mp z]; exact fun i h => hgx i (List.mem_append_left _ h)
          · rw [stackN_app]
            show stackN ts + (1 + (2 * r.size + (2 * l.size + 0))) ≤ _
            omega
    · refine xs_asg (ve_addS (b := pieceS x) (ve_v rfl) (ve_if (vb_test (ve_isS (ve_v rfl))) (fun e2 => ?_) (fun e2 => ?_)) (by show found.length + _ ≤ _; omega)) ?_
      · cases x with
        | inl _ => cases e2
        | inr z => exact ve_outr (ve_v rfl)
      · cases x with
        | inr _ => cases e2
        | inl tx =>
          cases tx with
          | node _ _ => cases e
          | leaf i =>
            have hi' : i ∈ upto 51 := hgx i (by simp [Tree.letters])
            have hz := leafS_len i hi'
            refine ve_addS (ve_strI (ve_num (ve_outl (ve_v rfl))) (log_small i hi')) ve_str ?_
            have hz : ((toString i : Str) ++ ("." : Str)).length ≤ 3 := hz
            rw [Str.length_append] at hz
            omega
      · refine ⟨_, ?_, ts, _, _, rfl, rfl, rfl, ?_, hgt, by omega⟩
        · rw [eN]
          have : 1 ≤ pieceN x := by
            cases x with
            | inl T => have := size_pos T; show 1 ≤ 2 * T.size; omega
            | inr _ => exact Nat.le_refl _
          omega
        · rw [Str.append_assoc]
          exact hp
abbrev s_bracketed : Stmt := top 8
theorem sc_bracketed : FnScope ["_law_pen_here", "_law_words", "_law_row", "_law_at"] ["_law_pen_here", "_law_words"] (defScope s_bracketed) := ⟨rfl, rfl, rfl, by decide +kernel, rfl, by decide +kernel, by decide +kernel⟩

abbrev spBrk (K : PySem.W.Frag) : Sp := SpX (A := Addr × List Int × Nat) (fun a => [a.1]) (fun a => [⟨yRef, a.1⟩, ⟨yList yInt, a.2.1⟩]) (fun a => [mPen a.2.2]) (fun a => a.2.1 ≠ [] ∧ a.2.1.length ≤ 1000 ∧ a.2.2 ≤ 10000000000) (yTree K) (fun a T ms' => T.letters = a.2.1 ∧ ∃ k, k ≤ 1000 ∧ ms' = [mPen (a.2.2 + k)])
theorem ok_bracketed {f fD : Addr} {fd fdD : FuncData} (F : FnP K "_law_bracketed" s_bracketed f fd) (T : Tx w K mg) (D_draw : Def P w K mg base 1 "_law_draw" ["_law_pen_here", "_law_span"] spDraw fD fdD) : FnOk P w K mg base CX0 2 f fd ["_law_pen_here", "_law_words"] (spBrk K) := by
  refine fnX F sc_bracketed (fun _ => rfl) fun cdv A outer s H E hr => ?_
  refine ⟨_, (pss_cons (ps_set (i := 2) sc_bracketed.nd rfl (by first | exact Or.inl rfl | exact Or.inr rfl) (pe_callTy (call_listK (K := K)) (by rfl) T.b_list (by decide +kernel) (pa_cons (pv 1) pa_nil)))
    (pss_cons (ps_while PassesOwn.never (pt_cmpR op_gt (pe_callB (call_lenK (K := K)) (by rfl) T.b_len (by decide +kernel) (pa_cons (pv 2) pa_nil)) pe_int (nomark _))
    (pss_cons (ps_set (i := 3) sc_bracketed.nd rfl (by first | exact Or.inl rfl | exact Or.inr rfl) (pe_call D_draw.ok (hr.mono (by omega)) (by rfl) D_draw.mg D_draw.kp D_draw.bi .nil pass0 (pa_cons (pv 0) (pa_cons (pe_op op_sub (pe_callB (call_lenK (K := K)) (by rfl) T.b_len (by decide +kernel) (pa_cons (pv 2) pa_nil)) pe_int) pa_nil))))
    (pss_one (ps_set (i := 2) sc_bracketed.nd rfl (by first | exact Or.inl rfl | exact Or.inr rfl) (pe_op op_cat (pe_op op_cat (pe_slice (sl_listK (K := K)) (pv 2) po_none (po_some (pv 3))) (pe_lst (pa_cons (pe_tup (pa_cons (pe_ix (ix_listK (K := K)) (pv 2) (pv 3) (fun _ _ => rfl)) (pa_cons (pe_ix (ix_listK (K := K)) (pv 2) (pe_op op_add (pv 3) pe_int) (fun _ _ => rfl)) pa_nil))) pa_nil))) (pe_slice (sl_listK (K := K)) (pv 2) (po_some (pe_op op_add (pv 3) pe_int)) po_none))))))
    (pss_one (ps_ret (pe_ix (ix_listK (K := K)) (pv 2) pe_int (fun _ _ => rfl)))))), fun ⟨p, ws, N⟩ ⟨h0, hl, hN⟩ => ?_⟩
  have hl : ws.length ≤ 1000 := hl
  have hN : N ≤ 10000000000 := hN
  have h0 : ws ≠ [] := h0
  refine xs_seq (xs_asg (ve_leaves (K := K) (ve_listOf seqL (ve_v rfl))) ?_)
  refine xs_seq (xs_while (fun m s' ms' => ∃ (row : List Tree) (o3 : Option Slot) (k : Nat), m = row.length ∧ s' = [some ⟨yRef, p⟩, some ⟨yList yInt, ws⟩, some ⟨yList (yTree K), row⟩, o3] ∧ ms' = [mPen (N + k)] ∧ (row.map Tree.letters).flatten = ws ∧ k + row.length = ws.length ∧ 0 < row.length) _ ⟨_, none, 0, rfl, rfl, rfl, flat_leaves ws, by rw [List.length_map]; exact Nat.zero_add _, by rw [List.length_map]; exact List.length_pos_iff.mpr h0⟩ ?_)
  rintro m s' ms' ⟨row, o3, k, rfl, rfl, rfl, hf, hk, h1⟩
  refine xt_of (vb_test (ve_gt (ve_len seqL (ve_v rfl)) ve_int)) ?_
  by_cases hc : (1 : Int) < (row.length : Int)
  · refine (if_pos (decide_eq_true hc)).mpr ?_
    refine xs_seq (xs_asgX (xe_draw (i := 0) (j := 0) rfl rfl (xe_of (ve_sub (ve_len seqL (ve_v rfl)) ve_int) ⟨N + k, rfl, by omega, by omega, by omega, fun r r0 r1 => ?_⟩)))
    obtain ⟨j, rfl⟩ : ∃ j : Nat, r = (j : Int) := ⟨r.toNat, by omega⟩
    have q1 : j < row.length := by omega
    have q2 : j + 1 < row.length := by omega
    have a1 : row[j]? = some row[j] := List.getElem?_eq_getElem q1
    have a2 : row[j + 1]? = some row[j + 1] := List.getElem?_eq_getElem q2
    have hlen : (row.take j ++ [Tree.node row[j] row[j + 1]] ++ row.drop (j + 2)).length + 1 = row.length := by
      rw [List.length_append, List.length_append, List.length_take, List.length_drop, List.length_singleton]
      omega
    have c1 : cutL row none (some (j : Int)) = row.take j := cut_to row j
    have c2 : cutL row (some ((j : Int) + 2)) none = row.drop (j + 2) := by rw [← cut_from]; congr 2
    refine xs_asg (x := row.take j ++ [Tree.node row[j] row[j + 1]] ++ row.drop (j + 2)) (ve_is (ve_cat (ve_cat (ve_is (ve_cut (ve_v rfl) vo_no (vo_int (ve_v rfl))) c1) (ve_lst (vi_cons (ve_node (ve_ixL (i := j) (ve_v rfl) (ve_v rfl) rfl a1) (ve_ixL (i := j + 1) (ve_v rfl) (ve_add (ve_v rfl) ve_int) rfl a2)) vi_nil) (by show 1 ≤ 1000000; decide)) ?_) (ve_is (ve_cut (ve_v rfl) (vo_int (ve_add (ve_v rfl) ve_int)) vo_no) c2) ?_) rfl) ?_
    · rw [List.length_take]
      show min _ _ + 1 ≤ _
      omega
    · rw [List.length_append, List.length_take, List.length_drop]
      show min _ _ + 1 + _ ≤ _
      omega
    · refine ⟨_, ?_, _, _, k + 1, rfl, rfl, rfl, ?_, by omega, by omega⟩
      · omega
      · rw [flat_mid a1 a2]
        exact hf
  · refine (if_neg (by rw [decide_eq_false hc]; exact Bool.false_ne_true)).mpr ?_
    have e1 : row.length = 1 := by omega
    match row, e1 with
    | [x], _ =>
      refine xs_ret (ve_ixL (i := 0) (x := x) (ve_v rfl) ve_int rfl rfl) ⟨?_, k, by show k ≤ 1000; simp at hk; omega, rfl⟩
      have hf : x.letters ++ [] = ws := hf
      rw [List.append_nil] at hf
      exact hf
abbrev s_comb : Stmt := top 9
theorem sc_comb : FnScope ["_law_row", "_law_way", "_law_found", "_law_letter"] ["_law_row", "_law_way"] (defScope s_comb) := ⟨rfl, rfl, rfl, by decide +kernel, rfl, by decide +kernel, by decide +kernel⟩

abbrev spComb (K : PySem.W.Frag) : Sp := SpX (A := List Int × Int) (fun _ => []) (fun a => [⟨yList yInt, a.1⟩, ⟨yInt, a.2⟩]) (fun _ => []) (fun a => a.1 ≠ [] ∧ a.1.length ≤ 1000) (yTree K) (fun a T _ => T.letters = a.1)
theorem ok_comb {f : Addr} {fd : FuncData} {k : Nat} (F : FnP K "_law_comb" s_comb f fd) : FnOk P w K mg base CX0 (k + 1) f fd ["_law_row", "_law_way"] (spComb K) := by
  refine fnX F sc_comb (fun _ => rfl) fun cdv A outer s H E hr => ?_
  refine ⟨_, (pss_cons (ps_set (i := 2) sc_comb.nd rfl (by first | exact Or.inl rfl | exact Or.inr rfl) (pe_ifExp (pt_cmpR op_eq (pv 1) pe_int (nomark _)) (pe_ix (ix_listK (K := K)) (pv 0) pe_int (fun _ _ => rfl)) (pe_ix (ix_listK (K := K)) (pv 0) (pe_un un_neg pe_int) (fun _ _ => rfl))))
    (pss_cons (ps_for PassesOwn.never rfl (pi_listK (K := K) (pe_ifExp (pt_cmpR op_eq (pv 1) pe_int (nomark _)) (pe_slice (sl_listK (K := K)) (pv 0) (po_some pe_int) po_none) (toRev (K := K) (pe_revL (pe_slice (sl_listK (K := K)) (pv 0) po_none (po_some (pe_un un_neg pe_int))))))) (pg_name (i := 3) sc_comb.nd rfl (by first | exact Or.inl rfl | exact Or.inr rfl))
    (pss_one (ps_set (i := 2) sc_comb.nd rfl (by first | exact Or.inl rfl | exact Or.inr rfl) (pe_ifExp (pt_cmpR op_eq (pv 1) pe_int (nomark _)) (pe_tup (pa_cons (pv 2) (pa_cons (pv 3) pa_nil))) (pe_tup (pa_cons (pv 3) (pa_cons (pv 2) pa_nil)))))))
    (pss_one (ps_ret (pv 2))))), fun ⟨ws, way⟩ ⟨h0, hl⟩ => ?_⟩
  have h0 : ws ≠ [] := h0
  have hl : ws.length ≤ 1000 := hl
  obtain ⟨x0, rest, e0⟩ : ∃ x r, ws = x :: r := by
    cases ws with
    | nil => exact absurd rfl h0
    | cons x r => exact ⟨x, r, rfl⟩
  obtain ⟨ini, lst, e1⟩ : ∃ i l, ws = i ++ [l] := by
    rcases List.eq_nil_or_concat ws with z | ⟨i, l, z⟩
    · exact absurd z h0
    · exact ⟨i, l, by rw [z, List.concat_eq_append]⟩
  refine xs_seq (xs_asg (ve_leaf (K := K) (i := if way = 0 then x0 else lst) (ve_if (vb_test (ve_eq (ve_v rfl) ve_int)) (fun e => ?_) (fun e => ?_))) ?_)
  · rw [if_pos (of_decide_eq_true e)]
    exact ve_ixL (i := 0) (ve_v rfl) ve_int rfl (by show ws[0]? = _; rw [e0]; rfl)
  · rw [if_neg (of_decide_eq_false e)]
    exact ve_ixLast (ve_v rfl) (ve_neg ve_int) (by show ws.getLast? = _; rw [e1]; simp)
  refine xs_seq (xs_forL (t := yInt) (xs := if way = 0 then rest else ini.reverse) (tg_name (ws := [3]) List.mem_cons_self) (ve_if (vb_test (ve_eq (ve_v rfl) ve_int)) (fun e => ?_) (fun e => ?_)) (fun i s' ms' => ∃ (tr : Tree) (o3 : Option Slot), s' = [some ⟨yList yInt, ws⟩, some ⟨yInt, way⟩, some ⟨yTree K, tr⟩, o3] ∧ ms' = [] ∧ tr.letters = if way = 0 then x0 :: rest.take i else (ini.reverse.take i).reverse ++ [lst]) ⟨_, _, rfl, rfl, ?_⟩ ?_ ?_)
  · refine ve_is (ve_cut (ve_v rfl) (vo_int ve_int) vo_no) ?_
    show cutL ws (some ((1 : Nat) : Int)) none = if way = 0 then rest else ini.reverse
    rw [if_pos (of_decide_eq_true e), cut_from, e0]
    rfl
  · refine ve_is (ve_rev (ve_cut (ve_v rfl) vo_no (vo_int (ve_neg ve_int)))) ?_
    show (cutL ws none (some (-1))).reverse = if way = 0 then rest else ini.reverse
    rw [if_neg (of_decide_eq_false e), cut_last, e1, List.dropLast_concat]
  · by_cases z : way = 0
    · rw [if_pos z, if_pos z]; rfl
    · rw [if_neg z, if_neg z]; rfl
  · rintro i x s' ms' hx ⟨tr, o3, rfl, rfl, ht⟩
    refine xs_asg (x := if way = 0 then Tree.node tr (.leaf x) else Tree.node (.leaf x) tr) (ve_if (vb_test (ve_eq (ve_v rfl) ve_int)) (fun e => ?_) (fun e => ?_)) ⟨_, _, rfl, rfl, ?_⟩
    · rw [if_pos (of_decide_eq_true e)]
      exact ve_node (ve_v rfl) (ve_leaf (ve_v rfl))
    · rw [if_neg (of_decide_eq_false e)]
      exact ve_node (ve_leaf (ve_v rfl)) (ve_v rfl)
    · by_cases z : way = 0
      · rw [if_pos z] at hx ht ⊢
        rw [if_pos z]
        show tr.letters ++ [x] = _
        rw [ht, List.take_add_one, hx]
        rfl
      · rw [if_neg z] at hx ht ⊢
        rw [if_neg z]
        show [x] ++ tr.letters = _
        rw [ht, List.take_add_one, hx, List.reverse_append]
        rfl
  · rintro s' ms' ⟨tr, o3, rfl, rfl, ht⟩
    refine xs_ret (ve_v rfl) ?_
    show tr.letters = ws
    by_cases z : way = 0
    · rw [if_pos z, if_pos z, List.take_length] at ht
      rw [ht, e0]
    · rw [if_neg z, if_neg z, List.take_length, List.reverse_reverse] at ht
      rw [ht, e1]
end
end Fp

namespace Fp
open PySem PySem.Spec PyProof.Rows L2
section
variable {P : Program} {w : World} {K : PySem.W.Frag} {mg : Str → Option Value} {base : Heap} {ss : SS}
abbrev s_law : Stmt := top 12
theorem sc_law : FnScope ["_law_script", "_law_pen_here", "_law_turn", "_law_many", "_law_row", "_law_tree", "_law_told", "_law_numbers", "_law_due", "_law_k", "_law_letter"] ["_law_script"] (defScope s_law) := ⟨rfl, rfl, rfl, by decide +kernel, rfl, by decide +kernel, by decide +kernel⟩

abbrev qLam : Str := ("law" : Str) ++ (".<locals>." : Str) ++ ("<lambda>" : Str)
abbrev spLawT (K : PySem.W.Frag) (Pt : Addr) (q : Str) : Sp := SpX (A := List Int) (fun _ => [Pt]) (fun ns => [⟨yScr K, ns⟩]) (fun _ => [mTab q]) (fun ns => ns.length ≤ 63) yBool (fun _ b _ => b = true)
theorem shp_intsL (xs : List Int) : SeqAt.shaped (.list (xs.map PyData.int)) = true := (shp_list (n := 0) (d := PyData.int) fun x _ => shp_int x).shaped (by decide)
theorem mapFilter {α β : Type} (xs : List α) (m : α → β) : ((xs.filter fun _ => true).map m) = xs.map m := by rw [List.filter_eq_self.mpr fun _ _ => rfl]
theorem ok_law {f fP fD fK fL fV fJ fLe fT fB fC c Pt : Addr} {fd fdP fdD fdK fdL fdV fdJ fdLe fdT fdB fdC : FuncData} (F : FnP K "law" s_law f fd) (hcode : fd.code = .ref c) (TB : LamX.TabB base mg c Pt) (T : Tx w K mg)
    (D_pen : Def P w K mg base 1 "_law_pen" ["_law_script"] (spPen K) fP fdP) (D_draw : Def P w K mg base 1 "_law_draw" ["_law_pen_here", "_law_span"] spDraw fD fdD) (D_pick : Def P w K mg base 2 "_law_pick" ["_law_pen_here", "_law_options"] (spPick yInt) fK fdK)
    (D_letters : DefG P w K mg base 300 1100 "letters" ["tree"] (spLet K 300) fL fdL) (D_lettersN : DefG P w K mg base 301 1103 "letters" ["tree"] (spLetN K 300) fL fdL)
    (D_valueS : DefG P w K mg base 320 1200 "value_of" ["tree", "values", "operation"] (spVal P w K mg base yStr (fun p => p.1.length + p.2.length ≤ 100000) joinS 300) fV fdV) (D_valueA : DefG P w K mg base 320 1200 "value_of" ["tree", "values", "operation"] (spVal P w K mg base yInt (fun _ => True) (· + ·) 300) fV fdV) (D_valueF : DefG P w K mg base 320 1200 "value_of" ["tree", "values", "operation"] (spVal P w K mg base yInt (fun _ => True) (fun a _ => a) 300) fV fdV)
    (D_join : Def P w K mg base 1 "_law_join" ["_law_left", "_law_right"] (spOp yStr (fun p => p.1.length + p.2.length ≤ 100000) joinS) fJ fdJ) (D_leaves : Def P w K mg base 1 "_law_leaves" ["_law_part"] (spLeaves K) fLe fdLe) (D_text_of : Def P w K mg base 1 "_law_text_of" ["_law_tree"] (spText K) fT fdT)
    (D_bracketed : Def P w K mg base 2 "_law_bracketed" ["_law_pen_here", "_law_words"] (spBrk K) fB fdB) (D_comb : Def P w K mg base 1 "_law_comb" ["_law_row", "_law_way"] (spComb K) fC fdC) : FnG P w K mg base CX0 341 1303 f fd ["_law_script"] (spLawT K Pt qLam) := by
  refine fnG F hcode sc_law (fun _ => rfl) fun A outer s H E hr => ?_
  refine ⟨_, (pss_cons (ps_set (i := 1) sc_law.nd rfl (by first | exact Or.inl rfl | exact Or.inr rfl) (pe_call D_pen.ok (hr.mono (by omega)) (by rfl) D_pen.mg D_pen.kp D_pen.bi .nil pass0 (pa_cons (pv 0) pa_nil)))
    (pss_cons (ps_for PassesOwn.never rfl (pi_range1 (by rfl) T.b_range (pa_cons (pe_op op_add pe_int (pe_callB (call_min2 rfl) (by rfl) T.b_min (by decide +kernel) (pa_cons pe_int (pa_cons (pe_callB (call_lenK (K := K)) (by rfl) T.b_len (by decide +kernel) (pa_cons (pv 0) pa_nil)) pa_nil)))) pa_nil)) (pg_name (i := 2) sc_law.nd rfl (by first | exact Or.inl rfl | exact Or.inr rfl))
    (pss_cons (ps_set (i := 3) sc_law.nd rfl (by first | exact Or.inl rfl | exact Or.inr rfl) (pe_call D_pick.ok (hr.mono (by omega)) (by rfl) D_pick.mg D_pick.kp D_pick.bi .nil pass0 (pa_cons (pv 1) (pa_cons (pe_lst (pa_cons pe_int (pa_cons pe_int (pa_cons pe_int (pa_cons pe_int (pa_cons pe_int (pa_cons pe_int pa_nil))))))) pa_nil))))
    (pss_cons (ps_setLc (i := 4) (own := [("_law_k", 9)]) rfl sc_law.nd rfl rfl (sw_true rfl rfl rfl (by decide +kernel)) (pi_range1 (by rfl) T.b_range (pa_cons (pv 3) pa_nil)) (blkOk_by (by kernel_rfl)) (fun _ _ _ _ _ => (pg_name (i := 9) sc_law.nd rfl (by first | exact Or.inl rfl | exact Or.inr rfl))) (fun _ _ _ _ _ => pts_nil) (fun _ _ _ _ _ => (pe_call D_draw.ok (hr.mono (by omega)) (by rfl) D_draw.mg D_draw.kp D_draw.bi .nil pass0 (pa_cons (pv 1) (pa_cons (pe_call D_pick.ok (hr.mono (by omega)) (by rfl) D_pick.mg D_pick.kp D_pick.bi .nil pass0 (pa_cons (pv 1) (pa_cons (pe_lst (pa_cons pe_int (pa_cons pe_int (pa_cons pe_int pa_nil)))) pa_nil))) pa_nil)))))
    (pss_cons (ps_set (i := 5) sc_law.nd rfl (by first | exact Or.inl rfl | exact Or.inr rfl) (pe_call D_bracketed.ok (hr.mono (by omega)) (by rfl) D_bracketed.mg D_bracketed.kp D_bracketed.bi .nil pass0 (pa_cons (pv 1) (pa_cons (pv 4) pa_nil))))
    (pss_cons (ps_if (pt_cmpR op_eq (pe_call D_draw.ok (hr.mono (by omega)) (by rfl) D_draw.mg D_draw.kp D_draw.bi .nil pass0 (pa_cons (pv 1) (pa_cons pe_int pa_nil))) pe_int (nomark _)) (pss_cons (ps_setLc (i := 4) (own := [("_law_k", 9)]) rfl sc_law.nd rfl rfl (sw_true rfl rfl rfl (by decide +kernel)) (pi_range1 (by rfl) T.b_range (pa_cons (pe_op op_add pe_int (pe_call D_draw.ok (hr.mono (by omega)) (by rfl) D_draw.mg D_draw.kp D_draw.bi .nil pass0 (pa_cons (pv 1) (pa_cons pe_int pa_nil)))) pa_nil)) (blkOk_by (by kernel_rfl)) (fun _ _ _ _ _ => (pg_name (i := 9) sc_law.nd rfl (by first | exact Or.inl rfl | exact Or.inr rfl))) (fun _ _ _ _ _ => pts_nil) (fun _ _ _ _ _ => (pe_call D_draw.ok (hr.mono (by omega)) (by rfl) D_draw.mg D_draw.kp D_draw.bi .nil pass0 (pa_cons (pv 1) (pa_cons pe_int pa_nil)))))
    (pss_one (ps_set (i := 5) sc_law.nd rfl (by first | exact Or.inl rfl | exact Or.inr rfl) (pe_call D_comb.ok (hr.mono (by omega)) (by rfl) D_comb.mg D_comb.kp D_comb.bi .nil pass0 (pa_cons (pv 4) (pa_cons (pe_call D_draw.ok (hr.mono (by omega)) (by rfl) D_draw.mg D_draw.kp D_draw.bi .nil pass0 (pa_cons (pv 1) (pa_cons pe_int pa_nil))) pa_nil)))))) pss_nil)
    (pss_cons (ps_set (i := 6) sc_law.nd rfl (by first | exact Or.inl rfl | exact Or.inr rfl) (pe_callG D_lettersN.ok (hr.less (by omega)) (by rfl) D_lettersN.mg D_lettersN.kp D_lettersN.bi .nil pass0 (pa_cons (pv 5) pa_nil)))
    (pss_cons (ps_if (PW.pt (pw_or (pt_not (pt_val (pe_callB (call_isiX (K := K)) (by rfl) T.b_isinstance (by decide +kernel) (pa_cons (pv 6) (pa_cons (pe_bltn (v := .ty "list") (by rfl) T.b_list (by decide +kernel) rfl) pa_nil))))) (pw_or1 (pt_cmpR (op_neK (K := K) (hr.fit (by omega))) (pv 6) (pv 4) (nomark _))))) (pss_one (ps_ret pe_bl)) pss_nil)
    (pss_cons (ps_expr (toBM (K := K) (pe_bm PySem.F.plainAttrs_list PySem.F.slot_list_append PySem.F.type_list_append mt_append (pv 6) (pa_cons pe_int pa_nil))))
    (pss_cons (ps_if (PW.pt (pw_or (pt_cmpR (op_neK (K := K) (hr.fit (by omega))) (pe_callG D_letters.ok (hr.less (by omega)) (by rfl) D_letters.mg D_letters.kp D_letters.bi .nil pass0 (pa_cons (pv 5) pa_nil)) (pv 4) (nomark _)) (pw_or1 (pt_cmpR (op_neK (K := K) (hr.fit (by omega))) (pe_call D_leaves.ok (hr.mono (by omega)) (by rfl) D_leaves.mg D_leaves.kp D_leaves.bi .nil pass0 (pa_cons (pv 5) pa_nil)) (pv 4) (nomark _))))) (pss_one (ps_ret pe_bl)) pss_nil)
    (pss_cons (ps_if (pt_cmpR op_ne (pe_callG D_valueS.ok (hr.less (by omega)) (by rfl) D_valueS.mg D_valueS.kp D_valueS.bi .nil pass0 (pa_cons (pv 5) (pa_cons (pe_lc (own := [("_law_k", 9)]) rfl sc_law.nd (pi_range1 (by rfl) T.b_range (pa_cons pe_int pa_nil)) (blkOk_by (by kernel_rfl)) (fun _ _ _ _ _ => (pg_name (i := 9) sc_law.nd rfl (by first | exact Or.inl rfl | exact Or.inr rfl))) (fun _ _ _ _ _ => pts_nil) (fun _ _ _ _ _ => (pe_op op_add_str (pe_callTy call_str_int (by rfl) T.b_str (by decide +kernel) (pa_cons (pv 9) pa_nil)) pe_str))) (pa_cons (pe_glob (v := .ref _) (by rfl) D_join.mg rfl) pa_nil)))) (pe_call D_text_of.ok (hr.mono (by omega)) (by rfl) D_text_of.mg D_text_of.kp D_text_of.bi .nil pass0 (pa_cons (pv 5) pa_nil)) (nomark _)) (pss_one (ps_ret pe_bl)) pss_nil)
    (pss_cons (ps_set (i := 7) sc_law.nd rfl (by first | exact Or.inl rfl | exact Or.inr rfl) (pe_lc (own := [("_law_k", 9)]) rfl sc_law.nd (pi_range1 (by rfl) T.b_range (pa_cons pe_int pa_nil)) (blkOk_by (by kernel_rfl)) (fun _ _ _ _ _ => (pg_name (i := 9) sc_law.nd rfl (by first | exact Or.inl rfl | exact Or.inr rfl))) (fun _ _ _ _ _ => pts_nil) (fun _ _ _ _ _ => (pe_op op_sub (pe_call D_draw.ok (hr.mono (by omega)) (by rfl) D_draw.mg D_draw.kp D_draw.bi .nil pass0 (pa_cons (pv 1) (pa_cons (pe_op op_pow pe_int pe_int) pa_nil))) (pe_op op_pow pe_int pe_int)))))
    (pss_cons (ps_set (i := 8) sc_law.nd rfl (by first | exact Or.inl rfl | exact Or.inr rfl) (pe_callB (call_sumK (K := K) rfl) (by rfl) T.b_sum (by decide +kernel) (pa_cons (pe_lc (own := [("_law_letter", 10)]) rfl sc_law.nd (pi_listK (K := K) (pv 4)) (blkOk_by (by kernel_rfl)) (fun _ _ _ _ _ => (pg_name (i := 10) sc_law.nd rfl (by first | exact Or.inl rfl | exact Or.inr rfl))) (fun _ _ _ _ _ => pts_nil) (fun _ _ _ _ _ => (pe_ix (ix_listK (K := K)) (pv 7) (pv 10) (fun _ _ => rfl)))) pa_nil)))
    (pss_cons (ps_if (pt_cmpR op_ne (pe_callG D_valueA.ok (hr.less (by omega)) (by rfl) D_valueA.mg D_valueA.kp D_valueA.bi .nil pass0 (pa_cons (pv 5) (pa_cons (pv 7) (pa_cons (pe_lamV (ps := ["_law_a", "_law_b"]) TB rfl (by exact ⟨rfl, rfl, rfl, by decide +kernel, by decide +kernel, by decide +kernel⟩) (by rfl)) pa_nil)))) (pv 8) (nomark _)) (pss_one (ps_ret pe_bl)) pss_nil)
    (pss_one (ps_if (pt_cmpR op_ne (pe_callG D_valueF.ok (hr.less (by omega)) (by rfl) D_valueF.mg D_valueF.kp D_valueF.bi .nil pass0 (pa_cons (pv 5) (pa_cons (pv 7) (pa_cons (pe_lamV (ps := ["_law_a", "_law_b"]) TB rfl (by exact ⟨rfl, rfl, rfl, by decide +kernel, by decide +kernel, by decide +kernel⟩) (by rfl)) pa_nil)))) (pe_ix (ix_listK (K := K)) (pv 7) (pe_ix (ix_listK (K := K)) (pv 4) pe_int (fun _ _ => rfl)) (fun _ _ => rfl)) (nomark _)) (pss_one (ps_ret pe_bl)) pss_nil)))))))))))))))
    (pss_one (ps_ret pe_bl)))), fun ns hns => ?_⟩
  have hns : ns.length ≤ 63 := hns
  refine xs_newO (xo_call ns (vs_cons (ve_v rfl) vs_nil) hns fun m em p => ?_)
  subst em
  have hmin : (0 : Int) ≤ (if ((ns.length : Nat) : Int) < 5 then ((ns.length : Nat) : Int) else 5) ∧ (if ((ns.length : Nat) : Int) < 5 then ((ns.length : Nat) : Int) else 5) ≤ 5 := by split <;> omega
  generalize hmn : (if ((ns.length : Nat) : Int) < 5 then ((ns.length : Nat) : Int) else 5) = mn at hmin
  refine xs_seq (xs_forR (n := 3 + mn) (xe_of (ve_is (ve_add ve_int (ve_min2 ve_int (ve_len seqScr (ve_v rfl)))) (by rw [← hmn])) ⟨rfl, rfl⟩) (by omega) (by omega) (fun i s' ms' => ∃ o2 o3 o4 o5 o6 o7 o8 T', s' = [some ⟨yScr K, ns⟩, some ⟨yRef, p⟩, o2, o3, o4, o5, o6, o7, o8, none, none] ∧ ms' = [mPen T', mTab qLam] ∧ T' ≤ 5000 * i) ⟨none, none, none, none, none, none, none, 0, rfl, rfl, Nat.zero_le _⟩ ?_ ?_)
  · rintro i s' ms' hi ⟨o2, o3, o4, o5, o6, o7, o8, T', rfl, rfl, hT⟩
    have hi : i < 8 := by omega
    -- many
    refine xs_seq (xs_asgX (xe_call1 (xa_of (vs_cons (ve_v rfl) (vs_cons (ve_lst (vi_cons ve_int (vi_cons ve_int (vi_cons ve_int (vi_cons ve_int (vi_cons ve_int (vi_cons ve_int vi_nil)))))) (by decide)) vs_nil)) ⟨(p, [1, 2, 3, 5, 9, 40], T'), 0, p, _, rfl, rfl, rfl, rfl, rfl, ⟨by show ([1, 2, 3, 5, 9, 40] : List Int) ≠ []; decide, by show ([1, 2, 3, 5, 9, 40] : List Int).length ≤ 100000; decide, by show T' ≤ 100000000000; omega⟩, ?_⟩)))
    rintro many m' ⟨hm, em⟩
    have em := (List.cons.inj em).1
    subst em
    have hm : many ∈ ([1, 2, 3, 5, 9, 40] : List Int) := hm
    have hm1 : 1 ≤ many ∧ many ≤ 40 := by
      have : ∀ q ∈ ([1, 2, 3, 5, 9, 40] : List Int), 1 ≤ q ∧ q ≤ 40 := by decide
      exact this many hm
    -- row
    refine xs_seq (xs_asgX (xe_new (xn_lcR (u := yInt) (j := 9) (ws := [9]) (n := many) List.mem_cons_self (xe_of (ve_v rfl) ⟨rfl, rfl⟩) (by omega) (by omega) (fun j ys ms' => ys.length = j ∧ (∀ y ∈ ys, y ∈ upto 51) ∧ ms' = [mPen (T' + 1 + 2 * j), mTab qLam]) ⟨rfl, (fun _ h => by cases h), rfl⟩ ?_ ?_)))
    · rintro j ys ms' hj ⟨hl, hy, rfl⟩
      refine xt_of vb_yes ?_
      refine xe_draw (i := 1) (j := 0) rfl rfl (xe_call1 (xa_of (vs_cons (ve_v rfl) (vs_cons (ve_lst (vi_cons ve_int (vi_cons ve_int (vi_cons ve_int vi_nil))) (by decide)) vs_nil)) ⟨(p, [2, 9, 50], T' + 1 + 2 * j), 0, p, _, rfl, rfl, rfl, rfl, rfl, ⟨by show ([2, 9, 50] : List Int) ≠ []; decide, by show ([2, 9, 50] : List Int).length ≤ 100000; decide, by show T' + 1 + 2 * j ≤ 100000000000; omega⟩, ?_⟩))
      rintro q m' ⟨hq, em⟩
      have em := (List.cons.inj em).1
      subst em
      have hq1 : 2 ≤ q ∧ q ≤ 50 := by
        have : ∀ q ∈ ([2, 9, 50] : List Int), 2 ≤ q ∧ q ≤ 50 := by decide
        exact this q hq
      refine ⟨_, rfl, by omega, by omega, by show T' + 1 + 2 * j + 1 ≤ _; omega, fun r r0 r1 => ⟨by omega, by rw [List.length_append, hl]; rfl, fun y h => ?_, ?_⟩⟩
      · rcases List.mem_append.mp h with z | z
        · exact hy y z
        · rw [List.mem_singleton.mp z]
          exact mem_upto.mpr ⟨r0, by omega⟩
      · show [mPen (T' + 1 + 2 * j + 1 + 1), mTab qLam] = _
        rw [show T' + 1 + 2 * j + 1 + 1 = T' + 1 + 2 * (j + 1) by omega]
    rintro row ms' ⟨hrl, hry, rfl⟩
    have hrl : row.length = many.toNat := hrl
    -- tree
    refine xs_seq (xs_asgX (xe_call1 (xa_of (vs_cons (ve_v rfl) (vs_cons (ve_v rfl) vs_nil)) ⟨(p, row, _), 0, p, _, rfl, rfl, rfl, rfl, rfl, ⟨by show row ≠ []; intro z; rw [z] at hrl; simp at hrl; omega, by show row.length ≤ 1000; omega, by show T' + 1 + 2 * many.toNat ≤ 10000000000; omega⟩, ?_⟩)))
    rintro tree m' ⟨htl, kb, hkb, em⟩
    have em := (List.cons.inj em).1
    subst em
    have htl : tree.letters = row := htl
    -- or a comb
    refine xs_cut (fun s' ms' => ∃ (row : List Int) (tree : Tree) (T'' : Nat), s' = [some ⟨yScr K, ns⟩, some ⟨yRef, p⟩, some ⟨yInt, (i : Int)⟩, some ⟨yInt, many⟩, some ⟨yList yInt, row⟩, some ⟨yTree K, tree⟩, o6, o7, o8, none, none] ∧ ms' = [mPen T'', mTab qLam] ∧ T'' ≤ 5000 * i + 4000 ∧ tree.letters = row ∧ row.length ≤ 300 ∧ 0 < row.length ∧ ∀ y ∈ row, y ∈ upto 51) ?_ ?_
    · refine xs_ifX (xt_test (xe_eq (xe_draw (i := 1) (j := 0) rfl rfl (xe_of ve_int ⟨_, rfl, by decide, by decide, by show T' + 1 + 2 * many.toNat + kb ≤ _; omega, fun r r0 r1 => xe_of ve_int ?_⟩))))
      have e0 : T' + 1 + 2 * many.toNat + kb + 1 ≤ 5000 * i + 1200 := by omega
      generalize T' + 1 + 2 * many.toNat + kb + 1 = T1 at e0
      by_cases hz : r = 0
      · refine (if_pos (decide_eq_true hz)).mpr ?_
        refine xs_seq (xs_asgX (xe_new (xn_lcRX (u := yInt) (j := 9) (ws := [9]) List.mem_cons_self (xe_add (xe_of ve_int (xe_draw (i := 1) (j := 0) rfl rfl (xe_of ve_int ⟨_, rfl, by decide, by decide, by omega, fun g g0 g1 => ⟨by omega, by omega, fun j ys ms' => ys.length = j ∧ (∀ y ∈ ys, y ∈ upto 51) ∧ ms' = [mPen (T1 + 1 + j), mTab qLam], ⟨rfl, (fun _ h => by cases h), rfl⟩, ?_, ?_⟩⟩)))))))
        · rintro j ys ms' hj ⟨hl, hy, rfl⟩
          refine xt_of vb_yes ?_
          refine xe_draw (i := 1) (j := 0) rfl rfl (xe_of ve_int ⟨_, rfl, by decide, by decide, by omega, fun r r0 r1 => ⟨by omega, by rw [List.length_append, hl]; rfl, fun y h => ?_, ?_⟩⟩)
          · rcases List.mem_append.mp h with z | z
            · exact hy y z
            · rw [List.mem_singleton.mp z]
              exact mem_upto.mpr ⟨r0, by omega⟩
          · show [mPen (T1 + 1 + j + 1), mTab qLam] = _
            rw [show T1 + 1 + j + 1 = T1 + 1 + (j + 1) by omega]
        rintro row2 ms' ⟨hl2, hy2, rfl⟩
        refine xs_asgX (xe_call0 (xa_cons (xe_of (ve_v rfl) (xa_cons (xe_draw (i := 1) (j := 0) rfl rfl (xe_of ve_int ⟨_, rfl, by decide, by decide, by omega, fun r r0 r1 => xa_nil ⟨(row2, r), rfl, ⟨?_, ?_⟩, fun tr htr => ⟨row2, tr, _, rfl, rfl, ?_, htr, ?_, ?_, hy2⟩⟩⟩))))))
        · show row2 ≠ []
          intro z
          rw [z] at hl2
          simp at hl2
          omega
        · show row2.length ≤ 1000
          omega
        · omega
        · omega
        · omega
      · refine (if_neg (by rw [decide_eq_false hz]; exact Bool.false_ne_true)).mpr (xs_next ⟨row, tree, T1, rfl, rfl, by omega, htl, by omega, by omega, hry⟩)
    rintro s' ms' ⟨row, tree, T2, rfl, rfl, hT2, htl, hrl, hr0, hry⟩
    have hh : tree.height < 300 := by have := height_lt tree; rw [htl] at this; omega
    have hrz : tree.letters.length ≤ 1000000 := by rw [htl]; omega
    have sR := shp_intsL row
    have htll : tree.letters.length = row.length := by rw [htl]
    -- told
    refine xs_newO (xo_call tree (vs_cons (ve_v rfl) vs_nil) ⟨by omega, hrz⟩ fun m em a => ?_)
    subst em
    have V : Vw ([a, p] ++ [Pt]) [mL yInt tree.letters, mPen T2, mTab qLam] [some ⟨yScr K, ns⟩, some ⟨yRef, p⟩, some ⟨yInt, (i : Int)⟩, some ⟨yInt, many⟩, some ⟨yList yInt, row⟩, some ⟨yTree K, tree⟩, some ⟨yRef, a⟩, o7, o8, none, none] [some ⟨yScr K, ns⟩, some ⟨yRef, p⟩, some ⟨yInt, (i : Int)⟩, some ⟨yInt, many⟩, some ⟨yList yInt, row⟩, some ⟨yTree K, tree⟩, some ⟨yList yInt, tree.letters⟩, o7, o8, none, none] := vw_list (i := 6) (j := 0) (t := yInt) (xs := tree.letters) vw_refl rfl rfl rfl
    refine xs_seq (xs_ifX (xt_view V (b := false) (vb_is (vb_or (vb_not (vb_test (ve_isi (T := fun _ => "list") (b := true) tyList (ve_v rfl) (by decide +kernel)))) fun _ => vb_test (ve_neD (isD_list isD_int) (isD_list isD_int) (ve_v rfl) (ve_v rfl) (shp_intsL _) sR (eqv_ints _ _))) ?_) ?_))
    · rw [htl, decide_eq_true rfl]
      rfl
    refine (if_neg Bool.false_ne_true).mpr (xs_next ?_)
    refine xs_seq (xs_dropX (xe_app (i := 0) (t := yInt) (ve_v rfl) rfl (xe_of ve_int ⟨tree.letters, rfl, hrz, ?_⟩) rfl))
    refine xs_seq (xs_if (b := false) (vb_is (vb_or (vb_test (ve_neD (isD_list isD_int) (isD_list isD_int) (ve_call tree (vs_cons (ve_v rfl) vs_nil) ⟨hh, hrz⟩) (ve_v rfl) (shp_intsL _) sR (eqv_ints _ _))) fun _ => vb_test (ve_neD (isD_list isD_int) (isD_list isD_int) (ve_call tree (vs_cons (ve_v rfl) vs_nil) (by show tree.letters.length ≤ 100000; omega)) (ve_v rfl) (shp_intsL _) sR (eqv_ints _ _))) ?_) (fun h => by cases h) fun _ => xs_next ?_)
    · rw [htl, decide_eq_true rfl]
      rfl
    -- texts
    have hlet : ∀ y ∈ tree.letters, y ∈ upto 51 := by rw [htl]; exact hry
    have hgetS : ∀ y ∈ tree.letters, 0 ≤ y ∧ ((upto 51).map leafS)[y.toNat]? = some (leafS y) := fun y hy => by
      obtain ⟨y0, y1⟩ := mem_upto.mp (hlet y hy)
      refine ⟨y0, ?_⟩
      rw [List.getElem?_map, upto_get (by omega)]
      show some (leafS ((y.toNat : Nat) : Int)) = _
      rw [show ((y.toNat : Nat) : Int) = y by omega]
    refine xs_seq (xs_if (b := false) (vb_is (vb_test (ve_ne (ve_call (tree, (upto 51).map leafS, fJ, leafS) (vs_cons (ve_v rfl) (vs_cons (ve_is (ve_lcR (u := yStr) (j := 9) (ws := [9]) (n := 51) (fun _ => true) leafS List.mem_cons_self ve_int (by decide) (fun x _ _ => vb_yes) (fun x h0 h1 _ => ve_addS (ve_strI (ve_v rfl) (log_small x (mem_upto.mpr ⟨h0, h1⟩))) ve_str ?_) (by decide)) (mapFilter _ _)) (vs_cons (ve_defV D_join.ok D_join.kp D_join.bi) vs_nil))) ⟨hh, hgetS, okT_txt tree (by omega) hlet⟩) (ve_call tree (vs_cons (ve_v rfl) vs_nil) ⟨by show tree.letters.length ≤ 10000; omega, hlet⟩))) ?_) (fun h => by cases h) fun _ => xs_next ?_)
    · have hz := leafS_len x (mem_upto.mpr ⟨h0, h1⟩)
      have hz : ((toString x : Str) ++ ("." : Str)).length ≤ 3 := hz
      rw [Str.length_append] at hz
      omega
    · show (!decide (tree.txt = tree.txt)) = false
      rw [decide_eq_true rfl]
      rfl
    -- numbers
    refine xs_seq (xs_asgX (xe_new (xn_lcR (u := yInt) (j := 9) (ws := [9]) (n := 51) List.mem_cons_self (xe_of ve_int ⟨rfl, rfl⟩) (by decide) (by decide) (fun j ys ms' => ys.length = j ∧ ms' = [mL yInt (tree.letters ++ [0]), mPen (T2 + j), mTab qLam]) ⟨rfl, rfl⟩ ?_ ?_)))
    · rintro j ys ms' hj ⟨hl, rfl⟩
      refine xt_of vb_yes ?_
      refine xe_sub (xe_draw (i := 1) (j := 1) rfl rfl (xe_of (ve_pow ⟨by decide, by decide, by decide⟩ ve_int ve_int) ⟨_, rfl, by decide, by decide, by omega, fun r r0 r1 => xe_of (ve_pow ⟨by decide, by decide, by decide⟩ ve_int ve_int) ⟨by omega, by rw [List.length_append, hl]; rfl, rfl⟩⟩))
    rintro nums ms' ⟨hnl, rfl⟩
    have hnl : nums.length = 51 := hnl
    have hget : ∀ y ∈ tree.letters, 0 ≤ y ∧ nums[y.toNat]? = some ((nums[y.toNat]?).getD 0) := fun y hy => by
      obtain ⟨y0, y1⟩ := mem_upto.mp (hlet y hy)
      refine ⟨y0, ?_⟩
      rw [List.getElem?_eq_getElem (by omega)]
      rfl
    -- due
    refine xs_seq (xs_asg (ve_sum (ve_is (ve_lcL (u := yInt) (fun _ => true) (fun y => (nums[y.toNat]?).getD 0) (tg_name (ws := [10]) List.mem_cons_self) (ve_v rfl) (by omega) (fun x _ => vb_yes) fun x hx _ => ve_ixL (i := x.toNat) (ve_v rfl) (ve_v rfl) (by have := (mem_upto.mp (hry x hx)).1; omega) (hget x (by rw [htl]; exact hx)).2) (mapFilter _ _))) ?_)
    -- sums
    refine xs_seq (xs_ifX (xt_test (xe_ne (xe_callP (xa_cons (xe_of (ve_v rfl) (xa_cons (xe_of (ve_v rfl) (xa_cons (xe_lamV (i := 2) (q := qLam) (ps := ["_law_a", "_law_b"]) (sp := spOp yInt (fun _ => True) (· + ·)) (P := P) (w := w) (K := K) (mg := mg) (base := base) (j := 0) rfl rfl (lamOk_of ⟨rfl, rfl, rfl, by decide +kernel, by decide +kernel, by decide +kernel⟩ (fun _ => rfl) (fun pm cv ctv us hl => match us, hl with | [_, _], _ => rfl) (fun f c A outer s H hr => ⟨_, pe_op op_add (pv 0) (pv 1), fun a _ => ve_add (ve_v rfl) (ve_v rfl)⟩)) fun g => xa_nil ⟨(tree, nums, g, fun y => (nums[y.toNat]?).getD 0), rfl, ⟨hh, hget, okT_true tree⟩, xe_of (ve_v rfl) ?_⟩))))))))))
    have e1 : (!decide (tree.ev (fun y => (nums[y.toNat]?).getD 0) (· + ·) = (row.map fun y => (nums[y.toNat]?).getD 0).sum)) = false := by
      rw [ev_sum, htl, decide_eq_true rfl]
      rfl
    refine (if_neg (by rw [e1]; exact Bool.false_ne_true)).mpr (xs_next ?_)
    -- the first
    obtain ⟨y0, q1, q2⟩ := ev_first (fun y => (nums[y.toNat]?).getD 0) tree
    have hy0 : y0 ∈ tree.letters := List.mem_of_getElem? q1
    refine xs_ifX (xt_test (xe_ne (xe_callP (xa_cons (xe_of (ve_v rfl) (xa_cons (xe_of (ve_v rfl) (xa_cons (xe_lamV (i := 2) (q := qLam) (ps := ["_law_a", "_law_b"]) (sp := spOp yInt (fun _ => True) (fun a _ => a)) (P := P) (w := w) (K := K) (mg := mg) (base := base) (j := 0) rfl rfl (lamOk_of ⟨rfl, rfl, rfl, by decide +kernel, by decide +kernel, by decide +kernel⟩ (fun _ => rfl) (fun pm cv ctv us hl => match us, hl with | [_, _], _ => rfl) (fun f c A outer s H hr => ⟨_, pv 0, fun a _ => ve_v rfl⟩)) fun g => xa_nil ⟨(tree, nums, g, fun y => (nums[y.toNat]?).getD 0), rfl, ⟨hh, hget, okT_true tree⟩, xe_of (ve_ixL (i := y0.toNat) (ve_v rfl) (ve_ixL (i := 0) (x := y0) (ve_v rfl) ve_int rfl (by rw [← htl]; exact q1)) (by have := (hget y0 hy0).1; omega) (hget y0 hy0).2) ?_⟩)))))))))
    have e2 : (!decide (tree.ev (fun y => (nums[y.toNat]?).getD 0) (fun a _ => a) = (nums[y0.toNat]?).getD 0)) = false := by
      rw [q2, decide_eq_true rfl]
      rfl
    refine (if_neg (by rw [e2]; exact Bool.false_ne_true)).mpr (xs_next ?_)
    exact ⟨_, _, rfl, _, _, _, _, _, _, _, _, rfl, rfl, by omega⟩
  · rintro s' ms' ⟨o2, o3, o4, o5, o6, o7, o8, T', rfl, rfl, hT⟩
    exact xs_ret ve_bl rfl
end
end Fp
namespace Fp
open PySem PySem.Spec PyProof.Rows L2
theorem law_inT {K : PySem.W.Frag} {H : Hp} {a Pt : Addr} {q : Str} {ns : List Int} {E : XK} (hl : ns.length ≤ 63) (ht : H Pt = some (.tbl #[])) (hS : SqL K H a (ns.map V.int)) : spLawT K Pt q [.ref a] H (fun v _ => v = .bl true) E :=
  ⟨[Pt], ns, List.nodup_cons.mpr ⟨by simp, .nil⟩, fun _ h => h, fun b hb => by rw [List.mem_singleton.mp hb]; exact ⟨_, ht⟩, ⟨⟨a, rfl, fun H' k => by
    rcases hS with h | h
    · refine .inl (h.imp (fun e => k.keep a _ (fun z => ?_) e) fun ⟨o, e⟩ => ⟨o, k.keep a _ (fun z => ?_) e⟩)
      · rw [List.mem_singleton.mp z, ht] at e; cases e
      · rw [List.mem_singleton.mp z, ht] at e; cases e
    · exact .inr h⟩, trivial⟩, ⟨⟨#[], ht, trivial, fun pos cv e => by
      have z : codeAmong pos [] = some cv := e
      simp [codeAmong] at z⟩, trivial⟩, hl, fun r x ms' H' _ _ hr hp => by
    have hp : x = true := hp
    subst hp
    exact hr⟩
end Fp

namespace Fp
open PySem PySem.Spec PyProof.Rows L2
def d_pen : Fn := { ad := fun K => He.ga K "_law_pen", name := "_law_pen", qual := "_law_pen", st := s_pen, dfl := [] }
def d_draw : Fn := { ad := fun K => He.ga K "_law_draw", name := "_law_draw", qual := "_law_draw", st := s_draw, dfl := [] }
def d_pick : Fn := { ad := fun K => He.ga K "_law_pick", name := "_law_pick", qual := "_law_pick", st := s_pick, dfl := [] }
def d_letters : Fn := { ad := fun K => He.ga K "letters", name := "letters", qual := "letters", st := s_letters, dfl := [] }
def d_value_of : Fn := { ad := fun K => He.ga K "value_of", name := "value_of", qual := "value_of", st := s_value_of, dfl := [] }
def d_join : Fn := { ad := fun K => He.ga K "_law_join", name := "_law_join", qual := "_law_join", st := s_join, dfl := [] }
def d_leaves : Fn := { ad := fun K => He.ga K "_law_leaves", name := "_law_leaves", qual := "_law_leaves", st := s_leaves, dfl := [] }
def d_text_of : Fn := { ad := fun K => He.ga K "_law_text_of", name := "_law_text_of", qual := "_law_text_of", st := s_text_of, dfl := [] }
def d_bracketed : Fn := { ad := fun K => He.ga K "_law_bracketed", name := "_law_bracketed", qual := "_law_bracketed", st := s_bracketed, dfl := [] }
def d_comb : Fn := { ad := fun K => He.ga K "_law_comb", name := "_law_comb", qual := "_law_comb", st := s_comb, dfl := [] }
def d_law : Fn := { ad := fun K => He.ga K "law", name := "law", qual := "law", st := s_law }
def hd : Hd where
  n := 5
  fa := [.free "int", .free "len", .free "abs", .free "list", .free "tuple", .free "range", .free "isinstance", .free "min", .free "str", .free "sum", .glo "_law_pen", .glo "_law_draw", .glo "_law_pick", .glo "letters", .glo "value_of", .glo "_law_join", .glo "_law_leaves", .glo "_law_text_of", .glo "_law_bracketed", .glo "_law_comb", .glo "law"]
  fn := [d_pen, d_draw, d_pick, d_letters, d_value_of, d_join, d_leaves, d_text_of, d_bracketed, d_comb, d_law]
  ts := []
  ex := fun K => true
def hx : Hx := ⟨hd, [fun K => He.ga K "law"]⟩
abbrev rowR : PySem.W.OpenRow := PySem.W.OpenLaw.row PySem.Challenge.rw_foldplans_k30_letters_and_values
def loose : List Str := (["__name__", "_law_bracketed", "_law_comb", "_law_draw", "_law_join", "_law_leaves", "_law_pen", "_law_pick", "_law_text_of", "letters", "value_of"] : List Str)
theorem run_false (w : World) : HandSHeadRun.RunEq rowR (PySem.W.view rowR.prog [12]) hx.hook (fun s => hx.obs (HandSHeadRun.getT s)) 3000 loose (w.withFollow "special-get-raises" false) := by
  intro os
  kernel_rfl
theorem run_true (w : World) : HandSHeadRun.RunEq rowR (PySem.W.view rowR.prog [12]) hx.hook (fun s => hx.obs (HandSHeadRun.getT s)) 3000 loose (w.withFollow "special-get-raises" true) := by
  intro os
  kernel_rfl
theorem run (w : World) : HandSHeadRun.RunEq rowR (PySem.W.view rowR.prog [12]) hx.hook (fun s => hx.obs (HandSHeadRun.getT s)) 3000 loose w := PySem.W.byRow2 "special-get-raises" (P := fun w => HandSHeadRun.RunEq rowR (PySem.W.view rowR.prog [12]) hx.hook (fun s => hx.obs (HandSHeadRun.getT s)) 3000 loose w) run_false run_true w
section
variable {P : Program} {w : World} {K : PySem.W.Frag} {mg : Str → Option Value} {h : Heap}
theorem tx (X : K.In h) (G : h.Ns mainGlobals mg) (c : hd.look K = hd.due w) : Tx w K mg := by
  exact {
    b_int := He.free_ok X G (Hd.fact c (h := hd) 0 (f := .free "int") rfl)
    b_len := He.free_ok X G (Hd.fact c (h := hd) 1 (f := .free "len") rfl)
    b_abs := He.free_ok X G (Hd.fact c (h := hd) 2 (f := .free "abs") rfl)
    b_list := He.free_ok X G (Hd.fact c (h := hd) 3 (f := .free "list") rfl)
    b_tuple := He.free_ok X G (Hd.fact c (h := hd) 4 (f := .free "tuple") rfl)
    b_range := He.free_ok X G (Hd.fact c (h := hd) 5 (f := .free "range") rfl)
    b_isinstance := He.free_ok X G (Hd.fact c (h := hd) 6 (f := .free "isinstance") rfl)
    b_min := He.free_ok X G (Hd.fact c (h := hd) 7 (f := .free "min") rfl)
    b_str := He.free_ok X G (Hd.fact c (h := hd) 8 (f := .free "str") rfl)
    b_sum := He.free_ok X G (Hd.fact c (h := hd) 9 (f := .free "sum") rfl)
  }
end
section
variable {w : World} {K2 : PySem.W.Frag} {mg : Str → Option Value} {h : Heap}
theorem facts {f : Addr} (X2 : K2.In h) (G : h.Ns mainGlobals mg) (hf : mg ("law" : Str) = some (.ref f)) (cx : hx.look K2 = hx.due w) : LawG PySem.Challenge.rw_foldplans_k30_letters_and_values w (hx.cut K2) 341 1303 63 "_law_script" mg f h := by
  have X : (hx.cut K2).In h := cutK_in X2
  have c := Hx.base cx
  have hT := Hx.tabs_ok X2 cx
  obtain ⟨cb_law, ad_law⟩ := Hx.both cx (x := hx) 0 (f := fun K => He.ga K "law") rfl
  generalize hK : hx.cut K2 = K at X c hT ad_law ⊢
  have T := tx X G c
  obtain ⟨fd_pen, F_pen⟩ := Hd.fun_ c (h := hd) 0 (d := d_pen) rfl
  have B_pen : Binds K fd_pen ["_law_script"] [] := FunD.bindsN F_pen fun _ _ _ _ _ _ us hl => match us, hl with | [_], _ => rfl
  obtain ⟨fd_draw, F_draw⟩ := Hd.fun_ c (h := hd) 1 (d := d_draw) rfl
  have B_draw : Binds K fd_draw ["_law_pen_here", "_law_span"] [] := FunD.bindsN F_draw fun _ _ _ _ _ _ us hl => match us, hl with | [_, _], _ => rfl
  obtain ⟨fd_pick, F_pick⟩ := Hd.fun_ c (h := hd) 2 (d := d_pick) rfl
  have B_pick : Binds K fd_pick ["_law_pen_here", "_law_options"] [] := FunD.bindsN F_pick fun _ _ _ _ _ _ us hl => match us, hl with | [_, _], _ => rfl
  obtain ⟨fd_letters, F_letters⟩ := Hd.fun_ c (h := hd) 3 (d := d_letters) rfl
  have B_letters : Binds K fd_letters ["tree"] [] := FunD.bindsN F_letters fun _ _ _ _ _ _ us hl => match us, hl with | [_], _ => rfl
  obtain ⟨fd_value_of, F_value_of⟩ := Hd.fun_ c (h := hd) 4 (d := d_value_of) rfl
  have B_value_of : Binds K fd_value_of ["tree", "values", "operation"] [] := FunD.bindsN F_value_of fun _ _ _ _ _ _ us hl => match us, hl with | [_, _, _], _ => rfl
  obtain ⟨fd_join, F_join⟩ := Hd.fun_ c (h := hd) 5 (d := d_join) rfl
  have B_join : Binds K fd_join ["_law_left", "_law_right"] [] := FunD.bindsN F_join fun _ _ _ _ _ _ us hl => match us, hl with | [_, _], _ => rfl
  obtain ⟨fd_leaves, F_leaves⟩ := Hd.fun_ c (h := hd) 6 (d := d_leaves) rfl
  have B_leaves : Binds K fd_leaves ["_law_part"] [] := FunD.bindsN F_leaves fun _ _ _ _ _ _ us hl => match us, hl with | [_], _ => rfl
  obtain ⟨fd_text_of, F_text_of⟩ := Hd.fun_ c (h := hd) 7 (d := d_text_of) rfl
  have B_text_of : Binds K fd_text_of ["_law_tree"] [] := FunD.bindsN F_text_of fun _ _ _ _ _ _ us hl => match us, hl with | [_], _ => rfl
  obtain ⟨fd_bracketed, F_bracketed⟩ := Hd.fun_ c (h := hd) 8 (d := d_bracketed) rfl
  have B_bracketed : Binds K fd_bracketed ["_law_pen_here", "_law_words"] [] := FunD.bindsN F_bracketed fun _ _ _ _ _ _ us hl => match us, hl with | [_, _], _ => rfl
  obtain ⟨fd_comb, F_comb⟩ := Hd.fun_ c (h := hd) 9 (d := d_comb) rfl
  have B_comb : Binds K fd_comb ["_law_row", "_law_way"] [] := FunD.bindsN F_comb fun _ _ _ _ _ _ us hl => match us, hl with | [_, _], _ => rfl
  obtain ⟨fd_law, F_law⟩ := Hd.fun_ c (h := hd) 10 (d := d_law) rfl
  have code_law : fd_law.code = .ref (codeOf K2 (He.ga K2 "law")) := code_at F_law (show cutK K2 (hx.tabs K2) = K from hK) ad_law cb_law
  have e := hf.symm.trans (He.glo_ok X G (Hd.fact c (h := hd) 20 (f := .glo "law") rfl))
  cases e
  have b := FunD.bindsA (ps := ["_law_script"]) F_law fun _ _ _ _ _ _ us hl => match us, hl with | [_], _ => rfl
  refine ⟨fd_law, _, spLawT K (tabOf K2 (He.ga K2 "law")) qLam, hT, fun s v => b s [v] rfl, fun H a ns hl _ ht hS => law_inT hl (ht (codeOf K2 (He.ga K2 "law"), tabOf K2 (He.ga K2 "law")) (List.mem_of_getElem? (i := 0) rfl)) hS, fun base _ _ hTB => ?_⟩
  have TB_law := hTB (codeOf K2 (He.ga K2 "law"), tabOf K2 (He.ga K2 "law")) (List.mem_of_getElem? (i := 0) rfl)
  have D_pen := Def.mk (P := (PySem.Challenge.rw_foldplans_k30_letters_and_values).prog) (w := w) (base := base) (ok_pen (k := 0) F_pen T) B_pen (FunD.kp F_pen) (He.glo_ok X G (Hd.fact c (h := hd) 10 (f := .glo "_law_pen") rfl))
  have D_draw := Def.mk (P := (PySem.Challenge.rw_foldplans_k30_letters_and_values).prog) (w := w) (base := base) (ok_draw (k := 0) F_draw T) B_draw (FunD.kp F_draw) (He.glo_ok X G (Hd.fact c (h := hd) 11 (f := .glo "_law_draw") rfl))
  have D_pick := Def.mk (P := (PySem.Challenge.rw_foldplans_k30_letters_and_values).prog) (w := w) (base := base) (ok_pick (t := yInt) F_pick T D_draw) B_pick (FunD.kp F_pick) (He.glo_ok X G (Hd.fact c (h := hd) 12 (f := .glo "_law_pick") rfl))
  have D_letters := DefG.mk (P := (PySem.Challenge.rw_foldplans_k30_letters_and_values).prog) (w := w) (base := base) (ok_letters F_letters T ⟨B_letters, FunD.kp F_letters, He.glo_ok X G (Hd.fact c (h := hd) 13 (f := .glo "letters") rfl)⟩ 300) B_letters (FunD.kp F_letters) (He.glo_ok X G (Hd.fact c (h := hd) 13 (f := .glo "letters") rfl))
  have D_lettersN := DefG.mk (ok_lettersN F_letters T D_letters) D_letters.bi D_letters.kp D_letters.mg
  have D_value_of := DefG.mk (P := (PySem.Challenge.rw_foldplans_k30_letters_and_values).prog) (w := w) (base := base) (ok_value_of (t := yStr) (pre := fun p => p.1.length + p.2.length ≤ 100000) (op := joinS) F_value_of T ⟨B_value_of, FunD.kp F_value_of, He.glo_ok X G (Hd.fact c (h := hd) 14 (f := .glo "value_of") rfl)⟩ 300) B_value_of (FunD.kp F_value_of) (He.glo_ok X G (Hd.fact c (h := hd) 14 (f := .glo "value_of") rfl))
  have D_valueA := DefG.mk (ok_value_of (P := (PySem.Challenge.rw_foldplans_k30_letters_and_values).prog) (w := w) (base := base) (t := yInt) (pre := fun _ => True) (op := (· + ·)) F_value_of T ⟨D_value_of.bi, D_value_of.kp, D_value_of.mg⟩ 300) D_value_of.bi D_value_of.kp D_value_of.mg
  have D_valueF := DefG.mk (ok_value_of (P := (PySem.Challenge.rw_foldplans_k30_letters_and_values).prog) (w := w) (base := base) (t := yInt) (pre := fun _ => True) (op := fun a _ => a) F_value_of T ⟨D_value_of.bi, D_value_of.kp, D_value_of.mg⟩ 300) D_value_of.bi D_value_of.kp D_value_of.mg
  have D_join := Def.mk (P := (PySem.Challenge.rw_foldplans_k30_letters_and_values).prog) (w := w) (base := base) (ok_join (k := 0) F_join) B_join (FunD.kp F_join) (He.glo_ok X G (Hd.fact c (h := hd) 15 (f := .glo "_law_join") rfl))
  have D_leaves := Def.mk (P := (PySem.Challenge.rw_foldplans_k30_letters_and_values).prog) (w := w) (base := base) (ok_leaves (k := 0) F_leaves T) B_leaves (FunD.kp F_leaves) (He.glo_ok X G (Hd.fact c (h := hd) 16 (f := .glo "_law_leaves") rfl))
  have D_text_of := Def.mk (P := (PySem.Challenge.rw_foldplans_k30_letters_and_values).prog) (w := w) (base := base) (ok_text_of (k := 0) F_text_of T) B_text_of (FunD.kp F_text_of) (He.glo_ok X G (Hd.fact c (h := hd) 17 (f := .glo "_law_text_of") rfl))
  have D_bracketed := Def.mk (P := (PySem.Challenge.rw_foldplans_k30_letters_and_values).prog) (w := w) (base := base) (ok_bracketed F_bracketed T D_draw) B_bracketed (FunD.kp F_bracketed) (He.glo_ok X G (Hd.fact c (h := hd) 18 (f := .glo "_law_bracketed") rfl))
  have D_comb := Def.mk (P := (PySem.Challenge.rw_foldplans_k30_letters_and_values).prog) (w := w) (base := base) (ok_comb (k := 0) F_comb) B_comb (FunD.kp F_comb) (He.glo_ok X G (Hd.fact c (h := hd) 19 (f := .glo "_law_comb") rfl))
  exact ok_law F_law code_law TB_law T D_pen D_draw D_pick D_letters D_lettersN D_value_of D_valueA D_valueF D_join D_leaves D_text_of D_bracketed D_comb
end
end Fp
open PySem PySem.W PySem.Calls PyProof.Rows
theorem PySem.Challenge.cw_foldplans_k30_letters_and_values_holds : PySem.Challenge.rw_foldplans_k30_letters_and_values.Holds := by
  w_on; o_law
  refine HandSHeadRun.head_any (r := OpenLaw.row PySem.Challenge.rw_foldplans_k30_letters_and_values) (q := view (OpenLaw.row PySem.Challenge.rw_foldplans_k30_letters_and_values).prog [12]) (H := Fp.hx.hook) (ob := fun s => Fp.hx.obs (HandSHeadRun.getT s)) (M := 3000) (loose := Fp.loose) (d := HandSHeadRun.topDef (OpenLaw.row PySem.Challenge.rw_foldplans_k30_letters_and_values).prog 12) (kwd := []) (Fp.Hx.obs_eq Fp.hx)
    (by kernel_rfl) (fun s => by kernel_rfl) Fp.run (by kernel_rfl) (by kernel_rfl) (by kernel_rfl) (by rfl) (by first | assumption | decide +kernel) (by decide +kernel) ⟨rfl, rfl, rfl, rfl, rfl, by decide +kernel⟩ ?hw ?hc
  case hw => w_witness2
  case hc =>
    refine Fp.walk_G (l := PySem.Challenge.rw_foldplans_k30_letters_and_values) (n := 63) (d := 341) (u := 1303) (x := "_law_script") rfl (by decide) (by kernel_rfl) ⟨rfl, by decide, by decide, rfl⟩ ?F
    intro w mg fa h Y G hmg0
    obtain ⟨K2, KX, c⟩ := Y
    have hmg : mg ("law" : PySem.Str) = some (.ref fa) := by
      have e : (HandSHeadRun.topDef (OpenLaw.row PySem.Challenge.rw_foldplans_k30_letters_and_values).prog 12).name = ("law" : PySem.Str) := by kernel_rfl
      rw [← e]
      exact hmg0
    exact ⟨Fp.hx.cut K2, Fp.cutK_in KX, Fp.facts KX G hmg c⟩

