import PyProof.Rows.All
import Wide.All
import OpenK.AllK
import Wide.FinOn
import HandS.ForMost
import HandS.Defaults
import HandS.IsInst
import HandS.Property
import HandS.OwnEq
import HandS.More
import HandS.Evl
import HandS.HeadHook1
import KE.KStateDown
import HandS.Head0
import HandS.Head1
import HandS.Head2
import HandS.HeadEnd
import HandS.HeadHook2
import HandS.HeadHook3
import HandS.TupAny
import PySem.Challenge.RW_foldplans_k03_rule_operators
set_option Elab.async false
set_option linter.all false
set_option maxRecDepth 100000
set_option maxHeartbeats 4000000
/-! ## A layer of its own: typed data over the abstract heap.
Ke M H H': the heap has grown, and what stood stands, but for the objects at M (the mutable ones). Ty: how a value and the heap tell a datum
of plain Lean; nothing of it lies at M. Vl, Vt, Va: an expression, a test, arguments evaluate to a datum and change nothing. -/
namespace Fp
open PySem L2
structure Ke (M : List Addr) (H H' : Hp) : Prop where
  keep : ∀ a o, a ∉ M → H a = some o → H' a = some o
  there : ∀ a o, H a = some o → ∃ o', H' a = some o'
section
variable {M M' : List Addr} {H H1 H2 H' : Hp} {p : Addr} {o : HO}
theorem Ke.refl : Ke M H H := ⟨fun _ _ _ h => h, fun _ o h => ⟨o, h⟩⟩
theorem Ke.trans (a : Ke M H H1) (b : Ke M H1 H2) : Ke M H H2 := ⟨fun c o n h => b.keep c o n (a.keep c o n h), fun c o h => by
  obtain ⟨o', h'⟩ := a.there c o h
  exact b.there c o' h'⟩
theorem Ke.new (h : H p = none) : Ke M H (upd H p o) := ⟨fun a u _ e => by rw [upd_ne (ne_of_none e h)]; exact e, fun a u e => ⟨u, by rw [upd_ne (ne_of_none e h)]; exact e⟩⟩
theorem Ke.mut (h : p ∈ M) : Ke M H (upd H p o) := ⟨fun a u n e => by rw [upd_ne (fun z => n (by rw [z]; exact h))]; exact e, fun a u e => by
  by_cases z : a = p
  · exact ⟨o, by rw [z, upd_same]⟩
  · exact ⟨u, by rw [upd_ne z]; exact e⟩⟩
theorem Ke.sub (hs : ∀ a ∈ M, a ∈ M') (k : Ke M H H') : Ke M' H H' := ⟨fun a o n h => k.keep a o (fun z => n (hs a z)) h, k.there⟩
theorem Ke.all (k : Ke [] H H') : Ke M H H' := k.sub (fun _ h => by cases h)
theorem Ke.old (k : Ke (p :: M) H H') (h : H p = none) : Ke M H H' := ⟨fun a o n e => k.keep a o (fun z => by
  rcases List.mem_cons.mp z with z | z
  · rw [z, h] at e; cases e
  · exact n z) e, k.there⟩
theorem Ke.free (k : Ke M H H') (h : H' p = none) : H p = none := by
  cases e : H p with
  | none => rfl
  | some u =>
    obtain ⟨o', e'⟩ := k.there p u e
    rw [e'] at h; cases h
theorem Ke.one (k : Ke [] H H') {a : Addr} (h : H a = some o) : H' a = some o := k.keep a o (fun z => by cases z) h
theorem Ke.same (k : Ke [] H H') : Same H H' := fun a o h => k.one h
/-- the mutable ones are there -/
def Wf (M : List Addr) (H : Hp) : Prop := ∀ a ∈ M, ∃ o, H a = some o
theorem Wf.keep (w : Wf M H) (k : Ke M' H H') : Wf M H' := fun a h => by
  obtain ⟨o, e⟩ := w a h
  exact k.there a o e
theorem Wf.not (w : Wf M H) (h : H p = none) : p ∉ M := fun z => by
  obtain ⟨o, e⟩ := w p z
  rw [h] at e; cases e
theorem Wf.cons (w : Wf M H) (h : H p = some o) : Wf (p :: M) H := fun a z => by
  rcases List.mem_cons.mp z with z | z
  · exact ⟨o, by rw [z]; exact h⟩
  · exact w a z
theorem Wf.nil : Wf [] H := fun _ h => by cases h
end
/-- a datum of plain Lean, as a value and the heap tell it -/
structure Ty (α : Type) where
  rep : List Addr → Hp → V → α → Prop
  keep : ∀ {M : List Addr} {H H' : Hp} {v : V} {x : α}, Ke M H H' → rep M H v x → rep M H' v x
  less : ∀ {M M' : List Addr} {H : Hp} {v : V} {x : α}, (∀ a ∈ M', a ∈ M) → rep M H v x → rep M' H v x
  more : ∀ {M : List Addr} {H : Hp} {v : V} {x : α} {p : Addr}, H p = none → rep M H v x → rep (p :: M) H v x
def yInt : Ty Int := ⟨fun _ _ v x => v = .int x, fun _ h => h, fun _ h => h, fun _ h => h⟩
def yStr : Ty Str := ⟨fun _ _ v x => v = .str x, fun _ h => h, fun _ h => h, fun _ h => h⟩
def yBool : Ty Bool := ⟨fun _ _ v x => v = .bl x, fun _ h => h, fun _ h => h, fun _ h => h⟩
def yNon : Ty Unit := ⟨fun _ _ v _ => v = .non, fun _ h => h, fun _ h => h, fun _ h => h⟩
/-- two lists, item by item -/
def P2 {α : Type} (R : V → α → Prop) : List V → List α → Prop
  | [], [] => True
  | v :: vs, x :: xs => R v x ∧ P2 R vs xs
  | _, _ => False
section
variable {α : Type} {R R' : V → α → Prop}
theorem P2.imp (f : ∀ v x, R v x → R' v x) : ∀ {vs : List V} {xs : List α}, P2 R vs xs → P2 R' vs xs
  | [], [], _ => trivial
  | [], _ :: _, h => h.elim
  | _ :: _, [], h => h.elim
  | _ :: _, _ :: _, h => ⟨f _ _ h.1, h.2.imp f⟩
theorem P2.len : ∀ {vs : List V} {xs : List α}, P2 R vs xs → vs.length = xs.length
  | [], [], _ => rfl
  | [], _ :: _, h => h.elim
  | _ :: _, [], h => h.elim
  | _ :: _, _ :: _, h => congrArg Nat.succ h.2.len
theorem P2.app : ∀ {vs : List V} {xs : List α} {ws : List V} {ys : List α}, P2 R vs xs → P2 R ws ys → P2 R (vs ++ ws) (xs ++ ys)
  | [], [], _, _, _, k => k
  | [], _ :: _, _, _, h, _ => h.elim
  | _ :: _, [], _, _, h, _ => h.elim
  | _ :: _, _ :: _, _, _, h, k => ⟨h.1, h.2.app k⟩
theorem P2.get : ∀ {vs : List V} {xs : List α} {i : Nat} {v : V}, P2 R vs xs → vs[i]? = some v → ∃ x, xs[i]? = some x ∧ R v x
  | [], [], _, _, _, e => by cases e
  | [], _ :: _, _, _, h, _ => h.elim
  | _ :: _, [], _, _, h, _ => h.elim
  | _ :: _, x :: _, 0, _, h, e => ⟨x, rfl, by have e' := Option.some.inj e; rw [← e']; exact h.1⟩
  | _ :: _, _ :: _, i + 1, _, h, e => by
    obtain ⟨x, e', r⟩ := h.2.get (i := i) e
    exact ⟨x, e', r⟩
theorem P2.tog : ∀ {vs : List V} {xs : List α} {i : Nat} {x : α}, P2 R vs xs → xs[i]? = some x → ∃ v, vs[i]? = some v ∧ R v x
  | [], [], _, _, _, e => by cases e
  | [], _ :: _, _, _, h, _ => h.elim
  | _ :: _, [], _, _, h, _ => h.elim
  | v :: _, _ :: _, 0, _, h, e => ⟨v, rfl, by have e' := Option.some.inj e; rw [← e']; exact h.1⟩
  | _ :: _, _ :: _, i + 1, _, h, e => by
    obtain ⟨x, e', r⟩ := h.2.tog (i := i) e
    exact ⟨x, e', r⟩
theorem P2.map {β : Type} {f : β → V} {g : β → α} (h : ∀ b, R (f b) (g b)) : ∀ l : List β, P2 R (l.map f) (l.map g)
  | [] => trivial
  | b :: l => ⟨h b, P2.map h l⟩
end
/-- a list that stands, and no mutable one -/
def yList {α : Type} (t : Ty α) : Ty (List α) where
  rep := fun M H v xs => ∃ a vs, v = .ref a ∧ a ∉ M ∧ H a = some (.lst vs) ∧ P2 (t.rep M H) vs xs
  keep := fun k ⟨a, vs, e, n, h, p⟩ => ⟨a, vs, e, n, k.keep a _ n h, p.imp fun _ _ => t.keep k⟩
  less := fun s ⟨a, vs, e, n, h, p⟩ => ⟨a, vs, e, fun z => n (s a z), h, p.imp fun _ _ => t.less s⟩
  more := fun f ⟨a, vs, e, n, h, p⟩ => ⟨a, vs, e, fun z => by
    rcases List.mem_cons.mp z with z | z
    · rw [z, f] at h; cases h
    · exact n z, h, p.imp fun _ _ => t.more f⟩
/-- a tuple, of the call's own or of the text -/
def TupAt (K : PySem.W.Frag) (M : List Addr) (H : Hp) (a : Addr) (vs : List V) : Prop := (a ∉ M ∧ H a = some (.tup vs)) ∨ SqT K (fun _ => none) a vs
section
variable {K : PySem.W.Frag} {M M' : List Addr} {H H' : Hp} {a p : Addr} {vs : List V}
theorem TupAt.sq (h : TupAt K M H a vs) : SqT K H a vs := by
  rcases h with h | h
  · exact SqT.of h.2
  · rcases h with h | h
    · rcases h with h | ⟨_, h⟩ <;> cases h
    · exact .inr h
theorem TupAt.keep (k : Ke M H H') (h : TupAt K M H a vs) : TupAt K M H' a vs := h.imp (fun h => ⟨h.1, k.keep a _ h.1 h.2⟩) id
theorem TupAt.less (s : ∀ a ∈ M', a ∈ M) (h : TupAt K M H a vs) : TupAt K M' H a vs := h.imp (fun h => ⟨fun z => h.1 (s a z), h.2⟩) id
theorem TupAt.more (f : H p = none) (h : TupAt K M H a vs) : TupAt K (p :: M) H a vs := h.imp (fun h => ⟨fun z => by
  rcases List.mem_cons.mp z with z | z
  · have e := h.2
    rw [z, f] at e; cases e
  · exact h.1 z, h.2⟩) id
end
def yTup {α : Type} (K : PySem.W.Frag) (t : Ty α) : Ty (List α) where
  rep := fun M H v xs => ∃ a vs, v = .ref a ∧ TupAt K M H a vs ∧ P2 (t.rep M H) vs xs
  keep := fun k ⟨a, vs, e, h, p⟩ => ⟨a, vs, e, h.keep k, p.imp fun _ _ => t.keep k⟩
  less := fun s ⟨a, vs, e, h, p⟩ => ⟨a, vs, e, h.less s, p.imp fun _ _ => t.less s⟩
  more := fun f ⟨a, vs, e, h, p⟩ => ⟨a, vs, e, h.more f, p.imp fun _ _ => t.more f⟩
/-- a tuple of two -/
def yPair {α β : Type} (K : PySem.W.Frag) (t : Ty α) (u : Ty β) : Ty (α × β) where
  rep := fun M H v x => ∃ a y z, v = .ref a ∧ TupAt K M H a [y, z] ∧ t.rep M H y x.1 ∧ u.rep M H z x.2
  keep := fun k ⟨a, y, z, e, h, p, q⟩ => ⟨a, y, z, e, h.keep k, t.keep k p, u.keep k q⟩
  less := fun s ⟨a, y, z, e, h, p, q⟩ => ⟨a, y, z, e, h.less s, t.less s p, u.less s q⟩
  more := fun f ⟨a, y, z, e, h, p, q⟩ => ⟨a, y, z, e, h.more f, t.more f p, u.more f q⟩
def yTrip {α β γ : Type} (K : PySem.W.Frag) (t : Ty α) (u : Ty β) (w : Ty γ) : Ty (α × β × γ) where
  rep := fun M H v x => ∃ a y z b, v = .ref a ∧ TupAt K M H a [y, z, b] ∧ t.rep M H y x.1 ∧ u.rep M H z x.2.1 ∧ w.rep M H b x.2.2
  keep := fun k ⟨a, y, z, b, e, h, p, q, r⟩ => ⟨a, y, z, b, e, h.keep k, t.keep k p, u.keep k q, w.keep k r⟩
  less := fun s ⟨a, y, z, b, e, h, p, q, r⟩ => ⟨a, y, z, b, e, h.less s, t.less s p, u.less s q, w.less s r⟩
  more := fun f ⟨a, y, z, b, e, h, p, q, r⟩ => ⟨a, y, z, b, e, h.more f, t.more f p, u.more f q, w.more f r⟩
def yOpt {α : Type} (t : Ty α) : Ty (Option α) where
  rep := fun M H v x => match x with
    | none => v = .non
    | some y => t.rep M H v y
  keep := fun {M H H' v x} k h => match x, h with
    | none, h => h
    | some _, h => t.keep k h
  less := fun {M M' H v x} s h => match x, h with
    | none, h => h
    | some _, h => t.less s h
  more := fun {M H v x p} f h => match x, h with
    | none, h => h
    | some _, h => t.more f h

/-! ### evaluation -/
def Vl {α : Type} (M : List Addr) (te : TE) (σ : L2.St) (H : Hp) (t : Ty α) (x : α) : Prop := Wf M H → ∀ H1, Ke M H H1 → ∀ Q : VK, (∀ v H2, Ke [] H1 H2 → t.rep M H2 v x → Q v H2) → te σ H1 Q
def Vt (M : List Addr) (tt : TT) (σ : L2.St) (H : Hp) (b : Bool) : Prop := Wf M H → ∀ H1, Ke M H H1 → ∀ Q : Bool → Hp → Prop, (∀ H2, Ke [] H1 H2 → Q b H2) → tt σ H1 Q
def Va (M : List Addr) (ta : TA) (σ : L2.St) (H : Hp) (R : Hp → List V → Prop) : Prop := Wf M H → ∀ H1, Ke M H H1 → ∀ Q : List V → Hp → Prop, (∀ vs H2, Ke [] H1 H2 → R H2 vs → Q vs H2) → ta σ H1 Q
section
variable {α β γ : Type} {K : PySem.W.Frag} {M : List Addr} {σ : L2.St} {H H' : Hp} {t : Ty α} {u : Ty β} {te ta tb : TE} {x : α} {y : β} {v : V}
theorem Vl.at (e : Ke M H H') (w : Wf M H) (h : Vl M te σ H t x) : Vl M te σ H' t x := fun _ H1 k Q q => h w H1 (e.trans k) Q q
theorem Vt.at {tt : TT} {b : Bool} (e : Ke M H H') (w : Wf M H) (h : Vt M tt σ H b) : Vt M tt σ H' b := fun _ H1 k Q q => h w H1 (e.trans k) Q q
theorem vl_var {i : Nat} (h : σ[i]? = some (some v)) (r : t.rep M H v x) : Vl M (tVar i) σ H t x := fun _ H1 k _ q => ⟨v, h, q v H1 Ke.refl (t.keep k r)⟩
theorem vl_c (r : t.rep M H v x) : Vl M (tC v) σ H t x := fun _ H1 k _ q => q v H1 Ke.refl (t.keep k r)
theorem vl_int {i : Int} : Vl M (tC (.int i)) σ H yInt i := vl_c rfl
theorem vl_str {s : Str} : Vl M (tC (.str s)) σ H yStr s := vl_c rfl
theorem vl_bl {b : Bool} : Vl M (tC (.bl b)) σ H yBool b := vl_c rfl
theorem vl_non : Vl M (tC .non) σ H yNon () := vl_c rfl
theorem vl_is (h : Vl M te σ H t x) {x' : α} (e : x = x') : Vl M te σ H t x' := e ▸ h
theorem vt_is {tt : TT} {b b' : Bool} (h : Vt M tt σ H b) (e : b = b') : Vt M tt σ H b' := e ▸ h
/-- an operation of two operands -/
theorem vl_op {r : R2} {w : Ty γ} {z : γ} (ha : Vl M ta σ H t x) (hb : Vl M tb σ H u y)
    (hr : ∀ v1 v2 H1, Ke M H H1 → Wf M H1 → t.rep M H1 v1 x → u.rep M H1 v2 y → ∀ Q : VK, (∀ v H2, Ke [] H1 H2 → w.rep M H2 v z → Q v H2) → r v1 v2 H1 Q) : Vl M (tOp r ta tb) σ H w z :=
  fun wf H1 k Q q => ha wf H1 k _ fun v1 H2 k2 r1 => hb wf H2 (k.trans k2.all) _ fun v2 H3 k3 r2 =>
    hr v1 v2 H3 ((k.trans k2.all).trans k3.all) (wf.keep ((k.trans k2.all).trans k3.all)) (t.keep k3.all r1) r2 Q fun v H4 k4 r4 => q v H4 ((k2.trans k3).trans k4) r4
theorem vl_I0 {g : Int → Int → V} {w : Ty γ} {f : Int → Int → γ} {i j : Int} (hg : ∀ M H, w.rep M H (g i j) (f i j)) (ha : Vl M ta σ H yInt i) (hb : Vl M tb σ H yInt j) : Vl M (tOp (rI0 g) ta tb) σ H w (f i j) :=
  vl_op ha hb fun v1 v2 H1 _ _ r1 r2 Q q => ⟨i, j, r1, r2, q _ H1 Ke.refl (hg _ _)⟩
theorem vl_I {C : Int → Int → Prop} {g : Int → Int → V} {w : Ty γ} {f : Int → Int → γ} {i j : Int} (hc : C i j) (hg : ∀ M H, w.rep M H (g i j) (f i j)) (ha : Vl M ta σ H yInt i) (hb : Vl M tb σ H yInt j) : Vl M (tOp (rI C g) ta tb) σ H w (f i j) :=
  vl_op ha hb fun v1 v2 H1 _ _ r1 r2 Q q => ⟨i, j, r1, r2, hc, q _ H1 Ke.refl (hg _ _)⟩
theorem vl_add {i j : Int} (ha : Vl M ta σ H yInt i) (hb : Vl M tb σ H yInt j) : Vl M (tOp (rI0 fun i j => .int (i + j)) ta tb) σ H yInt (i + j) := vl_I0 (f := fun i j => i + j) (fun _ _ => rfl) ha hb
theorem vl_sub {i j : Int} (ha : Vl M ta σ H yInt i) (hb : Vl M tb σ H yInt j) : Vl M (tOp (rI0 fun i j => .int (i - j)) ta tb) σ H yInt (i - j) := vl_I0 (f := fun i j => i - j) (fun _ _ => rfl) ha hb
theorem vl_lt {i j : Int} (ha : Vl M ta σ H yInt i) (hb : Vl M tb σ H yInt j) : Vl M (tOp (rI0 fun i j => .bl (decide (i < j))) ta tb) σ H yBool (decide (i < j)) := vl_I0 (f := fun i j => decide (i < j)) (fun _ _ => rfl) ha hb
theorem vl_le {i j : Int} (ha : Vl M ta σ H yInt i) (hb : Vl M tb σ H yInt j) : Vl M (tOp (rI0 fun i j => .bl (decide (i ≤ j))) ta tb) σ H yBool (decide (i ≤ j)) := vl_I0 (f := fun i j => decide (i ≤ j)) (fun _ _ => rfl) ha hb
theorem vl_gt {i j : Int} (ha : Vl M ta σ H yInt i) (hb : Vl M tb σ H yInt j) : Vl M (tOp (rI0 fun i j => .bl (decide (j < i))) ta tb) σ H yBool (decide (j < i)) := vl_I0 (f := fun i j => decide (j < i)) (fun _ _ => rfl) ha hb
theorem vl_ge {i j : Int} (ha : Vl M ta σ H yInt i) (hb : Vl M tb σ H yInt j) : Vl M (tOp (rI0 fun i j => .bl (decide (j ≤ i))) ta tb) σ H yBool (decide (j ≤ i)) := vl_I0 (f := fun i j => decide (j ≤ i)) (fun _ _ => rfl) ha hb
/-- == and != of what is no object -/
class Sca {α : Type} (t : Ty α) [DecidableEq α] : Prop where
  s : ∀ {M : List Addr} {H : Hp} {v w : V} {x y : α}, t.rep M H v x → t.rep M H w y → scal v w = true ∧ decide (v = w) = decide (x = y)
instance : Sca yInt := ⟨fun {_ _ v w x y} h k => by
  have e1 : v = .int x := h
  have e2 : w = .int y := k
  subst e1 e2
  exact ⟨rfl, by by_cases e : x = y <;> simp [e]⟩⟩
instance : Sca yStr := ⟨fun {_ _ v w x y} h k => by
  have e1 : v = .str x := h
  have e2 : w = .str y := k
  subst e1 e2
  exact ⟨rfl, by by_cases e : x = y <;> simp [e]⟩⟩
instance : Sca yBool := ⟨fun {_ _ v w x y} h k => by
  have e1 : v = .bl x := h
  have e2 : w = .bl y := k
  subst e1 e2
  exact ⟨rfl, by by_cases e : x = y <;> simp [e]⟩⟩
theorem vl_eq [DecidableEq α] [Sca t] {x y : α} (ha : Vl M ta σ H t x) (hb : Vl M tb σ H t y) : Vl M (tOp rEq ta tb) σ H yBool (decide (x = y)) :=
  vl_op ha hb fun v1 v2 H1 _ _ r1 r2 Q q => ⟨(Sca.s r1 r2).1, q _ H1 Ke.refl (congrArg V.bl (Sca.s r1 r2).2)⟩
theorem vl_ne [DecidableEq α] [Sca t] {x y : α} (ha : Vl M ta σ H t x) (hb : Vl M tb σ H t y) : Vl M (tOp rNe ta tb) σ H yBool (!decide (x = y)) :=
  vl_op ha hb fun v1 v2 H1 _ _ r1 r2 Q q => ⟨(Sca.s r1 r2).1, q _ H1 Ke.refl (by rw [(Sca.s r1 r2).2]; rfl)⟩
/-! tests -/
theorem vt_B {b : Bool} (h : Vl M te σ H yBool b) : Vt M (tB te) σ H b := fun wf H1 k _ q => h wf H1 k _ fun v H2 k2 r => ⟨b, r, q H2 k2⟩
theorem vt_test {b : Bool} (h : Vl M te σ H yBool b) : Vt M (tTest te) σ H b := fun wf H1 k _ q => h wf H1 k _ fun v H2 k2 r => ⟨b, r, q H2 k2⟩
theorem vt_and {tt tu : TT} {a b : Bool} (h1 : Vt M tt σ H a) (h2 : a = true → Vt M tu σ H b) : Vt M (tAnd tt tu) σ H (a && b) := fun wf H1 k Q q => h1 wf H1 k _ fun H2 k2 => by
  cases a with
  | true =>
    show tu σ H2 Q
    exact h2 rfl wf H2 (k.trans k2.all) Q fun H3 k3 => q H3 (k2.trans k3)
  | false =>
    show Q false H2
    exact q H2 k2
theorem vt_or {tt tu : TT} {a b : Bool} (h1 : Vt M tt σ H a) (h2 : a = false → Vt M tu σ H b) : Vt M (tOr tt tu) σ H (a || b) := fun wf H1 k Q q => h1 wf H1 k _ fun H2 k2 => by
  cases a with
  | true =>
    show Q true H2
    exact q H2 k2
  | false =>
    show tu σ H2 Q
    exact h2 rfl wf H2 (k.trans k2.all) Q fun H3 k3 => q H3 (k2.trans k3)
theorem vt_not {tt : TT} {a : Bool} (h : Vt M tt σ H a) : Vt M (tNot tt) σ H (!a) := fun wf H1 k _ q => h wf H1 k _ fun H2 k2 => q H2 k2
theorem vt_yes : Vt M tYes σ H true := fun _ H1 _ _ q => q H1 Ke.refl
theorem vl_not {a : Bool} (h : Vl M te σ H yBool a) : Vl M (tNotV te) σ H yBool (!a) := fun wf H1 k Q q => h wf H1 k _ fun v H2 k2 r => ⟨a, r, q _ H2 k2 rfl⟩
theorem vl_and {a b : Bool} (h1 : Vl M ta σ H yBool a) (h2 : a = true → Vl M tb σ H yBool b) : Vl M (tAndV ta tb) σ H yBool (a && b) := fun wf H1 k Q q => h1 wf H1 k _ fun v H2 k2 r => ⟨a, r, by
  cases a with
  | true =>
    show tb σ H2 Q
    exact h2 rfl wf H2 (k.trans k2.all) Q fun w H3 k3 => q w H3 (k2.trans k3)
  | false =>
    show Q (.bl false) H2
    exact q _ H2 k2 rfl⟩
theorem vl_or {a b : Bool} (h1 : Vl M ta σ H yBool a) (h2 : a = false → Vl M tb σ H yBool b) : Vl M (tOrV ta tb) σ H yBool (a || b) := fun wf H1 k Q q => h1 wf H1 k _ fun v H2 k2 r => ⟨a, r, by
  cases a with
  | true =>
    show Q (.bl true) H2
    exact q _ H2 k2 rfl
  | false =>
    show tb σ H2 Q
    exact h2 rfl wf H2 (k.trans k2.all) Q fun w H3 k3 => q w H3 (k2.trans k3)⟩
theorem vl_if {tt : TT} {b : Bool} (h : Vt M tt σ H b) (h1 : b = true → Vl M ta σ H t x) (h2 : b = false → Vl M tb σ H t x) : Vl M (tIf tt ta tb) σ H t x := fun wf H1 k Q q => h wf H1 k _ fun H2 k2 => by
  cases b with
  | true =>
    show ta σ H2 Q
    exact h1 rfl wf H2 (k.trans k2.all) Q fun w H3 k3 => q w H3 (k2.trans k3)
  | false =>
    show tb σ H2 Q
    exact h2 rfl wf H2 (k.trans k2.all) Q fun w H3 k3 => q w H3 (k2.trans k3)
/-! arguments -/
theorem va_nil : Va M tNil σ H (fun _ vs => vs = []) := fun _ H1 _ _ q => q [] H1 Ke.refl rfl
theorem va_cons {tr : TA} {R : Hp → List V → Prop} (h : Vl M te σ H t x) (hr : Va M tr σ H R) : Va M (tCons te tr) σ H (fun H2 vs => ∃ v r, vs = v :: r ∧ t.rep M H2 v x ∧ R H2 r) := fun wf H1 k _ q =>
  h wf H1 k _ fun v H2 k2 r2 => hr wf H2 (k.trans k2.all) _ fun vs H3 k3 r3 => q _ H3 (k2.trans k3) ⟨v, vs, rfl, t.keep k3.all r2, r3⟩
theorem va_one (h : Vl M te σ H t x) : Va M (tCons te tNil) σ H (fun H2 vs => ∃ v, vs = [v] ∧ t.rep M H2 v x) := fun wf H1 k _ q =>
  h wf H1 k _ fun v H2 k2 r2 => q [v] H2 k2 ⟨v, rfl, r2⟩
theorem va_two (h : Vl M ta σ H t x) (h' : Vl M tb σ H u y) : Va M (tCons ta (tCons tb tNil)) σ H (fun H2 vs => ∃ v w, vs = [v, w] ∧ t.rep M H2 v x ∧ u.rep M H2 w y) := fun wf H1 k _ q =>
  h wf H1 k _ fun v H2 k2 r2 => h' wf H2 (k.trans k2.all) _ fun w H3 k3 r3 => q [v, w] H3 (k2.trans k3) ⟨v, w, rfl, t.keep k3.all r2, r3⟩
/-- items of one kind -/
theorem va_snil : Va M tNil σ H (fun H2 vs => P2 (t.rep M H2) vs []) := fun _ H1 _ _ q => q [] H1 Ke.refl trivial
theorem va_scons {tr : TA} {xs : List α} (h : Vl M te σ H t x) (hr : Va M tr σ H (fun H2 vs => P2 (t.rep M H2) vs xs)) : Va M (tCons te tr) σ H (fun H2 vs => P2 (t.rep M H2) vs (x :: xs)) := fun wf H1 k _ q =>
  h wf H1 k _ fun v H2 k2 r2 => hr wf H2 (k.trans k2.all) _ fun vs H3 k3 r3 => q _ H3 (k2.trans k3) ⟨t.keep k3.all r2, r3⟩
theorem szle {n : Nat} (h : n ≤ 1000000) : n ≤ sizeLine := Nat.le_trans h (by decide)
theorem szlt {n : Nat} (h : n ≤ 1000000) : n < sizeLine := Nat.lt_of_le_of_lt h (by decide)
theorem vl_lst {ta : TA} {xs : List α} (h : Va M ta σ H (fun H2 vs => P2 (t.rep M H2) vs xs)) (hz : xs.length ≤ 1000000) : Vl M (tLst ta) σ H (yList t) xs := fun wf H1 k _ q =>
  h wf H1 k _ fun vs H2 k2 r => ⟨szle (by rw [r.len]; exact hz), fun p hp => q _ _ (k2.trans (Ke.new hp)) ⟨p, vs, rfl, (wf.keep (k.trans k2.all)).not hp, upd_same, r.imp fun _ _ => t.keep (Ke.new hp)⟩⟩
theorem vl_pair {ta tb : TE} (h : Vl M ta σ H t x) (h' : Vl M tb σ H u y) : Vl M (tTup (tCons ta (tCons tb tNil))) σ H (yPair K t u) (x, y) := fun wf H1 k _ q =>
  va_two h h' wf H1 k _ fun vs H2 k2 r => by
    obtain ⟨v, w, rfl, r1, r2⟩ := r
    exact ⟨by show 2 ≤ sizeLine; decide, fun p hp => q _ _ (k2.trans (Ke.new hp)) ⟨p, v, w, rfl, .inl ⟨(wf.keep (k.trans k2.all)).not hp, upd_same⟩, t.keep (Ke.new hp) r1, u.keep (Ke.new hp) r2⟩⟩
/-! calls of built-ins -/
theorem vl_cb {r : List V → Hp → VK → Prop} {ta : TA} {R : Hp → List V → Prop} (h : Va M ta σ H R) (hr : ∀ vs H1, Ke M H H1 → Wf M H1 → R H1 vs → ∀ Q : VK, (∀ v H2, Ke [] H1 H2 → t.rep M H2 v x → Q v H2) → r vs H1 Q) : Vl M (tCB r ta) σ H t x :=
  fun wf H1 k Q q => h wf H1 k _ fun vs H2 k2 r2 => hr vs H2 (k.trans k2.all) (wf.keep (k.trans k2.all)) r2 Q fun v H3 k3 => q v H3 (k2.trans k3)
end
/-! ### sequences -/
section
variable {α β γ : Type} {K : PySem.W.Frag} {M : List Addr} {σ : L2.St} {H H' : Hp} {t : Ty α} {u : Ty β} {te ta tb : TE} {x : α} {y : β} {v : V} {xs ys : List α}
/-- a list or a tuple of the datum xs -/
structure SeqY (K : PySem.W.Frag) (t : Ty α) (s : Ty (List α)) : Prop where
  sq : ∀ {M : List Addr} {H : Hp} {v : V} {xs : List α}, s.rep M H v xs → ∃ a vs, v = .ref a ∧ (SqL K H a vs ∨ SqT K H a vs) ∧ P2 (t.rep M H) vs xs
theorem seqL : SeqY K t (yList t) := ⟨fun ⟨a, vs, e, _, h, p⟩ => ⟨a, vs, e, .inl (SqL.of h), p⟩⟩
theorem seqT : SeqY K t (yTup K t) := ⟨fun ⟨a, vs, e, h, p⟩ => ⟨a, vs, e, .inr h.sq, p⟩⟩
def rLen (K : PySem.W.Frag) : List V → Hp → VK → Prop := fun xs H Q => ∃ p ys, xs = [.ref p] ∧ (SqL K H p ys ∨ SqT K H p ys) ∧ Q (.int ys.length) H
theorem vl_len {s : Ty (List α)} (S : SeqY K t s) (h : Vl M te σ H s xs) : Vl M (tCB (fun xs H Q => ∃ p ys, xs = [.ref p] ∧ (SqL K H p ys ∨ SqT K H p ys) ∧ Q (.int ys.length) H) (tCons te tNil)) σ H yInt (xs.length : Int) :=
  vl_cb (va_one h) fun vs H1 _ _ ⟨v, e, r⟩ Q q => by
    obtain ⟨a, ws, rfl, hs, p⟩ := S.sq r
    exact ⟨a, ws, e, hs, q _ H1 Ke.refl (by show V.int _ = V.int _; rw [p.len])⟩
theorem vl_listOf {s : Ty (List α)} (S : SeqY K t s) (h : Vl M te σ H s xs) : Vl M (tCB (fun xs H Q => ∃ p ys, xs = [.ref p] ∧ (SqL K H p ys ∨ SqT K H p ys) ∧ ∀ l, H l = none → Q (.ref l) (upd H l (.lst ys))) (tCons te tNil)) σ H (yList t) xs :=
  vl_cb (va_one h) fun vs H1 _ wf ⟨v, e, r⟩ Q q => by
    obtain ⟨a, ws, rfl, hs, p⟩ := S.sq r
    exact ⟨a, ws, e, hs, fun l hl => q _ _ (Ke.new hl) ⟨l, ws, rfl, wf.not hl, upd_same, p.imp fun _ _ => t.keep (Ke.new hl)⟩⟩
theorem vl_tupleOf (h : Vl M te σ H (yList t) xs) : Vl M (tCB (fun xs H Q => ∃ p ys, xs = [.ref p] ∧ ((SqL K H p ys ∧ ∀ l, H l = none → Q (.ref l) (upd H l (.tup ys))) ∨ (SqT K H p ys ∧ Q (.ref p) H))) (tCons te tNil)) σ H (yTup K t) xs :=
  vl_cb (va_one h) fun vs H1 _ wf ⟨v, e, r⟩ Q q => by
    obtain ⟨a, ws, rfl, n, hs, p⟩ := r
    exact ⟨a, ws, e, .inl ⟨SqL.of hs, fun l hl => q _ _ (Ke.new hl) ⟨l, ws, rfl, .inl ⟨wf.not hl, upd_same⟩, p.imp fun _ _ => t.keep (Ke.new hl)⟩⟩⟩
theorem vl_int1 {i : Int} (h : Vl M te σ H yInt i) : Vl M (tCB (fun xs H Q => (∃ i, xs = [.int i] ∧ Q (.int i) H) ∨ ∃ k, xs = [.bl k] ∧ Q (.int (if k then 1 else 0)) H) (tCons te tNil)) σ H yInt i :=
  vl_cb (va_one h) fun vs H1 _ _ ⟨v, e, r⟩ Q q => .inl ⟨i, by rw [e]; exact congrArg (fun z => [z]) r, q _ H1 Ke.refl rfl⟩
/-- in, not in -/
class Flat {α : Type} (t : Ty α) [DecidableEq α] : Prop where
  f : ∀ {M : List Addr} {H : Hp} {v : V} {x : α}, t.rep M H v x → flatV v = true
  e : ∀ {M : List Addr} {H : Hp} {v w : V} {x y : α}, t.rep M H v x → t.rep M H w y → eqV v w = decide (x = y)
instance : Flat yInt := ⟨fun {_ _ v x} h => by have e : v = .int x := h; subst e; rfl, fun {_ _ v w x y} h k => by
  have e1 : v = .int x := h
  have e2 : w = .int y := k
  subst e1 e2
  show (x == y) = decide (x = y)
  by_cases e : x = y <;> simp [e]⟩
instance : Flat yStr := ⟨fun {_ _ v x} h => by have e : v = .str x := h; subst e; rfl, fun {_ _ v w x y} h k => by
  have e1 : v = .str x := h
  have e2 : w = .str y := k
  subst e1 e2
  show (x == y) = decide (x = y)
  by_cases e : x = y <;> simp [e]⟩
theorem P2.flat [DecidableEq α] [Flat t] : ∀ {vs : List V} {xs : List α}, P2 (t.rep M H) vs xs → vs.all flatV = true
  | [], [], _ => rfl
  | [], _ :: _, h => h.elim
  | _ :: _, [], h => h.elim
  | _ :: _, _ :: _, h => by rw [List.all_cons, Flat.f h.1, h.2.flat] <;> rfl
theorem P2.isin [DecidableEq α] [Flat t] {v : V} {x : α} (r : t.rep M H v x) : ∀ {vs : List V} {xs : List α}, P2 (t.rep M H) vs xs → inV v vs = decide (x ∈ xs)
  | [], [], _ => by simp [inV]
  | [], _ :: _, h => h.elim
  | _ :: _, [], h => h.elim
  | w :: ws, y :: ys, h => by
    have ih : inV v ws = decide (x ∈ ys) := P2.isin r h.2
    show (eqV w v || inV v ws) = _
    rw [ih, Flat.e h.1 r]
    by_cases e : y = x
    · simp [e]
    · have e' : ¬ x = y := fun z => e z.symm
      simp [e, e']
theorem vl_in [DecidableEq α] [Flat t] {s : Ty (List α)} (S : SeqY K t s) (ha : Vl M ta σ H t x) (hb : Vl M tb σ H s xs) : Vl M (tOp (rIn K false) ta tb) σ H yBool (decide (x ∈ xs)) :=
  vl_op ha hb fun v1 v2 H1 _ _ r1 r2 Q q => by
    obtain ⟨a, ws, rfl, hs, p⟩ := S.sq r2
    exact ⟨a, ws, rfl, hs, Flat.f r1, p.flat, q _ H1 Ke.refl (congrArg V.bl (p.isin r1))⟩
theorem vl_notin [DecidableEq α] [Flat t] {s : Ty (List α)} (S : SeqY K t s) (ha : Vl M ta σ H t x) (hb : Vl M tb σ H s xs) : Vl M (tOp (rIn K true) ta tb) σ H yBool (!decide (x ∈ xs)) :=
  vl_op ha hb fun v1 v2 H1 _ _ r1 r2 Q q => by
    obtain ⟨a, ws, rfl, hs, p⟩ := S.sq r2
    exact ⟨a, ws, rfl, hs, Flat.f r1, p.flat, q _ H1 Ke.refl (congrArg (fun b => V.bl (!b)) (p.isin r1))⟩
/-- xs + ys -/
theorem vl_cat (ha : Vl M ta σ H (yList t) xs) (hb : Vl M tb σ H (yList t) ys) (hz : xs.length + ys.length ≤ 1000000) : Vl M (tOp rCat ta tb) σ H (yList t) (xs ++ ys) :=
  vl_op ha hb fun v1 v2 H1 _ wf r1 r2 Q q => by
    obtain ⟨a, ws, rfl, n, h, p⟩ := r1
    obtain ⟨b, zs, rfl, n', h', p'⟩ := r2
    exact ⟨a, b, ws, zs, rfl, rfl, h, h', szle (by rw [p.len, p'.len]; exact hz), fun l hl => q _ _ (Ke.new hl) ⟨l, _, rfl, wf.not hl, upd_same, (p.app p').imp fun _ _ => t.keep (Ke.new hl)⟩⟩
/-- xs[i] -/
theorem vl_ixL {i : Nat} {j : Int} (ha : Vl M ta σ H (yList t) xs) (hb : Vl M tb σ H yInt j) (hj : j = (i : Int)) (hx : xs[i]? = some x) : Vl M (tOp (rIxL K) ta tb) σ H t x :=
  vl_op ha hb fun v1 v2 H1 _ _ r1 r2 Q q => by
    obtain ⟨a, ws, rfl, n, h, p⟩ := r1
    obtain ⟨v, e, r⟩ := p.tog hx
    exact ⟨a, ws, j, v, rfl, r2, SqL.of h, by rw [hj]; exact atI_nat e, q _ H1 Ke.refl r⟩
theorem vl_ixT {i : Nat} {j : Int} (ha : Vl M ta σ H (yTup K t) xs) (hb : Vl M tb σ H yInt j) (hj : j = (i : Int)) (hx : xs[i]? = some x) : Vl M (tOp (rIxT K) ta tb) σ H t x :=
  vl_op ha hb fun v1 v2 H1 _ _ r1 r2 Q q => by
    obtain ⟨a, ws, rfl, h, p⟩ := r1
    obtain ⟨v, e, r⟩ := p.tog hx
    exact ⟨a, ws, j, v, rfl, r2, h.sq, by rw [hj]; exact atI_nat e, q _ H1 Ke.refl r⟩
/-- == and != of data -/
structure IsD {α : Type} (K : PySem.W.Frag) (t : Ty α) (d : α → PyData) : Prop where
  dp : ∀ {M : List Addr} {H : Hp} {v : V} {x : α}, t.rep M H v x → Dp K H v (d x)
theorem isD_int : IsD K yInt PyData.int := ⟨fun {M H v x} h => by have e : v = .int x := h; subst e; exact .int x⟩
theorem isD_str : IsD K yStr PyData.str := ⟨fun {M H v x} h => by have e : v = .str x := h; subst e; exact .str x⟩
theorem isD_bool : IsD K yBool PyData.bool := ⟨fun {M H v x} h => by have e : v = .bl x := h; subst e; exact .bl x⟩
theorem P2.dp {d : α → PyData} (D : IsD K t d) : ∀ {vs : List V} {xs : List α}, P2 (t.rep M H) vs xs → DpAll K H vs (xs.map d)
  | [], [], _ => .nil
  | [], _ :: _, h => h.elim
  | _ :: _, [], h => h.elim
  | _ :: _, _ :: _, h => .cons (D.dp h.1) (h.2.dp D)
theorem isD_list {d : α → PyData} (D : IsD K t d) : IsD K (yList t) (fun xs => PyData.list (xs.map d)) := ⟨fun {M H v x} ⟨a, vs, e, n, h, p⟩ => by subst e; exact .lst (SqL.of h) (p.dp D)⟩
theorem isD_tup {d : α → PyData} (D : IsD K t d) : IsD K (yTup K t) (fun xs => PyData.tuple (xs.map d)) := ⟨fun {M H v x} ⟨a, vs, e, h, p⟩ => by subst e; exact .tup h.sq (p.dp D)⟩
theorem isD_pair {d : α → PyData} {d' : β → PyData} (D : IsD K t d) (D' : IsD K u d') : IsD K (yPair K t u) (fun x => PyData.tuple [d x.1, d' x.2]) := ⟨fun {M H v x} ⟨a, y, z, e, h, p, q⟩ => by subst e; exact .tup h.sq (.cons (D.dp p) (.cons (D'.dp q) .nil))⟩
theorem vl_eqD {d : α → PyData} {d' : β → PyData} {b : Bool} (D : IsD K t d) (D' : IsD K u d') (ha : Vl M ta σ H t x) (hb : Vl M tb σ H u y) (s1 : SeqAt.shaped (d x) = true) (s2 : SeqAt.shaped (d' y) = true) (hb' : PyData.eqv (d x) (d' y) = b) : Vl M (tOp (rEqD K) ta tb) σ H yBool b :=
  vl_op ha hb fun v1 v2 H1 _ _ r1 r2 Q q => ⟨_, _, D.dp r1, D'.dp r2, s1, s2, q _ H1 Ke.refl (congrArg V.bl hb')⟩
theorem vl_neD {d : α → PyData} {d' : β → PyData} {b : Bool} (D : IsD K t d) (D' : IsD K u d') (ha : Vl M ta σ H t x) (hb : Vl M tb σ H u y) (s1 : SeqAt.shaped (d x) = true) (s2 : SeqAt.shaped (d' y) = true) (hb' : PyData.eqv (d x) (d' y) = b) : Vl M (tOp (rNeD K) ta tb) σ H yBool (!b) :=
  vl_op ha hb fun v1 v2 H1 _ _ r1 r2 Q q => ⟨_, _, D.dp r1, D'.dp r2, s1, s2, q _ H1 Ke.refl (congrArg (fun b => V.bl (!b)) hb')⟩
end
/-! equality of data -/
theorem eqvAll_map {α : Type} [DecidableEq α] {d : α → PyData} (h : ∀ x y, PyData.eqv (d x) (d y) = decide (x = y)) : ∀ xs ys : List α, PyData.eqvAll (xs.map d) (ys.map d) = decide (xs = ys)
  | [], [] => by simp [PyData.eqvAll]
  | [], _ :: _ => by simp [PyData.eqvAll]
  | _ :: _, [] => by simp [PyData.eqvAll]
  | x :: xs, y :: ys => by
    show (PyData.eqv (d x) (d y) && PyData.eqvAll (xs.map d) (ys.map d)) = _
    rw [h, eqvAll_map h xs ys]
    by_cases e : x = y <;> by_cases e' : xs = ys <;> simp [e, e']
theorem eqv_str (x y : Str) : PyData.eqv (.str x) (.str y) = decide (x = y) := by
  show (x == y) = _
  by_cases e : x = y <;> simp [e]
theorem eqv_int (x y : Int) : PyData.eqv (.int x) (.int y) = decide (x = y) := by
  show (x == y) = _
  by_cases e : x = y <;> simp [e]
theorem eqv_strs (xs ys : List Str) : PyData.eqv (.list (xs.map .str)) (.list (ys.map .str)) = decide (xs = ys) := eqvAll_map eqv_str xs ys
theorem eqv_ints (xs ys : List Int) : PyData.eqv (.list (xs.map .int)) (.list (ys.map .int)) = decide (xs = ys) := eqvAll_map eqv_int xs ys
theorem eqv_strsT (xs ys : List Str) : PyData.eqv (.tuple (xs.map .str)) (.tuple (ys.map .str)) = decide (xs = ys) := eqvAll_map eqv_str xs ys
/-! ### environments: what the slots hold, as data -/
structure Slot where
  {α : Type}
  t : Ty α
  x : α
abbrev SS := List (Option Slot)
def Env (M : List Addr) (H : Hp) : L2.St → SS → Prop
  | [], [] => True
  | _ :: σ, none :: ss => Env M H σ ss
  | some v :: σ, some s :: ss => s.t.rep M H v s.x ∧ Env M H σ ss
  | _, _ => False
section
variable {M M' : List Addr} {H H' : Hp} {p : Addr}
theorem Env.keep (k : Ke M H H') : ∀ {σ : L2.St} {ss : SS}, Env M H σ ss → Env M H' σ ss
  | [], [], _ => trivial
  | [], _ :: _, h => h.elim
  | _ :: _, [], h => h.elim
  | none :: σ, none :: ss, h => Env.keep (σ := σ) (ss := ss) k h
  | some _ :: σ, none :: ss, h => Env.keep (σ := σ) (ss := ss) k h
  | none :: _, some _ :: _, h => h.elim
  | some _ :: σ, some s :: ss, h => ⟨s.t.keep k h.1, Env.keep (σ := σ) (ss := ss) k h.2⟩
theorem Env.less (k : ∀ a ∈ M', a ∈ M) : ∀ {σ : L2.St} {ss : SS}, Env M H σ ss → Env M' H σ ss
  | [], [], _ => trivial
  | [], _ :: _, h => h.elim
  | _ :: _, [], h => h.elim
  | none :: σ, none :: ss, h => Env.less (σ := σ) (ss := ss) k h
  | some _ :: σ, none :: ss, h => Env.less (σ := σ) (ss := ss) k h
  | none :: _, some _ :: _, h => h.elim
  | some _ :: σ, some s :: ss, h => ⟨s.t.less k h.1, Env.less (σ := σ) (ss := ss) k h.2⟩
theorem Env.more (f : H p = none) : ∀ {σ : L2.St} {ss : SS}, Env M H σ ss → Env (p :: M) H σ ss
  | [], [], _ => trivial
  | [], _ :: _, h => h.elim
  | _ :: _, [], h => h.elim
  | none :: σ, none :: ss, h => Env.more (σ := σ) (ss := ss) f h
  | some _ :: σ, none :: ss, h => Env.more (σ := σ) (ss := ss) f h
  | none :: _, some _ :: _, h => h.elim
  | some _ :: σ, some s :: ss, h => ⟨s.t.more f h.1, Env.more (σ := σ) (ss := ss) f h.2⟩
theorem Env.get {α : Type} {t : Ty α} {x : α} : ∀ {σ : L2.St} {ss : SS} {i : Nat}, Env M H σ ss → ss[i]? = some (some ⟨t, x⟩) → ∃ v, σ[i]? = some (some v) ∧ t.rep M H v x
  | [], [], _, _, e => by cases e
  | [], _ :: _, _, h, _ => h.elim
  | _ :: _, [], _, h, _ => h.elim
  | _ :: _, none :: _, 0, _, e => by cases e
  | _ :: _, none :: _, i + 1, h, e => by
    rename_i o σ ss
    have h' : Env M H σ ss := by cases o <;> exact h
    obtain ⟨v, e', r⟩ := Env.get (i := i) h' e
    exact ⟨v, e', r⟩
  | none :: _, some _ :: _, _, h, _ => h.elim
  | some v :: _, some s :: _, 0, h, e => by
    have e' := Option.some.inj (Option.some.inj e)
    subst e'
    exact ⟨v, rfl, h.1⟩
  | some _ :: _, some _ :: _, i + 1, h, e => by
    obtain ⟨v, e', r⟩ := Env.get (i := i) h.2 e
    exact ⟨v, e', r⟩
theorem Env.set {α : Type} {t : Ty α} {x : α} {v : V} (r : t.rep M H v x) : ∀ {σ : L2.St} {ss : SS} (i : Nat), Env M H σ ss → Env M H (σ.set i (some v)) (ss.set i (some ⟨t, x⟩))
  | [], [], _, _ => trivial
  | [], _ :: _, _, h => h.elim
  | _ :: _, [], _, h => h.elim
  | none :: _, none :: _, 0, h => ⟨r, h⟩
  | some _ :: _, none :: _, 0, h => ⟨r, h⟩
  | none :: σ, none :: ss, i + 1, h => Env.set (σ := σ) (ss := ss) r i h
  | some _ :: σ, none :: ss, i + 1, h => Env.set (σ := σ) (ss := ss) r i h
  | none :: _, some _ :: _, _, h => h.elim
  | some _ :: _, some _ :: _, 0, h => ⟨r, h.2⟩
  | some _ :: σ, some _ :: ss, i + 1, h => ⟨h.1, Env.set (σ := σ) (ss := ss) r i h.2⟩
theorem Env.clear : ∀ {σ : L2.St} {ss : SS} (i : Nat), Env M H σ ss → Env M H (σ.set i none) (ss.set i none)
  | [], [], _, _ => trivial
  | [], _ :: _, _, h => h.elim
  | _ :: _, [], _, h => h.elim
  | none :: _, none :: _, 0, h => h
  | some _ :: _, none :: _, 0, h => h
  | none :: σ, none :: ss, i + 1, h => Env.clear (σ := σ) (ss := ss) i h
  | some _ :: σ, none :: ss, i + 1, h => Env.clear (σ := σ) (ss := ss) i h
  | none :: _, some _ :: _, _, h => h.elim
  | some _ :: _, some _ :: _, 0, h => h.2
  | some _ :: σ, some _ :: ss, i + 1, h => ⟨h.1, Env.clear (σ := σ) (ss := ss) i h.2⟩
end
def wipeS (ss : SS) : List Nat → SS
  | [] => ss
  | v :: vs => (wipeS ss vs).set v none
theorem Env.wipe {M : List Addr} {H : Hp} {σ : L2.St} {ss : SS} (E : Env M H σ ss) : ∀ ws : List Nat, Env M H (L2.wipe σ ws) (wipeS ss ws)
  | [] => E
  | v :: vs => Env.clear v (Env.wipe E vs)
theorem wipe_at {σ : L2.St} {j : Nat} : ∀ {ws : List Nat}, j ∈ ws → (wipe σ ws).set j none = wipe σ ws
  | [], h => by cases h
  | w :: ws, h => by
    show ((wipe σ ws).set w none).set j none = (wipe σ ws).set w none
    by_cases e : w = j
    · rw [e, List.set_set]
    · rw [List.set_comm _ _ e, wipe_at (by rcases List.mem_cons.mp h with z | z; exact absurd z.symm e; exact z)]
theorem wipe_set {σ : L2.St} {o : Option V} {j : Nat} : ∀ {ws : List Nat}, j ∈ ws → wipe (σ.set j o) ws = wipe σ ws
  | [], h => by cases h
  | w :: ws, h => by
    show (wipe (σ.set j o) ws).set w none = (wipe σ ws).set w none
    by_cases m : j ∈ ws
    · rw [wipe_set m]
    · have e : w = j := by
        rcases List.mem_cons.mp h with z | z
        · exact z.symm
        · exact absurd z m
      have key : ∀ (us : List Nat) (τ : L2.St), (wipe (τ.set j o) us).set j none = (wipe τ us).set j none := by
        intro us
        induction us with
        | nil => intro τ; show (τ.set j o).set j none = τ.set j none; rw [List.set_set]
        | cons u us ih =>
          intro τ
          show ((wipe (τ.set j o) us).set u none).set j none = ((wipe τ us).set u none).set j none
          by_cases e' : u = j
          · rw [e', List.set_set, List.set_set, ih]
          · rw [List.set_comm _ _ e', List.set_comm _ _ e', ih]
      rw [e]
      exact key ws σ
theorem wipe_wipe {σ : L2.St} : ∀ {us ws : List Nat}, (∀ j ∈ us, j ∈ ws) → wipe (wipe σ us) ws = wipe σ ws
  | [], _, _ => rfl
  | u :: us, ws, h => by
    show wipe ((wipe σ us).set u none) ws = wipe σ ws
    rw [wipe_set (h u List.mem_cons_self), wipe_wipe fun j hj => h j (List.mem_cons_of_mem _ hj)]

/-! ### evaluation over an environment -/
def Ve {α : Type} (te : TE) (ss : SS) (t : Ty α) (x : α) : Prop := ∀ M σ H, Env M H σ ss → Vl M te σ H t x
def Vb (tt : TT) (ss : SS) (b : Bool) : Prop := ∀ M σ H, Env M H σ ss → Vt M tt σ H b
/-- a target takes a datum: the slots ws alone are changed -/
def Tg {α : Type} (g : TG) (t : Ty α) (ws : List Nat) (f : α → SS → SS) : Prop := ∀ M σ H ss v x, Env M H σ ss → t.rep M H v x → ∀ Q : L2.St → Hp → Prop, (∀ σ', wipe σ' ws = wipe σ ws → Env M H σ' (f x ss) → Q σ' H) → g v σ H Q
section
variable {α β γ δ : Type} {K : PySem.W.Frag} {ss : SS} {t : Ty α} {u : Ty β} {te ta tb tl : TE} {tt tu : TT} {x : α} {y : β} {xs ys : List α}
theorem ve_v {i : Nat} (h : ss[i]? = some (some ⟨t, x⟩)) : Ve (tVar i) ss t x := fun _ _ _ E => by
  obtain ⟨v, e, r⟩ := E.get h
  exact vl_var e r
theorem tg_name {j : Nat} {ws : List Nat} (h : j ∈ ws) : Tg (gName j) t ws (fun x ss => ss.set j (some ⟨t, x⟩)) := fun M σ H ss v x E r Q q => q _ (wipe_set h) (E.set r j)
theorem tg_pair {i j : Nat} {ws : List Nat} (hi : i ∈ ws) (hj : j ∈ ws) : Tg (gTup K 2 (gCons (gName i) (gCons (gName j) gNil))) (yPair K t u) ws (fun x ss => (ss.set i (some ⟨t, x.1⟩)).set j (some ⟨u, x.2⟩)) := fun M σ H ss v x E r Q q => by
  obtain ⟨a, y, z, rfl, h, r1, r2⟩ := r
  exact ⟨a, _, rfl, h.sq, rfl, _, _, rfl, _, _, rfl, rfl, q _ (by rw [wipe_set hj, wipe_set hi]) ((E.set r1 i).set r2 j)⟩
/-- what the comprehension's list at Dl holds -/
def Cw (M : List Addr) (H : Hp) (u : Ty β) (Dl : Addr) (ys : List β) (H' : Hp) : Prop := H Dl = none ∧ Ke [Dl] H H' ∧ ∃ vs, H' Dl = some (.lst vs) ∧ P2 (u.rep (Dl :: M) H') vs ys
theorem cw_turn {M : List Addr} {H H' : Hp} {Dl : Addr} {σ2 : L2.St} {ys : List β} {b : Bool} {y : β} (wf : Wf M H) (c : Cw M H u Dl ys H') (hz : ys.length ≤ 1000000) (ht : Vt (Dl :: M) tt σ2 H' b) (he : b = true → Vl (Dl :: M) te σ2 H' u y) :
    tt σ2 H' fun c H3 => if c = true then te σ2 H3 fun z H4 => ∃ acc, H4 Dl = some (.lst acc) ∧ acc.length < sizeLine ∧ Cw M H u Dl (if b = true then ys ++ [y] else ys) (upd H4 Dl (.lst (acc ++ [z]))) else Cw M H u Dl (if b = true then ys ++ [y] else ys) H3 := by
  obtain ⟨c1, c2, vs, c3, c4⟩ := c
  have wf' : Wf (Dl :: M) H' := (wf.keep c2).cons c3
  refine ht wf' H' Ke.refl _ fun H3 k3 => ?_
  cases b with
  | true =>
    show te σ2 H3 fun z H4 => ∃ acc, H4 Dl = some (.lst acc) ∧ acc.length < sizeLine ∧ Cw M H u Dl (ys ++ [y]) (upd H4 Dl (.lst (acc ++ [z])))
    refine he rfl wf' H3 k3.all _ fun v H4 k4 r => ⟨vs, (k3.trans k4).one c3, szlt (by rw [c4.len]; exact hz), c1, (c2.trans (k3.trans k4).all).trans (Ke.mut List.mem_cons_self), _, upd_same, ?_⟩
    exact (c4.imp fun _ _ => u.keep ((k3.trans k4).all.trans (Ke.mut List.mem_cons_self))).app ⟨u.keep (Ke.mut List.mem_cons_self) r, trivial⟩
  | false =>
    show Cw M H u Dl ys H3
    exact ⟨c1, c2.trans k3.all, vs, k3.one c3, c4.imp fun _ _ => u.keep k3.all⟩
theorem Cw.ke {M : List Addr} {H H' : Hp} {Dl : Addr} {ys : List β} (c : Cw M H u Dl ys H') : Ke (Dl :: M) H H' := c.2.1.sub fun _ h => by rw [List.mem_singleton.mp h]; exact List.mem_cons_self
theorem take_turn {p : α → Bool} {g : α → β} {i : Nat} (h : xs[i]? = some x) : ((xs.take (i + 1)).filter p).map g = if p x = true then ((xs.take i).filter p).map g ++ [g x] else ((xs.take i).filter p).map g := by
  rw [List.take_add_one, h, List.filter_append, List.map_append]
  cases e : p x with
  | true => simp [e]
  | false => simp [e]
theorem take_len {p : α → Bool} {g : α → β} {i n : Nat} (h : xs.length ≤ n) : (((xs.take i).filter p).map g).length ≤ n := by
  rw [List.length_map]
  refine Nat.le_trans (List.length_filter_le _ _) ?_
  rw [List.length_take]
  omega
theorem ve_lcL {g : TG} {ws : List Nat} {f : α → SS → SS} (p : α → Bool) (m : α → β) (T : Tg g t ws f) (hl : Ve tl ss (yList t) xs) (hz : xs.length ≤ 1000000) (ht : ∀ x ∈ xs, Vb tt (f x (wipeS ss ws)) (p x)) (he : ∀ x ∈ xs, p x = true → Ve te (f x (wipeS ss ws)) u (m x)) :
    Ve (tLc (iList K tl) g tt te ws) ss (yList u) ((xs.filter p).map m) := fun M σ H E wf H1 k Q q => hl M σ H E wf H1 k _ fun v H2 k2 r => by
  obtain ⟨a, vs, rfl, n, ha, pr⟩ := r
  have E2 : Env M H2 σ ss := E.keep (k.trans k2.all)
  have wf2 : Wf M H2 := wf.keep (k.trans k2.all)
  refine ⟨a, rfl, ⟨vs, SqL.of ha⟩, fun Dl hD => lc_list (xs := vs) (fun i H' => Cw M H2 u Dl (((xs.take i).filter p).map m) H') ⟨hD, (Ke.new hD), [], upd_same, trivial⟩ (fun i H' _ c => ?_) (fun i v H' hv c => ?_) (fun H' c => ?_)⟩
  · exact SqL.of (c.2.1.keep a _ (fun z => by rw [List.mem_singleton.mp z, hD] at ha; cases ha) ha)
  · obtain ⟨x, hx, rx⟩ := pr.get hv
    have E3 : Env (Dl :: M) H' (wipe σ ws) (wipeS ss ws) := ((E2.more hD).keep c.ke).wipe ws
    refine T (Dl :: M) (wipe σ ws) H' (wipeS ss ws) v x E3 (t.keep c.ke (t.more hD rx)) _ fun σ' hw E4 => ⟨hw.trans (wipe_wipe fun _ h => h), ?_⟩
    have hm : x ∈ xs := List.mem_of_getElem? hx
    rw [take_turn hx]
    exact cw_turn wf2 c (take_len hz) (ht x hm (Dl :: M) σ' H' E4) fun hb => he x hm hb (Dl :: M) σ' H' E4
  · obtain ⟨c1, c2, ws', c3, c4⟩ := c
    rw [pr.len, List.take_length] at c4
    exact q _ H' (k2.trans (c2.old c1)) ⟨Dl, ws', rfl, wf2.not hD, c3, c4.imp fun _ _ => u.less fun _ h => List.mem_cons_of_mem _ h⟩
end
section
variable {α β γ δ : Type} {K : PySem.W.Frag} {ss : SS} {t : Ty α} {u : Ty β} {te ta tb tl : TE} {tt tu : TT} {x : α} {y : β} {xs ys : List α}
theorem ve_lcT {g : TG} {ws : List Nat} {f : α → SS → SS} (p : α → Bool) (m : α → β) (T : Tg g t ws f) (hl : Ve tl ss (yTup K t) xs) (hz : xs.length ≤ 1000000) (ht : ∀ x ∈ xs, Vb tt (f x (wipeS ss ws)) (p x)) (he : ∀ x ∈ xs, p x = true → Ve te (f x (wipeS ss ws)) u (m x)) :
    Ve (tLc (iTup K tl) g tt te ws) ss (yList u) ((xs.filter p).map m) := fun M σ H E wf H1 k Q q => hl M σ H E wf H1 k _ fun v H2 k2 r => by
  obtain ⟨a, vs, rfl, ha, pr⟩ := r
  have E2 : Env M H2 σ ss := E.keep (k.trans k2.all)
  have wf2 : Wf M H2 := wf.keep (k.trans k2.all)
  refine ⟨a, rfl, ⟨vs, ha.sq⟩, fun Dl hD => lc_tup (xs := vs) (fun i H' => Cw M H2 u Dl (((xs.take i).filter p).map m) H') ⟨hD, (Ke.new hD), [], upd_same, trivial⟩ (fun i H' _ c => ?_) (fun i v H' hv c => ?_) (fun H' c => ?_)⟩
  · exact ((ha.more hD).keep c.ke).sq
  · obtain ⟨x, hx, rx⟩ := pr.get hv
    have E3 : Env (Dl :: M) H' (wipe σ ws) (wipeS ss ws) := ((E2.more hD).keep c.ke).wipe ws
    refine T (Dl :: M) (wipe σ ws) H' (wipeS ss ws) v x E3 (t.keep c.ke (t.more hD rx)) _ fun σ' hw E4 => ⟨hw.trans (wipe_wipe fun _ h => h), ?_⟩
    have hm : x ∈ xs := List.mem_of_getElem? hx
    rw [take_turn hx]
    exact cw_turn wf2 c (take_len hz) (ht x hm (Dl :: M) σ' H' E4) fun hb => he x hm hb (Dl :: M) σ' H' E4
  · obtain ⟨c1, c2, ws', c3, c4⟩ := c
    rw [pr.len, List.take_length] at c4
    exact q _ H' (k2.trans (c2.old c1)) ⟨Dl, ws', rfl, wf2.not hD, c3, c4.imp fun _ _ => u.less fun _ h => List.mem_cons_of_mem _ h⟩
/-- the numbers from 0 below n -/
def upto (n : Int) : List Int := (List.range n.toNat).map fun i : Nat => (i : Int)
theorem upto_get {n : Int} {i : Nat} (h : i < n.toNat) : (upto n)[i]? = some (i : Int) := by
  unfold upto
  rw [List.getElem?_map, List.getElem?_range h] <;> rfl
theorem upto_len (n : Int) : (upto n).length = n.toNat := by
  unfold upto
  rw [List.length_map, List.length_range]
theorem mem_upto {n i : Int} : i ∈ upto n ↔ 0 ≤ i ∧ i < n := by
  unfold upto
  rw [List.mem_map]
  constructor
  · rintro ⟨k, hk, rfl⟩
    have := List.mem_range.mp hk
    omega
  · intro h
    exact ⟨i.toNat, List.mem_range.mpr (by omega), by omega⟩
theorem ve_lcR {j : Nat} {ws : List Nat} {n : Int} (p : Int → Bool) (m : Int → β) (hj : j ∈ ws) (hl : Ve tl ss yInt n) (hz : n ≤ 1000000) (ht : ∀ x : Int, 0 ≤ x → x < n → Vb tt ((wipeS ss ws).set j (some ⟨yInt, x⟩)) (p x)) (he : ∀ x : Int, 0 ≤ x → x < n → p x = true → Ve te ((wipeS ss ws).set j (some ⟨yInt, x⟩)) u (m x)) (hn : -1000000 ≤ n) :
    Ve (tLc (iRng1 (tCons tl tNil)) (gName j) tt te ws) ss (yList u) (((upto n).filter p).map m) := fun M σ H E wf H1 k Q q => hl M σ H E wf H1 k _ fun v H2 k2 r => by
  have rv : v = .int n := r
  subst rv
  have E2 : Env M H2 σ ss := E.keep (k.trans k2.all)
  have wf2 : Wf M H2 := wf.keep (k.trans k2.all)
  have hz' : (upto n).length ≤ 1000000 := by rw [upto_len]; omega
  refine ⟨n, rfl, by omega, by omega, fun Dl hD => lc_range (lo := 0) (n := n.toNat) (fun i H' => Cw M H2 u Dl ((((upto n).take i).filter p).map m) H') ⟨hD, (Ke.new hD), [], upd_same, trivial⟩ (fun i H' hi c => ?_) (fun H' c => ?_)⟩
  · have hx := upto_get hi
    have E3 : Env (Dl :: M) H' (wipe σ ws) (wipeS ss ws) := ((E2.more hD).keep c.ke).wipe ws
    have e0 : (0 : Int) + (i : Int) = (i : Int) := Int.zero_add _
    rw [e0]
    have E4 : Env (Dl :: M) H' ((wipe σ ws).set j (some (.int (i : Int)))) ((wipeS ss ws).set j (some ⟨yInt, (i : Int)⟩)) := E3.set (t := yInt) (x := (i : Int)) rfl j
    refine ⟨(wipe_set hj).trans (wipe_wipe fun _ h => h), ?_⟩
    rw [take_turn hx]
    exact cw_turn wf2 c (take_len hz') (ht i (by omega) (by omega) (Dl :: M) _ H' E4) fun hb => he i (by omega) (by omega) hb (Dl :: M) _ H' E4
  · obtain ⟨c1, c2, ws', c3, c4⟩ := c
    rw [← upto_len, List.take_length] at c4
    exact q _ H' (k2.trans (c2.old c1)) ⟨Dl, ws', rfl, wf2.not hD, c3, c4.imp fun _ _ => u.less fun _ h => List.mem_cons_of_mem _ h⟩
/-! the rules of Vl over an environment -/
theorem ve_int {i : Int} : Ve (tC (.int i)) ss yInt i := fun _ _ _ _ => vl_int
theorem ve_str {s : Str} : Ve (tC (.str s)) ss yStr s := fun _ _ _ _ => vl_str
theorem ve_bl {b : Bool} : Ve (tC (.bl b)) ss yBool b := fun _ _ _ _ => vl_bl
theorem ve_non : Ve (tC .non) ss yNon () := fun _ _ _ _ => vl_non
theorem ve_k {v : V} (h : ∀ M H, t.rep M H v x) : Ve (tC v) ss t x := fun M _ H _ => vl_c (h M H)
theorem ve_is (h : Ve te ss t x) {x' : α} (e : x = x') : Ve te ss t x' := e ▸ h
theorem vb_is {b b' : Bool} (h : Vb tt ss b) (e : b = b') : Vb tt ss b' := e ▸ h
theorem ve_op {r : R2} {w : Ty γ} {z : γ} (ha : Ve ta ss t x) (hb : Ve tb ss u y)
    (hr : ∀ M v1 v2 H1, Wf M H1 → t.rep M H1 v1 x → u.rep M H1 v2 y → ∀ Q : VK, (∀ v H2, Ke [] H1 H2 → w.rep M H2 v z → Q v H2) → r v1 v2 H1 Q) : Ve (tOp r ta tb) ss w z :=
  fun M σ H E => vl_op (ha M σ H E) (hb M σ H E) fun v1 v2 H1 _ wf r1 r2 Q q => hr M v1 v2 H1 wf r1 r2 Q q
theorem ve_add {i j : Int} (ha : Ve ta ss yInt i) (hb : Ve tb ss yInt j) : Ve (tOp (rI0 fun i j => .int (i + j)) ta tb) ss yInt (i + j) := fun M σ H E => vl_add (ha M σ H E) (hb M σ H E)
theorem ve_sub {i j : Int} (ha : Ve ta ss yInt i) (hb : Ve tb ss yInt j) : Ve (tOp (rI0 fun i j => .int (i - j)) ta tb) ss yInt (i - j) := fun M σ H E => vl_sub (ha M σ H E) (hb M σ H E)
theorem ve_lt {i j : Int} (ha : Ve ta ss yInt i) (hb : Ve tb ss yInt j) : Ve (tOp (rI0 fun i j => .bl (decide (i < j))) ta tb) ss yBool (decide (i < j)) := fun M σ H E => vl_lt (ha M σ H E) (hb M σ H E)
theorem ve_le {i j : Int} (ha : Ve ta ss yInt i) (hb : Ve tb ss yInt j) : Ve (tOp (rI0 fun i j => .bl (decide (i ≤ j))) ta tb) ss yBool (decide (i ≤ j)) := fun M σ H E => vl_le (ha M σ H E) (hb M σ H E)
theorem ve_gt {i j : Int} (ha : Ve ta ss yInt i) (hb : Ve tb ss yInt j) : Ve (tOp (rI0 fun i j => .bl (decide (j < i))) ta tb) ss yBool (decide (j < i)) := fun M σ H E => vl_gt (ha M σ H E) (hb M σ H E)
theorem ve_ge {i j : Int} (ha : Ve ta ss yInt i) (hb : Ve tb ss yInt j) : Ve (tOp (rI0 fun i j => .bl (decide (j ≤ i))) ta tb) ss yBool (decide (j ≤ i)) := fun M σ H E => vl_ge (ha M σ H E) (hb M σ H E)
theorem ve_mod {i j : Int} (h : 0 < j) (ha : Ve ta ss yInt i) (hb : Ve tb ss yInt j) : Ve (tOp (rI (fun _ j => 0 < j) fun i j => .int (i % j)) ta tb) ss yInt (i % j) := fun M σ H E => vl_I (f := fun i j => i % j) h (fun _ _ => rfl) (ha M σ H E) (hb M σ H E)
theorem ve_fdiv {i j : Int} (h : CDiv i j) (ha : Ve ta ss yInt i) (hb : Ve tb ss yInt j) : Ve (tOp (rI CDiv fun i j => .int (i / j)) ta tb) ss yInt (i / j) := fun M σ H E => vl_I (f := fun i j => i / j) h (fun _ _ => rfl) (ha M σ H E) (hb M σ H E)
theorem ve_mul {i j : Int} (h : CMul i j) (ha : Ve ta ss yInt i) (hb : Ve tb ss yInt j) : Ve (tOp (rI CMul fun i j => .int (i * j)) ta tb) ss yInt (i * j) := fun M σ H E => vl_I (f := fun i j => i * j) h (fun _ _ => rfl) (ha M σ H E) (hb M σ H E)
theorem ve_pow {i j : Int} (h : CPow i j) (ha : Ve ta ss yInt i) (hb : Ve tb ss yInt j) : Ve (tOp (rI CPow fun i j => .int (i ^ j.toNat)) ta tb) ss yInt (i ^ j.toNat) := fun M σ H E => vl_I (f := fun i j => i ^ j.toNat) h (fun _ _ => rfl) (ha M σ H E) (hb M σ H E)
theorem ve_neg {i : Int} (ha : Ve ta ss yInt i) : Ve (tUn (rU fun i => .int (-i)) ta) ss yInt (-i) := fun M σ H E wf H1 k Q q => ha M σ H E wf H1 k _ fun v H2 k2 r => ⟨i, r, q _ H2 k2 rfl⟩
theorem ve_eq [DecidableEq α] [Sca t] {x y : α} (ha : Ve ta ss t x) (hb : Ve tb ss t y) : Ve (tOp rEq ta tb) ss yBool (decide (x = y)) := fun M σ H E => vl_eq (ha M σ H E) (hb M σ H E)
theorem ve_ne [DecidableEq α] [Sca t] {x y : α} (ha : Ve ta ss t x) (hb : Ve tb ss t y) : Ve (tOp rNe ta tb) ss yBool (!decide (x = y)) := fun M σ H E => vl_ne (ha M σ H E) (hb M σ H E)
theorem vb_B {b : Bool} (h : Ve te ss yBool b) : Vb (tB te) ss b := fun M σ H E => vt_B (h M σ H E)
theorem vb_test {b : Bool} (h : Ve te ss yBool b) : Vb (tTest te) ss b := fun M σ H E => vt_test (h M σ H E)
theorem vb_and {a b : Bool} (h1 : Vb tt ss a) (h2 : a = true → Vb tu ss b) : Vb (tAnd tt tu) ss (a && b) := fun M σ H E => vt_and (h1 M σ H E) fun e => h2 e M σ H E
theorem vb_or {a b : Bool} (h1 : Vb tt ss a) (h2 : a = false → Vb tu ss b) : Vb (tOr tt tu) ss (a || b) := fun M σ H E => vt_or (h1 M σ H E) fun e => h2 e M σ H E
theorem vb_not {a : Bool} (h : Vb tt ss a) : Vb (tNot tt) ss (!a) := fun M σ H E => vt_not (h M σ H E)
theorem vb_yes : Vb tYes ss true := fun _ _ _ _ => vt_yes
theorem ve_not {a : Bool} (h : Ve te ss yBool a) : Ve (tNotV te) ss yBool (!a) := fun M σ H E => vl_not (h M σ H E)
theorem ve_and {a b : Bool} (h1 : Ve ta ss yBool a) (h2 : a = true → Ve tb ss yBool b) : Ve (tAndV ta tb) ss yBool (a && b) := fun M σ H E => vl_and (h1 M σ H E) fun e => h2 e M σ H E
theorem ve_or {a b : Bool} (h1 : Ve ta ss yBool a) (h2 : a = false → Ve tb ss yBool b) : Ve (tOrV ta tb) ss yBool (a || b) := fun M σ H E => vl_or (h1 M σ H E) fun e => h2 e M σ H E
theorem ve_if {b : Bool} (h : Vb tt ss b) (h1 : b = true → Ve ta ss t x) (h2 : b = false → Ve tb ss t x) : Ve (tIf tt ta tb) ss t x := fun M σ H E => vl_if (h M σ H E) (fun e => h1 e M σ H E) fun e => h2 e M σ H E
/-- items of one kind -/
def Vi {α : Type} (ta : TA) (ss : SS) (t : Ty α) (xs : List α) : Prop := ∀ M σ H, Env M H σ ss → Va M ta σ H (fun H2 vs => P2 (t.rep M H2) vs xs)
theorem vi_nil : Vi tNil ss t [] := fun _ _ _ _ => va_snil
theorem vi_cons {tr : TA} (h : Ve te ss t x) (hr : Vi tr ss t xs) : Vi (tCons te tr) ss t (x :: xs) := fun M σ H E => va_scons (h M σ H E) (hr M σ H E)
theorem ve_lst {ta : TA} (h : Vi ta ss t xs) (hz : xs.length ≤ 1000000) : Ve (tLst ta) ss (yList t) xs := fun M σ H E => vl_lst (h M σ H E) hz
theorem ve_pair {ta tb : TE} (h : Ve ta ss t x) (h' : Ve tb ss u y) : Ve (tTup (tCons ta (tCons tb tNil))) ss (yPair K t u) (x, y) := fun M σ H E => vl_pair (h M σ H E) (h' M σ H E)
theorem ve_len {s : Ty (List α)} (S : SeqY K t s) (h : Ve te ss s xs) : Ve (tCB (fun xs H Q => ∃ p ys, xs = [.ref p] ∧ (SqL K H p ys ∨ SqT K H p ys) ∧ Q (.int ys.length) H) (tCons te tNil)) ss yInt (xs.length : Int) := fun M σ H E => vl_len S (h M σ H E)
theorem ve_listOf {s : Ty (List α)} (S : SeqY K t s) (h : Ve te ss s xs) : Ve (tCB (fun xs H Q => ∃ p ys, xs = [.ref p] ∧ (SqL K H p ys ∨ SqT K H p ys) ∧ ∀ l, H l = none → Q (.ref l) (upd H l (.lst ys))) (tCons te tNil)) ss (yList t) xs := fun M σ H E => vl_listOf S (h M σ H E)
theorem ve_tupleOf (h : Ve te ss (yList t) xs) : Ve (tCB (fun xs H Q => ∃ p ys, xs = [.ref p] ∧ ((SqL K H p ys ∧ ∀ l, H l = none → Q (.ref l) (upd H l (.tup ys))) ∨ (SqT K H p ys ∧ Q (.ref p) H))) (tCons te tNil)) ss (yTup K t) xs := fun M σ H E => vl_tupleOf (h M σ H E)
theorem ve_int1 {i : Int} (h : Ve te ss yInt i) : Ve (tCB (fun xs H Q => (∃ i, xs = [.int i] ∧ Q (.int i) H) ∨ ∃ k, xs = [.bl k] ∧ Q (.int (if k then 1 else 0)) H) (tCons te tNil)) ss yInt i := fun M σ H E => vl_int1 (h M σ H E)
theorem ve_in [DecidableEq α] [Flat t] {s : Ty (List α)} (S : SeqY K t s) (ha : Ve ta ss t x) (hb : Ve tb ss s xs) : Ve (tOp (rIn K false) ta tb) ss yBool (decide (x ∈ xs)) := fun M σ H E => vl_in S (ha M σ H E) (hb M σ H E)
theorem ve_notin [DecidableEq α] [Flat t] {s : Ty (List α)} (S : SeqY K t s) (ha : Ve ta ss t x) (hb : Ve tb ss s xs) : Ve (tOp (rIn K true) ta tb) ss yBool (!decide (x ∈ xs)) := fun M σ H E => vl_notin S (ha M σ H E) (hb M σ H E)
theorem ve_cat (ha : Ve ta ss (yList t) xs) (hb : Ve tb ss (yList t) ys) (hz : xs.length + ys.length ≤ 1000000) : Ve (tOp rCat ta tb) ss (yList t) (xs ++ ys) := fun M σ H E => vl_cat (ha M σ H E) (hb M σ H E) hz
theorem ve_ixL {i : Nat} {j : Int} (ha : Ve ta ss (yList t) xs) (hb : Ve tb ss yInt j) (hj : j = (i : Int)) (hx : xs[i]? = some x) : Ve (tOp (rIxL K) ta tb) ss t x := fun M σ H E => vl_ixL (ha M σ H E) (hb M σ H E) hj hx
theorem ve_ixT {i : Nat} {j : Int} (ha : Ve ta ss (yTup K t) xs) (hb : Ve tb ss yInt j) (hj : j = (i : Int)) (hx : xs[i]? = some x) : Ve (tOp (rIxT K) ta tb) ss t x := fun M σ H E => vl_ixT (ha M σ H E) (hb M σ H E) hj hx
theorem ve_eqD {d : α → PyData} {d' : β → PyData} {b : Bool} (D : IsD K t d) (D' : IsD K u d') (ha : Ve ta ss t x) (hb : Ve tb ss u y) (s1 : SeqAt.shaped (d x) = true) (s2 : SeqAt.shaped (d' y) = true) (hb' : PyData.eqv (d x) (d' y) = b) : Ve (tOp (rEqD K) ta tb) ss yBool b := fun M σ H E => vl_eqD D D' (ha M σ H E) (hb M σ H E) s1 s2 hb'
theorem ve_neD {d : α → PyData} {d' : β → PyData} {b : Bool} (D : IsD K t d) (D' : IsD K u d') (ha : Ve ta ss t x) (hb : Ve tb ss u y) (s1 : SeqAt.shaped (d x) = true) (s2 : SeqAt.shaped (d' y) = true) (hb' : PyData.eqv (d x) (d' y) = b) : Ve (tOp (rNeD K) ta tb) ss yBool (!b) := fun M σ H E => vl_neD D D' (ha M σ H E) (hb M σ H E) s1 s2 hb'
end
/-! shapes -/
def Shp (n : Nat) (d : PyData) : Prop := d.canLay0 = true ∧ d.depth ≤ n
theorem Shp.shaped {n : Nat} {d : PyData} (h : Shp n d) (hn : n ≤ 64) : SeqAt.shaped d = true := by
  unfold SeqAt.shaped
  rw [h.1, decide_eq_true (Nat.le_trans h.2 hn)] <;> rfl
theorem shp_all {α : Type} {n : Nat} {d : α → PyData} : ∀ {xs : List α}, (∀ x ∈ xs, Shp n (d x)) → PyData.canLayAll0 (xs.map d) = true ∧ PyData.depthAll (xs.map d) ≤ n
  | [], _ => ⟨rfl, Nat.zero_le _⟩
  | x :: xs, h => by
    have ih := shp_all (xs := xs) fun y hy => h y (List.mem_cons_of_mem _ hy)
    have hx := h x List.mem_cons_self
    refine ⟨?_, ?_⟩
    · show (PyData.canLay0 (d x) && PyData.canLayAll0 (xs.map d)) = true
      rw [hx.1, ih.1] <;> rfl
    · show max (PyData.depth (d x)) (PyData.depthAll (xs.map d)) ≤ n
      exact Nat.max_le.mpr ⟨hx.2, ih.2⟩
theorem shp_list {α : Type} {n : Nat} {d : α → PyData} {xs : List α} (h : ∀ x ∈ xs, Shp n (d x)) : Shp (n + 1) (.list (xs.map d)) := ⟨(shp_all h).1, Nat.succ_le_succ (shp_all h).2⟩
theorem shp_tup {α : Type} {n : Nat} {d : α → PyData} {xs : List α} (h : ∀ x ∈ xs, Shp n (d x)) : Shp (n + 1) (.tuple (xs.map d)) := ⟨(shp_all h).1, Nat.succ_le_succ (shp_all h).2⟩
theorem shp_int (i : Int) : Shp 0 (.int i) := ⟨rfl, Nat.le_refl _⟩
theorem shp_str {s : Str} (h : PyData.canLay0 (.str s) = true) : Shp 0 (.str s) := ⟨h, Nat.le_refl _⟩
/-! ### objects that are owned and may change -/
/-- what an owned object at a holds -/
structure MSlot where
  I : List Addr → Hp → Addr → Prop
  stab : ∀ {M M' : List Addr} {H H' : Hp} {a : Addr}, Ke M' H H' → (∀ b ∈ M', b ∈ M) → a ∉ M' → I M H a → I M H' a
  more : ∀ {M : List Addr} {H : Hp} {a p : Addr}, H p = none → I M H a → I (p :: M) H a
  less : ∀ {M M' : List Addr} {H : Hp} {a : Addr}, (∀ b ∈ M', b ∈ M) → I M H a → I M' H a
  there : ∀ {M : List Addr} {H : Hp} {a : Addr}, I M H a → ∃ o, H a = some o
def mL {α : Type} (t : Ty α) (xs : List α) : MSlot where
  I := fun M H a => ∃ vs, H a = some (.lst vs) ∧ P2 (t.rep M H) vs xs
  stab := fun k s n ⟨vs, h, p⟩ => ⟨vs, k.keep _ _ n h, p.imp fun _ _ => t.keep (k.sub s)⟩
  more := fun f ⟨vs, h, p⟩ => ⟨vs, h, p.imp fun _ _ => t.more f⟩
  less := fun s ⟨vs, h, p⟩ => ⟨vs, h, p.imp fun _ _ => t.less s⟩
  there := fun ⟨vs, h, _⟩ => ⟨_, h⟩
def Own (M : List Addr) (H : Hp) : List Addr → List MSlot → Prop
  | [], [] => True
  | a :: L, m :: ms => m.I M H a ∧ Own M H L ms
  | _, _ => False
section
variable {M M' : List Addr} {H H' : Hp} {p : Addr}
theorem Own.stab (k : Ke M' H H') (s : ∀ b ∈ M', b ∈ M) : ∀ {L : List Addr} {ms : List MSlot}, (∀ a ∈ L, a ∉ M') → Own M H L ms → Own M H' L ms
  | [], [], _, _ => trivial
  | [], _ :: _, _, h => h.elim
  | _ :: _, [], _, h => h.elim
  | _ :: L, m :: ms, n, h => ⟨m.stab k s (n _ List.mem_cons_self) h.1, Own.stab k s (L := L) (ms := ms) (fun a ha => n a (List.mem_cons_of_mem _ ha)) h.2⟩
theorem Own.grow (k : Ke [] H H') {L : List Addr} {ms : List MSlot} (h : Own M H L ms) : Own M H' L ms := h.stab k (fun _ z => by cases z) fun _ _ z => by cases z
theorem Own.more (f : H p = none) : ∀ {L : List Addr} {ms : List MSlot}, Own M H L ms → Own (p :: M) H L ms
  | [], [], _ => trivial
  | [], _ :: _, h => h.elim
  | _ :: _, [], h => h.elim
  | _ :: L, m :: ms, h => ⟨m.more f h.1, Own.more f (L := L) (ms := ms) h.2⟩
theorem Own.less (s : ∀ b ∈ M', b ∈ M) : ∀ {L : List Addr} {ms : List MSlot}, Own M H L ms → Own M' H L ms
  | [], [], _ => trivial
  | [], _ :: _, h => h.elim
  | _ :: _, [], h => h.elim
  | _ :: L, m :: ms, h => ⟨m.less s h.1, Own.less s (L := L) (ms := ms) h.2⟩
theorem Own.get : ∀ {L : List Addr} {ms : List MSlot} {i : Nat} {m : MSlot}, Own M H L ms → ms[i]? = some m → ∃ a, L[i]? = some a ∧ m.I M H a
  | [], [], _, _, _, e => by cases e
  | [], _ :: _, _, _, h, _ => h.elim
  | _ :: _, [], _, _, h, _ => h.elim
  | a :: _, m :: _, 0, _, h, e => ⟨a, rfl, by have e' := Option.some.inj e; rw [← e']; exact h.1⟩
  | _ :: L, _ :: ms, i + 1, m, h, e => Own.get (L := L) (ms := ms) (i := i) h.2 e
theorem Own.len : ∀ {L : List Addr} {ms : List MSlot}, Own M H L ms → L.length = ms.length
  | [], [], _ => rfl
  | [], _ :: _, h => h.elim
  | _ :: _, [], h => h.elim
  | _ :: L, _ :: ms, h => congrArg Nat.succ (Own.len (L := L) (ms := ms) h.2)
/-- the i-th owned object has changed -/
theorem Own.put {a : Addr} {m' : MSlot} (k : Ke [a] H H') (ha : a ∈ M) (hm : m'.I M H' a) : ∀ {L : List Addr} {ms : List MSlot} {i : Nat}, L.Nodup → L[i]? = some a → Own M H L ms → Own M H' L (ms.set i m')
  | [], [], _, _, e, _ => by cases e
  | [], _ :: _, _, _, _, h => h.elim
  | _ :: _, [], _, _, _, h => h.elim
  | b :: L, m :: ms, 0, nd, e, h => by
    have e' := Option.some.inj e
    subst e'
    exact ⟨hm, h.2.stab k (fun c z => by rw [List.mem_singleton.mp z]; exact ha) fun c hc z => (List.nodup_cons.mp nd).1 (by rw [← List.mem_singleton.mp z]; exact hc)⟩
  | b :: L, m :: ms, i + 1, nd, e, h => by
    have nb : b ∉ [a] := fun z => (List.nodup_cons.mp nd).1 (by rw [List.mem_singleton.mp z]; exact List.mem_of_getElem? e)
    exact ⟨m.stab k (fun c z => by rw [List.mem_singleton.mp z]; exact ha) nb h.1, Own.put k ha hm (L := L) (ms := ms) (List.nodup_cons.mp nd).2 e h.2⟩
end
/-- the value is the object at a -/
def yRef : Ty Addr := ⟨fun _ _ v a => v = .ref a, fun _ h => h, fun _ h => h, fun _ h => h⟩
/-- an expression that may change the owned objects at L -/
def Xe {α : Type} (L : List Addr) (te : TE) (ss : SS) (ms : List MSlot) (t : Ty α) (P : α → List MSlot → Prop) : Prop := ∀ M σ H, L.Nodup → (∀ a ∈ L, a ∈ M) → Wf M H → Env M H σ ss → Own M H L ms →
  ∀ Q : VK, (∀ v H' x ms', Ke L H H' → Own M H' L ms' → t.rep M H' v x → P x ms' → Q v H') → te σ H Q
def Xt (L : List Addr) (tt : TT) (ss : SS) (ms : List MSlot) (P : Bool → List MSlot → Prop) : Prop := ∀ M σ H, L.Nodup → (∀ a ∈ L, a ∈ M) → Wf M H → Env M H σ ss → Own M H L ms →
  ∀ Q : Bool → Hp → Prop, (∀ H' b ms', Ke L H H' → Own M H' L ms' → P b ms' → Q b H') → tt σ H Q
/-- arguments: data by slots -/
def ArgsR (M : List Addr) (H : Hp) : List V → List Slot → Prop
  | [], [] => True
  | v :: vs, s :: sl => s.t.rep M H v s.x ∧ ArgsR M H vs sl
  | _, _ => False
theorem ArgsR.keep {M : List Addr} {H H' : Hp} (k : Ke M H H') : ∀ {vs : List V} {sl : List Slot}, ArgsR M H vs sl → ArgsR M H' vs sl
  | [], [], _ => trivial
  | [], _ :: _, h => h.elim
  | _ :: _, [], h => h.elim
  | _ :: vs, s :: sl, h => ⟨s.t.keep k h.1, ArgsR.keep k (vs := vs) (sl := sl) h.2⟩
theorem ArgsR.len {M : List Addr} {H : Hp} : ∀ {vs : List V} {sl : List Slot}, ArgsR M H vs sl → vs.length = sl.length
  | [], [], _ => rfl
  | [], _ :: _, h => h.elim
  | _ :: _, [], h => h.elim
  | _ :: vs, _ :: sl, h => congrArg Nat.succ (ArgsR.len (vs := vs) (sl := sl) h.2)
theorem ArgsR.env {M : List Addr} {H : Hp} : ∀ {vs : List V} {sl : List Slot} (n : Nat), ArgsR M H vs sl → Env M H (vs.map some ++ List.replicate n none) (sl.map some ++ List.replicate n none)
  | [], [], 0, _ => trivial
  | [], [], n + 1, h => ArgsR.env (vs := []) (sl := []) n h
  | [], _ :: _, _, h => h.elim
  | _ :: _, [], _, h => h.elim
  | _ :: vs, _ :: sl, n, h => ⟨h.1, ArgsR.env (vs := vs) (sl := sl) n h.2⟩
def Xa (L : List Addr) (ta : TA) (ss : SS) (ms : List MSlot) (P : List Slot → List MSlot → Prop) : Prop := ∀ M σ H, L.Nodup → (∀ a ∈ L, a ∈ M) → Wf M H → Env M H σ ss → Own M H L ms →
  ∀ Q : List V → Hp → Prop, (∀ vs H' sl ms', Ke L H H' → Own M H' L ms' → ArgsR M H' vs sl → P sl ms' → Q vs H') → ta σ H Q
section
variable {α β γ δ : Type} {K : PySem.W.Frag} {L : List Addr} {ss : SS} {ms : List MSlot} {t : Ty α} {u : Ty β} {te ta tb tl : TE} {tt tu : TT} {x : α} {y : β} {xs ys : List α} {P : α → List MSlot → Prop} {PB : Bool → List MSlot → Prop}
theorem ke_sub {M L : List Addr} {H H' : Hp} (s : ∀ a ∈ L, a ∈ M) (k : Ke L H H') : Ke M H H' := k.sub s
/-- what changes nothing -/
theorem xe_of (h : Ve te ss t x) (p : P x ms) : Xe L te ss ms t P := fun M σ H _ _ wf E O Q q => h M σ H E wf H Ke.refl _ fun v H2 k r => q v H2 x ms k.all (O.grow k) r p
theorem xt_of {b : Bool} (h : Vb tt ss b) (p : PB b ms) : Xt L tt ss ms PB := fun M σ H _ _ wf E O Q q => h M σ H E wf H Ke.refl _ fun H2 k => q H2 b ms k.all (O.grow k) p
theorem xe_mono {P' : α → List MSlot → Prop} (h : Xe L te ss ms t P) (f : ∀ x ms, P x ms → P' x ms) : Xe L te ss ms t P' := fun M σ H nd s wf E O Q q => h M σ H nd s wf E O Q fun v H' x ms' k O' r p => q v H' x ms' k O' r (f _ _ p)
theorem xe_op {r : R2} {w : Ty γ} {PA : γ → List MSlot → Prop} (ha : Xe L ta ss ms t fun x ms1 => Xe L tb ss ms1 u fun y ms2 => ∀ M v1 v2 H1, L.Nodup → (∀ a ∈ L, a ∈ M) → Wf M H1 → t.rep M H1 v1 x → u.rep M H1 v2 y → Own M H1 L ms2 →
      ∀ Q : VK, (∀ v H' z ms', Ke L H1 H' → Own M H' L ms' → w.rep M H' v z → PA z ms' → Q v H') → r v1 v2 H1 Q) : Xe L (tOp r ta tb) ss ms w PA := fun M σ H nd s wf E O Q q =>
  ha M σ H nd s wf E O _ fun v1 H1 x ms1 k1 O1 r1 hb => hb M σ H1 nd s (wf.keep k1) (E.keep (k1.sub s)) O1 _ fun v2 H2 y ms2 k2 O2 r2 hr =>
    hr M v1 v2 H2 nd s (wf.keep (k1.trans k2)) (t.keep (k2.sub s) r1) r2 O2 Q fun v H' z ms' k' O' r' p => q v H' z ms' ((k1.trans k2).trans k') O' r' p
/-- .. where the operation itself changes nothing -/
theorem xe_opP {r : R2} {w : Ty γ} {PA : γ → List MSlot → Prop} {f : α → β → γ} {C : α → β → Prop} (hr : ∀ M v1 v2 H1 x y, C x y → Wf M H1 → t.rep M H1 v1 x → u.rep M H1 v2 y → ∀ Q : VK, (∀ v H2, Ke [] H1 H2 → w.rep M H2 v (f x y) → Q v H2) → r v1 v2 H1 Q)
    (ha : Xe L ta ss ms t fun x ms1 => Xe L tb ss ms1 u fun y ms2 => C x y ∧ PA (f x y) ms2) : Xe L (tOp r ta tb) ss ms w PA :=
  xe_op (xe_mono ha fun x ms1 hb => xe_mono hb fun y ms2 hc M v1 v2 H1 _ _ wf r1 r2 O Q q => hr M v1 v2 H1 x y hc.1 wf r1 r2 Q fun v H2 k r => q v H2 _ ms2 k.all (O.grow k) r hc.2)
theorem xt_test (h : Xe L te ss ms yBool PB) : Xt L (tTest te) ss ms PB := fun M σ H nd s wf E O Q q => h M σ H nd s wf E O _ fun v H' x ms' k O' r p => ⟨x, r, q H' x ms' k O' p⟩
theorem xt_B (h : Xe L te ss ms yBool PB) : Xt L (tB te) ss ms PB := fun M σ H nd s wf E O Q q => h M σ H nd s wf E O _ fun v H' x ms' k O' r p => ⟨x, r, q H' x ms' k O' p⟩
theorem xt_not (h : Xt L tt ss ms fun b => PB (!b)) : Xt L (tNot tt) ss ms PB := fun M σ H nd s wf E O Q q => h M σ H nd s wf E O _ fun H' x ms' k O' p => q H' _ ms' k O' p
theorem xt_mono {PB' : Bool → List MSlot → Prop} (h : Xt L tt ss ms PB) (f : ∀ x ms, PB x ms → PB' x ms) : Xt L tt ss ms PB' := fun M σ H nd s wf E O Q q => h M σ H nd s wf E O Q fun H' x ms' k O' p => q H' x ms' k O' (f _ _ p)
theorem xt_and (h : Xt L tt ss ms fun b ms1 => if b = true then Xt L tu ss ms1 PB else PB false ms1) : Xt L (tAnd tt tu) ss ms PB := fun M σ H nd s wf E O Q q => h M σ H nd s wf E O _ fun H' b ms' k O' p => by
  cases b with
  | true =>
    show tu σ H' Q
    exact p M σ H' nd s (wf.keep k) (E.keep (k.sub s)) O' Q fun H2 b ms2 k2 => q H2 b ms2 (k.trans k2)
  | false =>
    show Q false H'
    exact q H' false ms' k O' p
theorem xt_or (h : Xt L tt ss ms fun b ms1 => if b = true then PB true ms1 else Xt L tu ss ms1 PB) : Xt L (tOr tt tu) ss ms PB := fun M σ H nd s wf E O Q q => h M σ H nd s wf E O _ fun H' b ms' k O' p => by
  cases b with
  | true =>
    show Q true H'
    exact q H' true ms' k O' p
  | false =>
    show tu σ H' Q
    exact p M σ H' nd s (wf.keep k) (E.keep (k.sub s)) O' Q fun H2 b ms2 k2 => q H2 b ms2 (k.trans k2)
theorem xa_nil {PS : List Slot → List MSlot → Prop} (p : PS [] ms) : Xa L tNil ss ms PS := fun M σ H _ _ _ _ O Q q => q [] H [] ms Ke.refl O trivial p
theorem xa_cons {tr : TA} {PS : List Slot → List MSlot → Prop} (h : Xe L te ss ms t fun x ms1 => Xa L tr ss ms1 fun sl => PS (⟨t, x⟩ :: sl)) : Xa L (tCons te tr) ss ms PS := fun M σ H nd s wf E O Q q =>
  h M σ H nd s wf E O _ fun v H1 x ms1 k1 O1 r1 hr => hr M σ H1 nd s (wf.keep k1) (E.keep (k1.sub s)) O1 _ fun vs H2 sl ms2 k2 O2 r2 p => q (v :: vs) H2 (⟨t, x⟩ :: sl) ms2 (k1.trans k2) O2 ⟨t.keep (k2.sub s) r1, r2⟩ p
theorem xa_mono {ta : TA} {PS PS' : List Slot → List MSlot → Prop} (h : Xa L ta ss ms PS) (f : ∀ sl ms, PS sl ms → PS' sl ms) : Xa L ta ss ms PS' := fun M σ H nd s wf E O Q q => h M σ H nd s wf E O Q fun vs H' sl ms' k O' r p => q vs H' sl ms' k O' r (f _ _ p)
end
/-! ### promises and calls -/
/-- a promise: from data (and owned objects at ext) to a datum (and what the owned objects hold then) -/
def SpX {A β : Type} (ext : A → List Addr) (sl : A → List Slot) (ms : A → List MSlot) (pre : A → Prop) (t : Ty β) (post : A → β → List MSlot → Prop) : Sp := fun vs H Q _ => ∃ (M : List Addr) (a : A), (ext a).Nodup ∧ (∀ e ∈ ext a, e ∈ M) ∧ Wf M H ∧ ArgsR M H vs (sl a) ∧ Own M H (ext a) (ms a) ∧ pre a ∧
  ∀ r x ms' H', Ke (ext a) H H' → Own M H' (ext a) ms' → t.rep M H' r x → post a x ms' → Q r H'
/-- a pure one -/
abbrev SpF {A β : Type} (sl : A → List Slot) (pre : A → Prop) (t : Ty β) (f : A → β) : Sp := SpX (fun _ => []) sl (fun _ => []) pre t (fun a y _ => y = f a)
def Vs (ta : TA) (ss : SS) (sl : List Slot) : Prop := ∀ M σ H, Env M H σ ss → Va M ta σ H (fun H2 vs => ArgsR M H2 vs sl)
section
variable {A α β γ δ : Type} {K : PySem.W.Frag} {L : List Addr} {ss : SS} {ms : List MSlot} {t : Ty α} {u : Ty β} {te ta tb tl : TE} {tt tu : TT} {x : α} {y : β} {xs ys : List α} {E : XK}
theorem vs_nil : Vs tNil ss [] := fun _ _ _ _ _ H1 _ _ q => q [] H1 Ke.refl trivial
theorem vs_cons {tr : TA} {sl : List Slot} (h : Ve te ss t x) (hr : Vs tr ss sl) : Vs (tCons te tr) ss (⟨t, x⟩ :: sl) := fun M σ H E wf H1 k _ q =>
  h M σ H E wf H1 k _ fun v H2 k2 r2 => hr M σ H E wf H2 (k.trans k2.all) _ fun vs H3 k3 r3 => q (v :: vs) H3 (k2.trans k3) ⟨t.keep k3.all r2, r3⟩
theorem ve_call {sl : A → List Slot} {pre : A → Prop} {f : A → α} {ta : TA} (a : A) (h : Vs ta ss (sl a)) (hp : pre a) : Ve (tCall (SpF sl pre t f) [] E ta) ss t (f a) := fun M σ H En wf H1 k Q q =>
  h M σ H En wf H1 k _ fun vs H2 k2 r => ⟨M, a, List.nodup_nil, (fun _ h => by cases h), wf.keep (k.trans k2.all), (by rw [List.append_nil]; exact r), trivial, hp, fun v x ms' H' k' _ r' e => q v H' (k2.trans k') (by rw [← e]; exact r')⟩
/-- a call that changes one owned object -/
theorem xe_call1 {ext : A → List Addr} {sl : A → List Slot} {msA : A → List MSlot} {pre : A → Prop} {post : A → α → List MSlot → Prop} {ta : TA} {PA : α → List MSlot → Prop}
    (h : Xa L ta ss ms fun s1 ms1 => ∃ (a : A) (i : Nat) (p : Addr) (m : MSlot), s1 = sl a ∧ ext a = [p] ∧ msA a = [m] ∧ L[i]? = some p ∧ ms1[i]? = some m ∧ pre a ∧ ∀ x m', post a x [m'] → PA x (ms1.set i m')) : Xe L (tCall (SpX ext sl msA pre t post) [] E ta) ss ms t PA := fun M σ H nd s wf En O Q q =>
  h M σ H nd s wf En O _ fun vs H1 s1 ms1 k1 O1 r1 ⟨a, i, p, m, e1, e2, e3, e4, e5, hp, hk⟩ => by
    have hpL : p ∈ L := List.mem_of_getElem? e4
    obtain ⟨p', e6, hm⟩ := O1.get e5
    have : p' = p := Option.some.inj (e6.symm.trans e4)
    subst this
    refine ⟨M, a, (by rw [e2]; exact List.nodup_cons.mpr ⟨(fun z => by cases z), List.nodup_nil⟩), (fun e he => by rw [e2] at he; rw [List.mem_singleton.mp he]; exact s p' hpL), wf.keep k1, (by rw [List.append_nil, ← e1]; exact r1), (by rw [e2, e3]; exact ⟨hm, trivial⟩), hp, fun r x ms' H' k' O' r' po => ?_⟩
    rw [e2] at k' O'
    cases ms' with
    | nil => exact O'.elim
    | cons m' rest =>
      cases rest with
      | cons _ _ => exact O'.2.elim
      | nil =>
        exact q r H' x (ms1.set i m') (k1.trans (k'.sub fun b hb => by rw [List.mem_singleton.mp hb]; exact hpL)) (Own.put k' (s p' hpL) O'.1 nd e4 O1) r' (hk x m' po)
/-- a call that changes nothing, its arguments by an expression that may -/
theorem xe_callP {sl : A → List Slot} {pre : A → Prop} {f : A → α} {ta : TA} {PA : α → List MSlot → Prop} (h : Xa L ta ss ms fun s1 ms1 => ∃ a : A, s1 = sl a ∧ pre a ∧ PA (f a) ms1) : Xe L (tCall (SpF sl pre t f) [] E ta) ss ms t PA := fun M σ H nd s wf En O Q q =>
  h M σ H nd s wf En O _ fun vs H1 s1 ms1 k1 O1 r1 ⟨a, e1, hp, hk⟩ => ⟨M, a, List.nodup_nil, (fun _ h => by cases h), wf.keep k1, (by rw [List.append_nil, ← e1]; exact r1), trivial, hp, fun v x ms' H' k' _ r' e => q v H' x ms1 (k1.trans k'.all) (O1.grow k') r' (by rw [e]; exact hk)⟩
end
/-! ### statements -/
/-- what follows a statement -/
structure Kn {β : Type} (loc ext M0 : List Addr) (rt : Ty β) (H : Hp) (D : Ends) (N : SS → List MSlot → Prop) (R : β → List MSlot → Prop) (B C : SS → List MSlot → Prop) : Prop where
  nx : ∀ σ' H' ss' ms', Ke (loc ++ ext) H H' → Env (loc ++ M0) H' σ' ss' → Own (loc ++ M0) H' (loc ++ ext) ms' → N ss' ms' → D.nx σ' H'
  rt : ∀ v H' x ms', Ke (loc ++ ext) H H' → rt.rep M0 H' v x → Own M0 H' ext ms' → R x ms' → D.rt v H'
  bk : ∀ σ' H' ss' ms', Ke (loc ++ ext) H H' → Env (loc ++ M0) H' σ' ss' → Own (loc ++ M0) H' (loc ++ ext) ms' → B ss' ms' → D.bk σ' H'
  ct : ∀ σ' H' ss' ms', Ke (loc ++ ext) H H' → Env (loc ++ M0) H' σ' ss' → Own (loc ++ M0) H' (loc ++ ext) ms' → C ss' ms' → D.ct σ' H'
/-- where a statement stands -/
structure Wh (loc ext M0 : List Addr) (H : Hp) (σ : L2.St) (ss : SS) (ms : List MSlot) : Prop where
  nd : (loc ++ ext).Nodup
  out : ∀ a ∈ loc, a ∉ M0
  inn : ∀ a ∈ ext, a ∈ M0
  wf : Wf (loc ++ M0) H
  env : Env (loc ++ M0) H σ ss
  own : Own (loc ++ M0) H (loc ++ ext) ms
theorem Wh.sub {loc ext M0 : List Addr} {H : Hp} {σ : L2.St} {ss : SS} {ms : List MSlot} (w : Wh loc ext M0 H σ ss ms) : ∀ a ∈ loc ++ ext, a ∈ loc ++ M0 := fun a h => by
  rcases List.mem_append.mp h with h | h
  · exact List.mem_append_left _ h
  · exact List.mem_append_right _ (w.inn a h)
theorem Wh.to {loc ext M0 : List Addr} {H H' : Hp} {σ σ' : L2.St} {ss ss' : SS} {ms ms' : List MSlot} (w : Wh loc ext M0 H σ ss ms) (k : Ke (loc ++ ext) H H') (E : Env (loc ++ M0) H' σ' ss') (O : Own (loc ++ M0) H' (loc ++ ext) ms') : Wh loc ext M0 H' σ' ss' ms' := ⟨w.nd, w.out, w.inn, w.wf.keep k, E, O⟩
theorem Kn.at {β : Type} {loc ext M0 : List Addr} {rt : Ty β} {H H1 : Hp} {D : Ends} {N : SS → List MSlot → Prop} {R : β → List MSlot → Prop} {B C : SS → List MSlot → Prop} (k : Kn loc ext M0 rt H D N R B C) (e : Ke (loc ++ ext) H H1) : Kn loc ext M0 rt H1 D N R B C :=
  ⟨fun σ' H' ss' ms' k' => k.nx σ' H' ss' ms' (e.trans k'), fun v H' x ms' k' => k.rt v H' x ms' (e.trans k'), fun σ' H' ss' ms' k' => k.bk σ' H' ss' ms' (e.trans k'), fun σ' H' ss' ms' k' => k.ct σ' H' ss' ms' (e.trans k')⟩
def Xs {β : Type} (loc ext : List Addr) (rt : Ty β) (ts : TS) (ss : SS) (ms : List MSlot) (N : SS → List MSlot → Prop) (R : β → List MSlot → Prop) (B C : SS → List MSlot → Prop) : Prop := ∀ M0 σ H D, Wh loc ext M0 H σ ss ms → Kn loc ext M0 rt H D N R B C → ts D σ H
section
variable {A α β γ δ : Type} {K : PySem.W.Frag} {loc ext : List Addr} {ss : SS} {ms : List MSlot} {t : Ty α} {u : Ty β} {te ta tb tl : TE} {tt : TT} {tu tv tw : TS} {x : α} {y : β} {xs ys : List α} {rt : Ty δ} {N : SS → List MSlot → Prop} {R : δ → List MSlot → Prop} {B C : SS → List MSlot → Prop}
theorem xs_seq (h : Xs loc ext rt tu ss ms (fun ss' ms' => Xs loc ext rt tv ss' ms' N R B C) R B C) : Xs loc ext rt (tSeq tu tv) ss ms N R B C := fun M0 σ H D w k =>
  h M0 σ H { D with nx := tv D } w ⟨fun σ' H' ss' ms' e E O q => q M0 σ' H' D (w.to e E O) (k.at e), k.rt, k.bk, k.ct⟩
theorem xs_next (h : N ss ms) : Xs loc ext rt tNext ss ms N R B C := fun M0 σ H D w k => k.nx σ H ss ms Ke.refl w.env w.own h
theorem xs_brk (h : B ss ms) : Xs loc ext rt tBreak ss ms N R B C := fun M0 σ H D w k => k.bk σ H ss ms Ke.refl w.env w.own h
theorem xs_cont (h : C ss ms) : Xs loc ext rt tCont ss ms N R B C := fun M0 σ H D w k => k.ct σ H ss ms Ke.refl w.env w.own h
theorem xs_asgX {i : Nat} (h : Xe (loc ++ ext) te ss ms t fun x ms' => N (ss.set i (some ⟨t, x⟩)) ms') : Xs loc ext rt (tAsg te (gName i)) ss ms N R B C := fun M0 σ H D w k =>
  h _ σ H w.nd w.sub w.wf w.env w.own _ fun v H' x ms' e O r p => k.nx _ H' _ ms' e ((w.env.keep (e.sub w.sub)).set r i) O p
theorem xs_asg {i : Nat} (h : Ve te ss t x) (p : N (ss.set i (some ⟨t, x⟩)) ms) : Xs loc ext rt (tAsg te (gName i)) ss ms N R B C := xs_asgX (xe_of h p)
theorem xs_dropX (h : Xe (loc ++ ext) te ss ms t fun _ ms' => N ss ms') : Xs loc ext rt (tDrop te) ss ms N R B C := fun M0 σ H D w k =>
  h _ σ H w.nd w.sub w.wf w.env w.own _ fun v H' x ms' e O r p => k.nx σ H' ss ms' e (w.env.keep (e.sub w.sub)) O p
theorem own_ext {M0 M : List Addr} {H : Hp} (s : ∀ a ∈ M0, a ∈ M) : ∀ {loc : List Addr} {ms : List MSlot}, Own M H (loc ++ ext) ms → Own M0 H ext (ms.drop loc.length)
  | [], _, h => h.less s
  | _ :: _, [], h => h.elim
  | _ :: loc, _ :: ms, h => own_ext s (loc := loc) (ms := ms) h.2
theorem xs_retX (h : Xe (loc ++ ext) te ss ms rt fun x ms' => R x (ms'.drop loc.length)) : Xs loc ext rt (tRet te) ss ms N R B C := fun M0 σ H D w k =>
  h _ σ H w.nd w.sub w.wf w.env w.own _ fun v H' x ms' e O r p => k.rt v H' x _ e (rt.less (fun a ha => List.mem_append_right _ ha) r) (own_ext (fun a ha => List.mem_append_right _ ha) O) p
theorem xs_ret {x : δ} (h : Ve te ss rt x) (p : R x (ms.drop loc.length)) : Xs loc ext rt (tRet te) ss ms N R B C := xs_retX (xe_of h p)
theorem xs_ifX (h : Xt (loc ++ ext) tt ss ms fun b ms' => if b = true then Xs loc ext rt tu ss ms' N R B C else Xs loc ext rt tv ss ms' N R B C) : Xs loc ext rt (tIfS tt tu tv) ss ms N R B C := fun M0 σ H D w k =>
  h _ σ H w.nd w.sub w.wf w.env w.own _ fun H' b ms' e O p => by
    have w' := w.to e (w.env.keep (e.sub w.sub)) O
    cases b with
    | true =>
      show tu D σ H'
      exact p M0 σ H' D w' (k.at e)
    | false =>
      show tv D σ H'
      exact p M0 σ H' D w' (k.at e)
theorem xs_if {b : Bool} (h : Vb tt ss b) (h1 : b = true → Xs loc ext rt tu ss ms N R B C) (h2 : b = false → Xs loc ext rt tv ss ms N R B C) : Xs loc ext rt (tIfS tt tu tv) ss ms N R B C :=
  xs_ifX (xt_of h (by cases b with
    | true => exact h1 rfl
    | false => exact h2 rfl))
/-- for, over a list, a tuple, a range: an invariant over the turn, the slots, the owned objects -/
theorem xs_forL {g : TG} {f : α → SS → SS} {ws : List Nat} (T : Tg g t ws f) (hl : Ve tl ss (yList t) xs) (I : Nat → SS → List MSlot → Prop) (h0 : I 0 ss ms)
    (hs : ∀ i x ss' ms', xs[i]? = some x → I i ss' ms' → Xs loc ext rt tu (f x ss') ms' (I (i + 1)) R N (I (i + 1))) (hd : ∀ ss' ms', I xs.length ss' ms' → N ss' ms') : Xs loc ext rt (tFor (iList K tl) g tu) ss ms N R B C := fun M0 σ H D w k =>
  hl _ σ H w.env w.wf H Ke.refl _ fun v H1 e r => by
    obtain ⟨a, vs, rfl, n, ha, pr⟩ := r
    have w1 := w.to e.all (w.env.keep e.all) (w.own.grow e)
    have na : a ∉ loc ++ ext := fun z => n (w.sub a z)
    refine ⟨a, rfl, ⟨vs, SqL.of ha⟩, for_list (xs := vs) (fun i σ' H' => ∃ ss' ms', Ke (loc ++ ext) H1 H' ∧ Env (loc ++ M0) H' σ' ss' ∧ Own (loc ++ M0) H' (loc ++ ext) ms' ∧ I i ss' ms') ⟨ss, ms, Ke.refl, w1.env, w1.own, h0⟩ (fun i σ' H' _ ⟨_, _, e', _, _, _⟩ => SqL.of (e'.keep a _ na ha)) (fun i v σ' H' hv ⟨ss', ms', e', E', O', hI⟩ => ?_) (fun σ' H' ⟨ss', ms', e', E', O', hI⟩ => ?_)⟩
    · obtain ⟨x, hx, rx⟩ := pr.get hv
      refine T _ σ' H' ss' v x E' (t.keep (e'.sub w.sub) rx) _ fun σ2 _ E2 => ?_
      refine hs i x ss' ms' hx hI M0 σ2 H' _ (w1.to e' E2 O') ⟨fun σ3 H3 ss3 ms3 e3 E3 O3 p => ⟨ss3, ms3, e'.trans e3, E3, O3, p⟩, ((k.at e.all).at e').rt, ((k.at e.all).at e').nx, fun σ3 H3 ss3 ms3 e3 E3 O3 p => ⟨ss3, ms3, e'.trans e3, E3, O3, p⟩⟩
    · rw [pr.len] at hI
      exact k.nx σ' H' ss' ms' (e.all.trans e') E' O' (hd ss' ms' hI)
theorem xs_forT {g : TG} {f : α → SS → SS} {ws : List Nat} (T : Tg g t ws f) (hl : Ve tl ss (yTup K t) xs) (I : Nat → SS → List MSlot → Prop) (h0 : I 0 ss ms)
    (hs : ∀ i x ss' ms', xs[i]? = some x → I i ss' ms' → Xs loc ext rt tu (f x ss') ms' (I (i + 1)) R N (I (i + 1))) (hd : ∀ ss' ms', I xs.length ss' ms' → N ss' ms') : Xs loc ext rt (tFor (iTup K tl) g tu) ss ms N R B C := fun M0 σ H D w k =>
  hl _ σ H w.env w.wf H Ke.refl _ fun v H1 e r => by
    obtain ⟨a, vs, rfl, ha, pr⟩ := r
    have w1 := w.to e.all (w.env.keep e.all) (w.own.grow e)
    refine ⟨a, rfl, ⟨vs, ha.sq⟩, for_tup (xs := vs) (fun i σ' H' => ∃ ss' ms', Ke (loc ++ ext) H1 H' ∧ Env (loc ++ M0) H' σ' ss' ∧ Own (loc ++ M0) H' (loc ++ ext) ms' ∧ I i ss' ms') ⟨ss, ms, Ke.refl, w1.env, w1.own, h0⟩ (fun i σ' H' _ ⟨_, _, e', _, _, _⟩ => (ha.keep (e'.sub w.sub)).sq) (fun i v σ' H' hv ⟨ss', ms', e', E', O', hI⟩ => ?_) (fun σ' H' ⟨ss', ms', e', E', O', hI⟩ => ?_)⟩
    · obtain ⟨x, hx, rx⟩ := pr.get hv
      refine T _ σ' H' ss' v x E' (t.keep (e'.sub w.sub) rx) _ fun σ2 _ E2 => ?_
      refine hs i x ss' ms' hx hI M0 σ2 H' _ (w1.to e' E2 O') ⟨fun σ3 H3 ss3 ms3 e3 E3 O3 p => ⟨ss3, ms3, e'.trans e3, E3, O3, p⟩, ((k.at e.all).at e').rt, ((k.at e.all).at e').nx, fun σ3 H3 ss3 ms3 e3 E3 O3 p => ⟨ss3, ms3, e'.trans e3, E3, O3, p⟩⟩
    · rw [pr.len] at hI
      exact k.nx σ' H' ss' ms' (e.all.trans e') E' O' (hd ss' ms' hI)
theorem xs_forR {j : Nat} {n : Int} (hl : Xe (loc ++ ext) tl ss ms yInt fun m ms' => m = n ∧ ms' = ms) (hn : -1000000 ≤ n) (hn2 : n ≤ 1000000) (I : Nat → SS → List MSlot → Prop) (h0 : I 0 ss ms)
    (hs : ∀ (i : Nat) ss' ms', (i : Int) < n → I i ss' ms' → Xs loc ext rt tu (ss'.set j (some ⟨yInt, (i : Int)⟩)) ms' (I (i + 1)) R N (I (i + 1))) (hd : ∀ ss' ms', I n.toNat ss' ms' → N ss' ms') : Xs loc ext rt (tFor (iRng1 (tCons tl tNil)) (gName j) tu) ss ms N R B C := fun M0 σ H D w k =>
  hl _ σ H w.nd w.sub w.wf w.env w.own _ fun v H1 m ms1 e O r ⟨em, ems⟩ => by
    subst em
    subst ems
    have rv : v = .int m := r
    subst rv
    have w1 := w.to e (w.env.keep (e.sub w.sub)) O
    refine ⟨m, rfl, by omega, by omega, for_range (lo := 0) (n := m.toNat) (fun i σ' H' => ∃ ss' ms', Ke (loc ++ ext) H1 H' ∧ Env (loc ++ M0) H' σ' ss' ∧ Own (loc ++ M0) H' (loc ++ ext) ms' ∧ I i ss' ms') ⟨ss, ms1, Ke.refl, w1.env, w1.own, h0⟩ (fun i σ' H' hi ⟨ss', ms', e', E', O', hI⟩ => ?_) (fun σ' H' ⟨ss', ms', e', E', O', hI⟩ => ?_)⟩
    · have e0 : (0 : Int) + (i : Int) = (i : Int) := Int.zero_add _
      rw [e0]
      exact hs i ss' ms' (by omega) hI M0 _ H' _ (w1.to e' (E'.set (t := yInt) (x := (i : Int)) rfl j) O') ⟨fun σ3 H3 ss3 ms3 e3 E3 O3 p => ⟨ss3, ms3, e'.trans e3, E3, O3, p⟩, ((k.at e).at e').rt, ((k.at e).at e').nx, fun σ3 H3 ss3 ms3 e3 E3 O3 p => ⟨ss3, ms3, e'.trans e3, E3, O3, p⟩⟩
    · exact k.nx σ' H' ss' ms' (e.trans e') E' O' (hd ss' ms' hI)
/-- while: an invariant with a number that falls -/
theorem xs_while (I : Nat → SS → List MSlot → Prop) (m0 : Nat) (h0 : I m0 ss ms)
    (hs : ∀ m ss' ms', I m ss' ms' → Xt (loc ++ ext) tt ss' ms' fun b ms2 => if b = true then Xs loc ext rt tu ss' ms2 (fun s3 ms3 => ∃ m', m' < m ∧ I m' s3 ms3) R N (fun s3 ms3 => ∃ m', m' < m ∧ I m' s3 ms3) else N ss' ms2) : Xs loc ext rt (tWhile tt tu) ss ms N R B C := fun M0 σ H D w k => by
  refine ⟨fun m σ' H' => ∃ ss' ms', Ke (loc ++ ext) H H' ∧ Env (loc ++ M0) H' σ' ss' ∧ Own (loc ++ M0) H' (loc ++ ext) ms' ∧ I m ss' ms', ⟨m0, ss, ms, Ke.refl, w.env, w.own, h0⟩, fun m σ' H' ⟨ss', ms', e', E', O', hI⟩ => ?_⟩
  have w' := w.to e' E' O'
  refine hs m ss' ms' hI _ σ' H' w.nd w.sub w'.wf E' O' _ fun H2 b ms2 e2 O2 p => ?_
  have E2 := E'.keep (e2.sub w.sub)
  cases b with
  | true =>
    refine ⟨fun σ3 H3 => ∃ m', m' < m ∧ ∃ ss3 ms3, Ke (loc ++ ext) H H3 ∧ Env (loc ++ M0) H3 σ3 ss3 ∧ Own (loc ++ M0) H3 (loc ++ ext) ms3 ∧ I m' ss3 ms3, fun σ3 H3 q => q, ?_⟩
    refine p M0 σ' H2 _ (w'.to e2 E2 O2) ⟨fun σ3 H3 ss3 ms3 e3 E3 O3 ⟨m', lt, p⟩ => ⟨m', lt, ss3, ms3, (e'.trans e2).trans e3, E3, O3, p⟩, ((k.at e').at e2).rt, ((k.at e').at e2).nx, fun σ3 H3 ss3 ms3 e3 E3 O3 ⟨m', lt, p⟩ => ⟨m', lt, ss3, ms3, (e'.trans e2).trans e3, E3, O3, p⟩⟩
  | false => exact k.nx σ' H2 ss' ms2 (e'.trans e2) E2 O2 p
theorem xs_never (h : False) : Xs loc ext rt tNever ss ms N R B C := h.elim
end
/-! ### a def -/
abbrev startS (N : List Str) (sl : List Slot) : SS := sl.map some ++ List.replicate (N.length - sl.length) none
theorem okN {P : Program} {w : World} {K : PySem.W.Frag} {mg : Str → Option Value} {base : Heap} {x qual : Str} {params : Arguments} {body : List Stmt} {scope : Scope} {dvs : List V} {kws : List (Str × V)} {f : Addr} {fd : FuncData} {N ps : List Str} {k : Nat} {sp : Sp}
    (F : FunD K x qual params body scope dvs kws f fd) (S : FnScope N ps scope) (len : ∀ vs H Q E, sp vs H Q E → vs.length = ps.length)
    (hbody : ∀ (cdv : Value) (A : Around) (outer : List PySem.Env) (s : Shared) (H : Hp) (E : XK), Room k (A.deeper (PyProof.Rows.envOfC qual scope s.heap.objs.size f cdv)) →
      ∃ t, PSs (cxOf CX0 P w K mg base N qual scope f cdv A outer s H E).nox body t ∧ ∀ (vs : List V) (Q : VK), sp vs H Q E → t { nx := fun _ H' => Q .non H', rt := Q } (L2.start N vs) H) : FnOk P w K mg base CX0 (k + 1) f fd ps sp :=
  F.ok S len fun cdv A outer s H vs Q E hr hsp => by
    obtain ⟨t, h, q⟩ := hbody cdv A outer s H E hr
    exact ⟨t, h.nox, q vs Q hsp⟩
theorem fnX {P : Program} {w : World} {K : PySem.W.Frag} {mg : Str → Option Value} {base : Heap} {x qual : Str} {params : Arguments} {body : List Stmt} {scope : Scope} {dvs : List V} {kws : List (Str × V)} {f : Addr} {fd : FuncData} {N ps : List Str} {k : Nat}
    {A β : Type} {ext : A → List Addr} {sl : A → List Slot} {msA : A → List MSlot} {pre : A → Prop} {t : Ty β} {post : A → β → List MSlot → Prop}
    (F : FunD K x qual params body scope dvs kws f fd) (S : FnScope N ps scope) (hlen : ∀ a, (sl a).length = ps.length)
    (hbody : ∀ (cdv : Value) (Ar : Around) (outer : List PySem.Env) (s : Shared) (H : Hp) (E : XK), Room k (Ar.deeper (PyProof.Rows.envOfC qual scope s.heap.objs.size f cdv)) →
      ∃ ts, PSs (cxOf CX0 P w K mg base N qual scope f cdv Ar outer s H E).nox body ts ∧ ∀ a, pre a → Xs [] (ext a) t ts (startS N (sl a)) (msA a) (fun _ ms' => ∃ x, (∀ M H, t.rep M H .non x) ∧ post a x ms') (fun x ms' => post a x ms') (fun _ _ => False) (fun _ _ => False)) :
    FnOk P w K mg base CX0 (k + 1) f fd ps (SpX ext sl msA pre t post) :=
  okN F S (fun vs H Q E ⟨M, a, _, _, _, h, _⟩ => h.len.trans (hlen a)) fun cdv Ar outer s H E hr => by
    obtain ⟨ts, h, q⟩ := hbody cdv Ar outer s H E hr
    refine ⟨ts, h, fun vs Q ⟨M, a, nd, sub, wf, ar, own, hp, kq⟩ => ?_⟩
    have en := ar.env (N.length - (sl a).length)
    have e1 : L2.start N vs = vs.map some ++ List.replicate (N.length - (sl a).length) none := by
      unfold L2.start
      rw [ar.len]
    rw [e1]
    exact q a hp M _ H _ ⟨nd, (fun _ z => by cases z), sub, wf, en, own⟩ ⟨fun σ' H' ss' ms' e E' O ⟨x, hx, p⟩ => kq .non x ms' H' e O (hx M H') p, fun v H' x ms' e r O p => kq v x ms' H' e O r p, fun _ _ _ _ _ _ _ z => z.elim, fun _ _ _ _ _ _ _ z => z.elim⟩
/-! ### lists of one's own -/
/-- a new list -/
def Xn {α : Type} (L : List Addr) (te : TE) (ss : SS) (ms : List MSlot) (t : Ty α) (P : List α → List MSlot → Prop) : Prop := ∀ M σ H, L.Nodup → (∀ a ∈ L, a ∈ M) → Wf M H → Env M H σ ss → Own M H L ms →
  ∀ Q : VK, (∀ a vs xs ms' H', H a = none → Ke L H H' → Own (a :: M) H' L ms' → H' a = some (.lst vs) → P2 (t.rep (a :: M) H') vs xs → P xs ms' → Q (.ref a) H') → te σ H Q
def fgt (N : SS → List MSlot → Prop) : SS → List MSlot → Prop := fun ss' ms' => ∃ m ms'', ms' = m :: ms'' ∧ N ss' ms''
/-- what changes no owned object keeps their descriptions where a new one is owned -/
class Scl {α : Type} (t : Ty α) : Prop where
  s : ∀ {M M' : List Addr} {H H' : Hp} {v : V} {x : α}, t.rep M H v x → t.rep M' H' v x
instance : Scl yInt := ⟨fun h => h⟩
instance : Scl yStr := ⟨fun h => h⟩
instance : Scl yBool := ⟨fun h => h⟩
instance : Scl yNon := ⟨fun h => h⟩
instance : Scl yRef := ⟨fun h => h⟩
/-- owned lists, looked at as data -/
def Vw (L : List Addr) (ms : List MSlot) (ss ss' : SS) : Prop := ∀ M σ H, Env M H σ ss → Own M H L ms → ∃ M', (∀ a ∈ M', a ∈ M) ∧ Env M' H σ ss'
theorem Env.put {M : List Addr} {H : Hp} {α : Type} {t : Ty α} {x : α} {v : V} (r : t.rep M H v x) : ∀ {σ : L2.St} {ss : SS} (i : Nat), σ[i]? = some (some v) → Env M H σ ss → Env M H σ (ss.set i (some ⟨t, x⟩))
  | [], [], _, _, _ => trivial
  | [], _ :: _, _, _, h => h.elim
  | _ :: _, [], _, _, h => h.elim
  | none :: _, none :: _, 0, e, _ => by cases e
  | some _ :: _, none :: _, 0, e, h => ⟨by rw [Option.some.inj (Option.some.inj e)]; exact r, h⟩
  | none :: σ, none :: ss, i + 1, e, h => Env.put (σ := σ) (ss := ss) r i e h
  | some _ :: σ, none :: ss, i + 1, e, h => Env.put (σ := σ) (ss := ss) r i e h
  | none :: _, some _ :: _, _, _, h => h.elim
  | some _ :: _, some _ :: _, 0, e, h => ⟨by rw [Option.some.inj (Option.some.inj e)]; exact r, h.2⟩
  | some _ :: σ, some _ :: ss, i + 1, e, h => ⟨h.1, Env.put (σ := σ) (ss := ss) r i e h.2⟩
section
variable {A α β γ δ : Type} {K : PySem.W.Frag} {L loc ext : List Addr} {ss ss' : SS} {ms : List MSlot} {t : Ty α} {u : Ty β} {te ta tb tl : TE} {tt : TT} {tu tv tw tz : TS} {x : α} {y : β} {xs ys : List α} {rt : Ty δ} {N : SS → List MSlot → Prop} {R : δ → List MSlot → Prop} {B C : SS → List MSlot → Prop}
theorem vw_refl : Vw L ms ss ss := fun M σ H E _ => ⟨M, fun _ h => h, E⟩
theorem vw_list {i j : Nat} {a : Addr} (V : Vw L ms ss ss') (hL : L[j]? = some a) (hm : ms[j]? = some (mL t xs)) (hs : ss'[i]? = some (some ⟨yRef, a⟩)) : Vw L ms ss (ss'.set i (some ⟨yList t, xs⟩)) := fun M σ H E O => by
  obtain ⟨M', s, E'⟩ := V M σ H E O
  obtain ⟨a', e, vs, ha, p⟩ := O.get hm
  have : a' = a := Option.some.inj (e.symm.trans hL)
  subst this
  obtain ⟨v, ev, rv⟩ := E'.get hs
  have rv' : v = .ref a' := rv
  subst rv'
  have s2 : ∀ b ∈ M'.filter (fun b => decide (b ≠ a')), b ∈ M' := fun b hb => (List.mem_filter.mp hb).1
  refine ⟨M'.filter fun b => decide (b ≠ a'), fun b hb => s b (s2 b hb), ?_⟩
  refine Env.put (t := yList t) (x := xs) ?_ i ev (E'.less s2)
  exact ⟨a', vs, rfl, fun z => (of_decide_eq_true (List.mem_filter.mp z).2) rfl, ha, p.imp fun _ _ => t.less fun b hb => s b (s2 b hb)⟩
theorem xe_view [Scl u] {P : β → List MSlot → Prop} (V : Vw L ms ss ss') (h : Ve te ss' u y) (p : P y ms) : Xe L te ss ms u P := fun M σ H nd s wf E O Q q => by
  obtain ⟨M', s', E'⟩ := V M σ H E O
  exact h M' σ H E' (fun a ha => wf a (s' a ha)) H Ke.refl _ fun v H2 k r => q v H2 y ms k.all (O.grow k) (Scl.s r) p
theorem xt_view {b : Bool} {PB : Bool → List MSlot → Prop} (V : Vw L ms ss ss') (h : Vb tt ss' b) (p : PB b ms) : Xt L tt ss ms PB := fun M σ H nd s wf E O Q q => by
  obtain ⟨M', s', E'⟩ := V M σ H E O
  exact h M' σ H E' (fun a ha => wf a (s' a ha)) H Ke.refl _ fun H2 k => q H2 b ms k.all (O.grow k) p
theorem xn_lst {ta : TA} {P : List α → List MSlot → Prop} (h : Vi ta ss t xs) (hz : xs.length ≤ 1000000) (p : P xs ms) : Xn L (tLst ta) ss ms t P := fun M σ H nd s wf E O Q q =>
  h M σ H E wf H Ke.refl _ fun vs H2 k2 r => ⟨szle (by rw [r.len]; exact hz), fun a ha => q a vs xs ms _ (k2.free ha) (k2.all.trans (Ke.new ha)) (((O.grow k2).more ha).grow (Ke.new ha)) upd_same (r.imp fun _ _ rr => t.keep (Ke.new ha) (t.more ha rr)) p⟩
theorem xn_listOf {sy : Ty (List α)} {P : List α → List MSlot → Prop} (S : SeqY K t sy) (h : Ve te ss sy xs) (p : P xs ms) : Xn L (tCB (fun xs H Q => ∃ p ys, xs = [.ref p] ∧ (SqL K H p ys ∨ SqT K H p ys) ∧ ∀ l, H l = none → Q (.ref l) (upd H l (.lst ys))) (tCons te tNil)) ss ms t P := fun M σ H nd s wf E O Q q =>
  h M σ H E wf H Ke.refl _ fun v H2 k2 r => by
    obtain ⟨a, ws, rfl, hs, pr⟩ := S.sq r
    exact ⟨a, ws, rfl, hs, fun l hl => q l ws xs ms _ (k2.free hl) (k2.all.trans (Ke.new hl)) (((O.grow k2).more hl).grow (Ke.new hl)) upd_same (pr.imp fun _ _ rr => t.keep (Ke.new hl) (t.more hl rr)) p⟩
/-- a new list may be taken as a datum -/
theorem xe_new {P : List α → List MSlot → Prop} (h : Xn L te ss ms t P) : Xe L te ss ms (yList t) P := fun M σ H nd s wf E O Q q =>
  h M σ H nd s wf E O _ fun a vs xs ms' H' ha k O' h' pr p => q _ H' xs ms' k (O'.less fun _ z => List.mem_cons_of_mem _ z) ⟨a, vs, rfl, wf.not ha, h', pr.imp fun _ _ => t.less fun _ z => List.mem_cons_of_mem _ z⟩ p
/-- the world of a statement with one more owned list -/
theorem kn_fgt {a : Addr} {M0 : List Addr} {H H' : Hp} {D : Ends} (k : Kn loc ext M0 rt H D N R B C) (lift : ∀ {H2 : Hp}, Ke (a :: (loc ++ ext)) H' H2 → Ke (loc ++ ext) H H2) : Kn (a :: loc) ext M0 rt H' D (fgt N) R (fgt B) (fgt C) := by
  have less : ∀ b ∈ loc ++ M0, b ∈ (a :: loc) ++ M0 := fun b hb => List.mem_cons_of_mem _ hb
  have cut : ∀ {H2 : Hp} {m : MSlot} {ms : List MSlot}, Own ((a :: loc) ++ M0) H2 ((a :: loc) ++ ext) (m :: ms) → Own (loc ++ M0) H2 (loc ++ ext) ms := fun h => Own.less less h.2
  refine ⟨fun σ' H2 ss' ms2 e2 E2 O2 q => ?_, fun v H2 x ms2 e2 r O2 q => k.rt v H2 x ms2 (lift e2) r O2 q, fun σ' H2 ss' ms2 e2 E2 O2 q => ?_, fun σ' H2 ss' ms2 e2 E2 O2 q => ?_⟩
  · obtain ⟨m, ms3, rfl, q⟩ := q
    exact k.nx σ' H2 ss' ms3 (lift e2) (E2.less less) (cut O2) q
  · obtain ⟨m, ms3, rfl, q⟩ := q
    exact k.bk σ' H2 ss' ms3 (lift e2) (E2.less less) (cut O2) q
  · obtain ⟨m, ms3, rfl, q⟩ := q
    exact k.ct σ' H2 ss' ms3 (lift e2) (E2.less less) (cut O2) q
/-- x = a new list, owned from here on -/
theorem xs_new {i : Nat} (h : Xn (loc ++ ext) te ss ms t fun xs ms' => ∀ a, Xs (a :: loc) ext rt tz (ss.set i (some ⟨yRef, a⟩)) (mL t xs :: ms') (fgt N) R (fgt B) (fgt C)) : Xs loc ext rt (tSeq (tAsg te (gName i)) tz) ss ms N R B C := fun M0 σ H D w k =>
  h _ σ H w.nd w.sub w.wf w.env w.own _ fun a vs xs ms' H' ha e O' h' pr p => by
    have na : a ∉ loc ++ M0 := w.wf.not ha
    have nl : a ∉ loc ++ ext := fun z => na (w.sub a z)
    have E' : Env (a :: (loc ++ M0)) H' (σ.set i (some (.ref a))) (ss.set i (some ⟨yRef, a⟩)) := ((w.env.more ha).keep (e.sub fun b hb => List.mem_cons_of_mem _ (w.sub b hb))).set (t := yRef) (x := a) rfl i
    have wf' : Wf (a :: (loc ++ M0)) H' := (w.wf.keep e).cons h'
    exact p a M0 _ H' D ⟨List.nodup_cons.mpr ⟨nl, w.nd⟩, (fun b hb => by
      rcases List.mem_cons.mp hb with z | z
      · exact fun y => na (List.mem_append_right _ (by rw [← z]; exact y))
      · exact w.out b z), w.inn, wf', E', ⟨⟨vs, h', pr⟩, O'⟩⟩ (kn_fgt k fun e2 => ((e.sub fun b hb => List.mem_cons_of_mem _ hb).trans e2).old ha)
theorem own_L {M : List Addr} {H : Hp} {i : Nat} {a : Addr} (O : Own M H L ms) (hL : L[i]? = some a) (hm : ms[i]? = some (mL t xs)) : ∃ vs, H a = some (.lst vs) ∧ P2 (t.rep M H) vs xs := by
  obtain ⟨a', e, vs, h, p⟩ := O.get hm
  have : a' = a := Option.some.inj (e.symm.trans hL)
  subst this
  exact ⟨vs, h, p⟩
/-- xs.append(e) -/
theorem xe_app {i : Nat} {a : Addr} {P : Unit → List MSlot → Prop} (ha : Ve ta ss yRef a) (hL : L[i]? = some a) (h : Xe L te ss ms t fun y ms' => ∃ xs, ms'[i]? = some (mL t xs) ∧ xs.length ≤ 1000000 ∧ P () (ms'.set i (mL t (xs ++ [y])))) {xs0 : List α} (h0 : ms[i]? = some (mL t xs0)) :
    Xe L (tBM K "list" rAppend ta (tCons te tNil)) ss ms yNon P := fun M σ H nd s wf E O Q q => ha M σ H E wf H Ke.refl _ fun v H1 k1 r => by
  have rv : v = .ref a := r
  subst rv
  have haM : a ∈ M := s a (List.mem_of_getElem? hL)
  obtain ⟨vs0, h1, _⟩ := own_L (O.grow k1) hL h0
  refine ⟨Or.inl ⟨rfl, vs0, SqL.of h1⟩, h M σ H1 nd s (wf.keep k1) (E.keep k1.all) (O.grow k1) _ fun y H2 x ms2 k2 O2 r2 ⟨xs, hm, hz, p⟩ => ?_⟩
  obtain ⟨vs, h2, pr⟩ := own_L O2 hL hm
  have k3 : Ke [a] H2 (upd H2 a (.lst (vs ++ [y]))) := Ke.mut (List.mem_singleton.mpr rfl)
  have k4 : Ke M H2 (upd H2 a (.lst (vs ++ [y]))) := Ke.mut haM
  refine ⟨a, vs, y, rfl, rfl, h2, szlt (by rw [pr.len]; exact hz), q _ _ () _ ((k1.all.trans k2).trans (Ke.mut (List.mem_of_getElem? hL))) (Own.put k3 haM ?_ nd hL O2) rfl p⟩
  exact ⟨_, upd_same, (pr.imp fun _ _ => t.keep k4).app ⟨t.keep k4 r2, trivial⟩⟩
/-- xs.pop(i) -/
theorem xe_popAt {i : Nat} {a : Addr} {P : α → List MSlot → Prop} (ha : Ve ta ss yRef a) (hL : L[i]? = some a) {xs0 : List α} (h0 : ms[i]? = some (mL t xs0)) (h : Xe L te ss ms yInt fun j ms' => ∃ (xs : List α) (n : Nat) (y : α), j = (n : Int) ∧ n ≤ 1000000 ∧ ms'[i]? = some (mL t xs) ∧ xs[n]? = some y ∧ P y (ms'.set i (mL t (xs.eraseIdx n)))) :
    Xe L (tBM K "list" rPopAt ta (tCons te tNil)) ss ms t P := fun M σ H nd s wf E O Q q => ha M σ H E wf H Ke.refl _ fun v H1 k1 r => by
  have rv : v = .ref a := r
  subst rv
  have haM : a ∈ M := s a (List.mem_of_getElem? hL)
  obtain ⟨vs0, h1, _⟩ := own_L (O.grow k1) hL h0
  refine ⟨Or.inl ⟨rfl, vs0, SqL.of h1⟩, h M σ H1 nd s (wf.keep k1) (E.keep k1.all) (O.grow k1) _ fun w H2 j ms2 k2 O2 r2 ⟨xs, n, y, ej, hn, hm, hy, p⟩ => ?_⟩
  subst ej
  have rw' : w = .int (n : Int) := r2
  subst rw'
  obtain ⟨vs, h2, pr⟩ := own_L O2 hL hm
  obtain ⟨z, hz, rz⟩ := pr.tog hy
  have k3 : Ke [a] H2 (upd H2 a (.lst (vs.eraseIdx n))) := Ke.mut (List.mem_singleton.mpr rfl)
  have k4 : Ke M H2 (upd H2 a (.lst (vs.eraseIdx n))) := Ke.mut haM
  have hlt : n < vs.length := (List.getElem?_eq_some_iff.mp hz).1
  have er : ∀ {vs : List V} {xs : List α} (n : Nat), P2 (t.rep M H2) vs xs → P2 (t.rep M H2) (vs.eraseIdx n) (xs.eraseIdx n) := by
    intro vs
    induction vs with
    | nil => intro xs n h; cases xs with
      | nil => exact h
      | cons _ _ => exact h.elim
    | cons v vs ih => intro xs n h; cases xs with
      | nil => exact h.elim
      | cons x xs => cases n with
        | zero => exact h.2
        | succ n => exact ⟨h.1, ih n h.2⟩
  refine ⟨a, vs, (n : Int), n, z, rfl, rfl, h2, by omega, by omega, ?_, hz, q z _ y _ ((k1.all.trans k2).trans (Ke.mut (List.mem_of_getElem? hL))) (Own.put (m' := mL t (xs.eraseIdx n)) k3 haM ⟨_, upd_same, (er n pr).imp fun _ _ => t.keep k4⟩ nd hL O2) (t.keep k4 rz) p⟩
  · have e : ixN vs.length (n : Int) = some n := by
      unfold ixN
      rw [if_pos (by omega), if_pos (by omega)]
      simp
    exact (ixN_seq e).1
/-- return of an owned list -/
theorem xs_retL {sy : Ty α} {R : List α → List MSlot → Prop} {i : Nat} {a : Addr} (h : Ve te ss yRef a) (hL : loc[i]? = some a) (hm : ms[i]? = some (mL sy xs)) (p : R xs (ms.drop loc.length)) : Xs loc ext (yList sy) (tRet te) ss ms N R B C := fun M0 σ H D w k =>
  h _ σ H w.env w.wf H Ke.refl _ fun v H1 e r => by
    have rv : v = .ref a := r
    subst rv
    have hl : i < loc.length := (List.getElem?_eq_some_iff.mp hL).1
    have hL' : (loc ++ ext)[i]? = some a := by rw [List.getElem?_append_left hl]; exact hL
    have O1 := w.own.grow e
    obtain ⟨vs, h1, pr⟩ := own_L O1 hL' hm
    exact k.rt _ H1 xs _ e.all ⟨a, vs, rfl, w.out a (List.mem_of_getElem? hL), h1, pr.imp fun _ _ => sy.less fun b hb => List.mem_append_right _ hb⟩ (own_ext (fun b hb => List.mem_append_right _ hb) O1) p
end
/-! ### new objects of any kind, owned -/
def Xo (L : List Addr) (te : TE) (ss : SS) (ms : List MSlot) (P : MSlot → List MSlot → Prop) : Prop := ∀ M σ H, L.Nodup → (∀ a ∈ L, a ∈ M) → Wf M H → Env M H σ ss → Own M H L ms →
  ∀ Q : VK, (∀ a m ms' H', H a = none → Ke L H H' → Own (a :: M) H' L ms' → m.I (a :: M) H' a → P m ms' → Q (.ref a) H') → te σ H Q
/-- a promise of a new object -/
def SpO {A : Type} (sl : A → List Slot) (pre : A → Prop) (post : A → MSlot → Prop) : Sp := fun vs H Q _ => ∃ (M : List Addr) (a : A), Wf M H ∧ ArgsR M H vs (sl a) ∧ pre a ∧ ∀ p m H', H p = none → Ke [] H H' → m.I (p :: M) H' p → post a m → Q (.ref p) H'
section
variable {A α β γ δ : Type} {K : PySem.W.Frag} {L loc ext : List Addr} {ss ss' : SS} {ms : List MSlot} {t : Ty α} {u : Ty β} {te ta tb tl : TE} {tt : TT} {tu tv tw tz : TS} {x : α} {y : β} {xs ys : List α} {rt : Ty δ} {N : SS → List MSlot → Prop} {R : δ → List MSlot → Prop} {B C : SS → List MSlot → Prop} {E : XK}
theorem xo_of {P : MSlot → List MSlot → Prop} (h : Xn L te ss ms t fun xs ms' => P (mL t xs) ms') : Xo L te ss ms P := fun M σ H nd s wf E O Q q =>
  h M σ H nd s wf E O _ fun a vs xs ms' H' ha k O' h' pr p => q a (mL t xs) ms' H' ha k O' ⟨vs, h', pr⟩ p
theorem xo_call {sl : A → List Slot} {pre : A → Prop} {post : A → MSlot → Prop} {ta : TA} {P : MSlot → List MSlot → Prop} (a : A) (h : Vs ta ss (sl a)) (hp : pre a) (hq : ∀ m, post a m → P m ms) : Xo L (tCall (SpO sl pre post) [] E ta) ss ms P := fun M σ H nd s wf En O Q q =>
  h M σ H En wf H Ke.refl _ fun vs H2 k2 r => ⟨M, a, wf.keep k2, (by rw [List.append_nil]; exact r), hp, fun p m H' hn k' i po => q p m ms H' (k2.free hn) (k2.all.trans k'.all) (((O.grow k2).more hn).grow k') i (hq m po)⟩
theorem wh_new {a : Addr} {M0 : List Addr} {H H' : Hp} {σ : L2.St} {ms' : List MSlot} {m : MSlot} (w : Wh loc ext M0 H σ ss ms) (ha : H a = none) (e : Ke (loc ++ ext) H H') (O' : Own (a :: (loc ++ M0)) H' (loc ++ ext) ms') (i : m.I (a :: (loc ++ M0)) H' a) {σ' : L2.St} (E' : Env (a :: (loc ++ M0)) H' σ' ss') : Wh (a :: loc) ext M0 H' σ' ss' (m :: ms') := by
  have na : a ∉ loc ++ M0 := w.wf.not ha
  have nl : a ∉ loc ++ ext := fun z => na (w.sub a z)
  obtain ⟨o, ho⟩ := m.there i
  exact ⟨List.nodup_cons.mpr ⟨nl, w.nd⟩, (fun b hb => by
      rcases List.mem_cons.mp hb with z | z
      · exact fun y => na (List.mem_append_right _ (by rw [← z]; exact y))
      · exact w.out b z), w.inn, (w.wf.keep e).cons ho, E', ⟨i, O'⟩⟩
theorem xs_newO {i : Nat} (h : Xo (loc ++ ext) te ss ms fun m ms' => ∀ a, Xs (a :: loc) ext rt tz (ss.set i (some ⟨yRef, a⟩)) (m :: ms') (fgt N) R (fgt B) (fgt C)) : Xs loc ext rt (tSeq (tAsg te (gName i)) tz) ss ms N R B C := fun M0 σ H D w k =>
  h _ σ H w.nd w.sub w.wf w.env w.own _ fun a m ms' H' ha e O' im p => by
    have E' : Env (a :: (loc ++ M0)) H' (σ.set i (some (.ref a))) (ss.set i (some ⟨yRef, a⟩)) := ((w.env.more ha).keep (e.sub fun b hb => List.mem_cons_of_mem _ (w.sub b hb))).set (t := yRef) (x := a) rfl i
    exact p a M0 _ H' D (wh_new w ha e O' im E') (kn_fgt k fun e2 => ((e.sub fun b hb => List.mem_cons_of_mem _ hb).trans e2).old ha)
/-- x, y = two new objects -/
theorem xs_par2 {i j : Nat} (h : Xo (loc ++ ext) ta ss ms fun m1 ms1 => ∀ a, Xo (a :: (loc ++ ext)) tb ss (m1 :: ms1) fun m2 ms2 => ∀ b, Xs (b :: a :: loc) ext rt tz ((ss.set i (some ⟨yRef, a⟩)).set j (some ⟨yRef, b⟩)) (m2 :: ms2) (fgt (fgt N)) R (fgt (fgt B)) (fgt (fgt C))) :
    Xs loc ext rt (tSeq (tPar i j (tCons ta (tCons tb tNil))) tz) ss ms N R B C := fun M0 σ H D w k =>
  h _ σ H w.nd w.sub w.wf w.env w.own _ fun a m1 ms1 H1 ha e1 O1 i1 p => by
    have E1 : Env (a :: (loc ++ M0)) H1 σ ss := (w.env.more ha).keep (e1.sub fun b hb => List.mem_cons_of_mem _ (w.sub b hb))
    have w1 : Wh (a :: loc) ext M0 H1 σ ss (m1 :: ms1) := wh_new w ha e1 O1 i1 E1
    have k1 : Kn (a :: loc) ext M0 rt H1 D (fgt N) R (fgt B) (fgt C) := kn_fgt k fun e2 => ((e1.sub fun b hb => List.mem_cons_of_mem _ hb).trans e2).old ha
    refine p a _ σ H1 w1.nd w1.sub w1.wf w1.env w1.own _ fun b m2 ms2 H2 hb e2 O2 i2 p2 => ⟨.ref a, .ref b, rfl, ?_⟩
    have E2 : Env (b :: (a :: loc ++ M0)) H2 ((σ.set i (some (.ref a))).set j (some (.ref b))) ((ss.set i (some ⟨yRef, a⟩)).set j (some ⟨yRef, b⟩)) := (((w1.env.more hb).keep (e2.sub fun c hc => List.mem_cons_of_mem _ (w1.sub c hc))).set (t := yRef) (x := a) rfl i).set (t := yRef) (x := b) rfl j
    exact p2 b M0 _ H2 D (wh_new w1 hb e2 O2 i2 E2) (kn_fgt k1 fun e3 => ((e2.sub fun c hc => List.mem_cons_of_mem _ hc).trans e3).old hb)
end
/-! ### more of what may change owned objects -/
section
variable {A α β γ δ : Type} {K : PySem.W.Frag} {L loc ext : List Addr} {ss ss' : SS} {ms : List MSlot} {t : Ty α} {u : Ty β} {te ta tb tl : TE} {tt : TT} {tu tv tw tz : TS} {x : α} {y : β} {xs ys : List α} {rt : Ty δ} {N : SS → List MSlot → Prop} {R : δ → List MSlot → Prop} {B C : SS → List MSlot → Prop} {E : XK}
theorem xa_of {ta : TA} {sl : List Slot} {PS : List Slot → List MSlot → Prop} (h : Vs ta ss sl) (p : PS sl ms) : Xa L ta ss ms PS := fun M σ H _ _ wf E O Q q => h M σ H E wf H Ke.refl _ fun vs H2 k r => q vs H2 sl ms k.all (O.grow k) r p
theorem xe_pair {P : α × β → List MSlot → Prop} (h : Xe L ta ss ms t fun x ms1 => Xe L tb ss ms1 u fun y ms2 => P (x, y) ms2) : Xe L (tTup (tCons ta (tCons tb tNil))) ss ms (yPair K t u) P := fun M σ H nd s wf E O Q q =>
  h M σ H nd s wf E O _ fun v H1 x ms1 k1 O1 r1 h2 => h2 M σ H1 nd s (wf.keep k1) (E.keep (k1.sub s)) O1 _ fun w H2 y ms2 k2 O2 r2 p =>
    ⟨by show 2 ≤ sizeLine; decide, fun a ha => q _ _ (x, y) ms2 ((k1.trans k2).trans (Ke.new ha)) (O2.grow (Ke.new ha)) ⟨a, v, w, rfl, .inl ⟨(wf.keep (k1.trans k2)).not ha, upd_same⟩, t.keep (Ke.new ha) (t.keep (k2.sub s) r1), u.keep (Ke.new ha) r2⟩ p⟩
theorem xs_asgT {g : TG} {ws : List Nat} {f : α → SS → SS} (T : Tg g t ws f) (h : Xe (loc ++ ext) te ss ms t fun x ms' => N (f x ss) ms') : Xs loc ext rt (tAsg te g) ss ms N R B C := fun M0 σ H D w k =>
  h _ σ H w.nd w.sub w.wf w.env w.own _ fun v H' x ms' e O r p => T _ σ H' ss v x (w.env.keep (e.sub w.sub)) r _ fun σ' _ E' => k.nx σ' H' _ ms' e E' O p
/-- a comprehension whose tests and items may change owned objects -/
theorem xn_lcL {g : TG} {ws : List Nat} {f : α → SS → SS} {P : List β → List MSlot → Prop} (T : Tg g t ws f) (hl : Ve tl ss (yList t) xs) (I : Nat → List β → List MSlot → Prop) (h0 : I 0 [] ms)
    (hs : ∀ i x ys ms', xs[i]? = some x → I i ys ms' → Xt L tt (f x (wipeS ss ws)) ms' fun b ms1 => if b = true then Xe L te (f x (wipeS ss ws)) ms1 u fun y ms2 => ys.length ≤ 1000000 ∧ I (i + 1) (ys ++ [y]) ms2 else I (i + 1) ys ms1)
    (hd : ∀ ys ms', I xs.length ys ms' → P ys ms') : Xn L (tLc (iList K tl) g tt te ws) ss ms u P := fun M σ H nd s wf E O Q q => hl M σ H E wf H Ke.refl _ fun v H2 k2 r => by
  obtain ⟨a, vs, rfl, n, ha, pr⟩ := r
  have E2 : Env M H2 σ ss := E.keep k2.all
  have wf2 : Wf M H2 := wf.keep k2
  have na : a ∉ L := fun z => n (s a z)
  refine ⟨a, rfl, ⟨vs, SqL.of ha⟩, fun Dl hD => lc_list (xs := vs) (fun i H' => ∃ ys ms' ws', Ke (Dl :: L) H2 H' ∧ H' Dl = some (.lst ws') ∧ P2 (u.rep (Dl :: M) H') ws' ys ∧ Own (Dl :: M) H' L ms' ∧ I i ys ms') ⟨[], ms, [], Ke.new hD, upd_same, trivial, ((O.grow k2).more hD).grow (Ke.new hD), h0⟩ (fun i H' _ ⟨ys, ms', ws', c, _⟩ => ?_) (fun i v H' hv ⟨ys, ms', ws', c, cD, cp, cO, cI⟩ => ?_) (fun H' ⟨ys, ms', ws', c, cD, cp, cO, cI⟩ => ?_)⟩
  · exact SqL.of (c.keep a _ (fun z => by
      rcases List.mem_cons.mp z with z | z
      · rw [z, hD] at ha; cases ha
      · exact na z) ha)
  · obtain ⟨x, hx, rx⟩ := pr.get hv
    have sM : ∀ b ∈ Dl :: L, b ∈ Dl :: M := fun b hb => by
      rcases List.mem_cons.mp hb with z | z
      · rw [z]; exact List.mem_cons_self
      · exact List.mem_cons_of_mem _ (s b z)
    have sL : ∀ b ∈ L, b ∈ Dl :: M := fun b hb => List.mem_cons_of_mem _ (s b hb)
    have nD : Dl ∉ L := fun z => wf2.not hD (s Dl z)
    have E3 : Env (Dl :: M) H' (wipe σ ws) (wipeS ss ws) := ((E2.more hD).keep (c.sub sM)).wipe ws
    have wf3 : Wf (Dl :: M) H' := (wf2.keep c).cons cD
    refine T (Dl :: M) (wipe σ ws) H' (wipeS ss ws) v x E3 (t.keep (c.sub sM) (t.more hD rx)) _ fun σ' hw E4 => ⟨hw.trans (wipe_wipe fun _ h => h), ?_⟩
    refine hs i x ys ms' hx cI (Dl :: M) σ' H' nd sL wf3 E4 cO _ fun H3 b ms1 k3 O3 p3 => ?_
    cases b with
    | true =>
      show te σ' H3 _
      refine p3 (Dl :: M) σ' H3 nd sL (wf3.keep k3) (E4.keep (k3.sub sL)) O3 _ fun z H4 y ms2 k4 O4 r4 ⟨hz, hI⟩ => ?_
      have k34 : Ke L H' H4 := k3.trans k4
      have kD : Ke (Dl :: M) H4 (upd H4 Dl (.lst (ws' ++ [z]))) := Ke.mut List.mem_cons_self
      refine ⟨ws', k34.keep Dl _ nD cD, szlt (by rw [cp.len]; exact hz), ys ++ [y], ms2, ws' ++ [z], (c.trans (k34.sub fun b hb => List.mem_cons_of_mem _ hb)).trans (Ke.mut List.mem_cons_self), upd_same, ?_, ?_, hI⟩
      · exact (cp.imp fun _ _ => u.keep ((k34.sub sL).trans kD)).app ⟨u.keep kD r4, trivial⟩
      · exact O4.stab (M' := [Dl]) (Ke.mut (List.mem_singleton.mpr rfl)) (fun b hb => by rw [List.mem_singleton.mp hb]; exact List.mem_cons_self) fun b hb z => nD (by rw [← List.mem_singleton.mp z]; exact hb)
    | false =>
      exact ⟨ys, ms1, ws', c.trans (k3.sub fun b hb => List.mem_cons_of_mem _ hb), k3.keep Dl _ nD cD, cp.imp fun _ _ => u.keep (k3.sub sL), O3, p3⟩
  · rw [pr.len] at cI
    exact q Dl ws' ys ms' H' (k2.free hD) (k2.all.trans (c.old hD)) cO cD cp (hd ys ms' cI)
end
end Fp

/-! ## the law's pen and its draws -/
namespace Fp
open PySem L2
abbrev kC : Key := Sum.inr ("cells" : Str)
abbrev kT : Key := Sum.inr ("turn" : Str)
abbrev kL : Key := Sum.inr ("left" : Str)
theorem ne_ct : ¬ kC = kT := by decide +kernel
theorem ne_cl : ¬ kC = kL := by decide +kernel
theorem ne_tl : ¬ kT = kL := by decide +kernel
def penD (c : Addr) (t l : Int) : List (Key × V) := [(kC, .ref c), (kT, .int t), (kL, .int l)]
theorem valV_hit {k : Key} {v : V} {r : List (Key × V)} : valV ((k, v) :: r) k = some v := by
  unfold valV
  rw [List.find?_cons_of_pos (by exact decide_eq_true rfl)] <;> rfl
theorem valV_miss {k k' : Key} {v : V} {r : List (Key × V)} (h : ¬ k' = k) : valV ((k', v) :: r) k = valV r k := by
  unfold valV
  rw [List.find?_cons_of_neg (by exact fun z => h (of_decide_eq_true z))]
theorem pen_cells (c : Addr) (t l : Int) : valV (penD c t l) kC = some (.ref c) := valV_hit
theorem pen_turn (c : Addr) (t l : Int) : valV (penD c t l) kT = some (.int t) := (valV_miss ne_ct).trans valV_hit
theorem pen_left (c : Addr) (t l : Int) : valV (penD c t l) kL = some (.int l) := (valV_miss ne_cl).trans ((valV_miss ne_tl).trans valV_hit)
theorem put_turn (c : Addr) (t l n : Int) : putK (penD c t l) kT (.int n) = penD c n l := by
  unfold putK
  have h : ((penD c t l).any fun kv => decide (kv.1 = kT)) = true := List.any_eq_true.mpr ⟨(kT, .int t), by unfold penD; simp, decide_eq_true rfl⟩
  rw [if_pos h]
  show [if kC = kT then (kC, V.int n) else (kC, V.ref c), if kT = kT then (kT, V.int n) else (kT, V.int t), if kL = kT then (kL, V.int n) else (kL, V.int l)] = penD c n l
  rw [if_neg ne_ct, if_pos rfl, if_neg (Ne.symm ne_tl)]
  rfl
theorem put_left (c : Addr) (t l n : Int) : putK (penD c t l) kL (.int n) = penD c t n := by
  unfold putK
  have h : ((penD c t l).any fun kv => decide (kv.1 = kL)) = true := List.any_eq_true.mpr ⟨(kL, .int l), by unfold penD; simp, decide_eq_true rfl⟩
  rw [if_pos h]
  show [if kC = kL then (kC, V.int n) else (kC, V.ref c), if kT = kL then (kT, V.int n) else (kT, V.int t), if kL = kL then (kL, V.int n) else (kL, V.int l)] = penD c t n
  rw [if_neg ne_cl, if_neg ne_tl, if_pos rfl]
  rfl
/-- a pen, at most T cells taken so far -/
def mPen (T : Nat) : MSlot where
  I := fun M H p => ∃ (c : Addr) (ns : List Int) (t l : Int), H p = some (.dK (penD c t l)) ∧ c ∉ M ∧ H c = some (.lst (ns.map V.int)) ∧ ns.length ≤ 63 ∧ 0 ≤ t ∧ t ≤ (T : Int)
  stab := fun k s n ⟨c, ns, t, l, h, nc, hc, r⟩ => ⟨c, ns, t, l, k.keep _ _ n h, nc, k.keep _ _ (fun z => nc (s c z)) hc, r⟩
  more := fun {M H a p} f ⟨c, ns, t, l, h, nc, hc, r⟩ => ⟨c, ns, t, l, h, (fun z => by
    rcases List.mem_cons.mp z with z | z
    · rw [z, f] at hc; cases hc
    · exact nc z), hc, r⟩
  less := fun s ⟨c, ns, t, l, h, nc, hc, r⟩ => ⟨c, ns, t, l, h, (fun z => nc (s c z)), hc, r⟩
  there := fun ⟨c, ns, t, l, h, _⟩ => ⟨_, h⟩
theorem pen_le {T T' : Nat} (h : T ≤ T') {M : List Addr} {H : Hp} {p : Addr} (i : (mPen T).I M H p) : (mPen T').I M H p := by
  obtain ⟨c, ns, t, l, a, b, d, e, f, g⟩ := i
  exact ⟨c, ns, t, l, a, b, d, e, f, by omega⟩
/-- draw(pen, span): a number below the span -/
abbrev slDraw : Addr × Int × Nat → List Slot := fun a => [⟨yRef, a.1⟩, ⟨yInt, a.2.1⟩]
abbrev spDraw : Sp := SpX (A := Addr × Int × Nat) (fun a => [a.1]) slDraw (fun a => [mPen a.2.2]) (fun a => 0 < a.2.1 ∧ a.2.1 < 1073741824 ∧ a.2.2 ≤ 1000000000000) yInt (fun a r ms' => 0 ≤ r ∧ r < a.2.1 ∧ ms' = [mPen (a.2.2 + 1)])
/-- pen(script): a pen -/
def yScr (K : PySem.W.Frag) : Ty (List Int) where
  rep := fun M H v ns => ∃ a, v = .ref a ∧ ∀ H', (Ke M H H' → SqL K H' a (ns.map V.int))
  keep := fun k ⟨a, e, h⟩ => ⟨a, e, fun H' k' => h H' (k.trans k')⟩
  less := fun s ⟨a, e, h⟩ => ⟨a, e, fun H' k' => h H' (k'.sub s)⟩
  more := fun {M H v x p} f ⟨a, e, h⟩ => ⟨a, e, fun H' k' => h H' (k'.old f)⟩
theorem atI_mod {ns : List Int} {k : Int} (h : 0 < ns.length) : ∃ v : Int, atI (ns.map V.int) (k % (ns.length : Int)) = some (.int v) := by
  have h1 := Int.emod_nonneg k (show (ns.length : Int) ≠ 0 by omega)
  have h2 := Int.emod_lt_of_pos k (show (0 : Int) < (ns.length : Int) by omega)
  have hk : (k % (ns.length : Int)).toNat < ns.length := by omega
  have g : atI (ns.map V.int) (((k % (ns.length : Int)).toNat : Nat) : Int) = some (.int ns[(k % (ns.length : Int)).toNat]) := atI_nat (by rw [List.getElem?_map, List.getElem?_eq_getElem hk] <;> rfl)
  have e : (((k % (ns.length : Int)).toNat : Nat) : Int) = k % (ns.length : Int) := by omega
  exact ⟨ns[(k % (ns.length : Int)).toNat], by rw [e] at g; exact g⟩
theorem dpAll_ints (K : PySem.W.Frag) (H : Hp) : ∀ ns : List Int, DpAll K H (ns.map V.int) (ns.map PyData.int)
  | [] => .nil
  | _ :: r => .cons (.int _) (dpAll_ints K H r)
theorem shp_ints (ns : List Int) : SeqAt.shaped (.list (ns.map PyData.int)) = true := (shp_list (n := 0) (d := PyData.int) fun x _ => shp_int x).shaped (by decide)
section
variable {L : List Addr} {ss : SS} {ms : List MSlot} {tn : TE} {E : XK} {p : Addr}
/-- draw(pen, n) -/
theorem xe_draw {i j : Nat} {P : Int → List MSlot → Prop} (hp : ss[i]? = some (some ⟨yRef, p⟩)) (hL : L[j]? = some p) (hn : Xe L tn ss ms yInt fun n ms1 => ∃ T, ms1[j]? = some (mPen T) ∧ 0 < n ∧ n < 1073741824 ∧ T ≤ 1000000000000 ∧ ∀ r, 0 ≤ r → r < n → P r (ms1.set j (mPen (T + 1)))) : Xe L (tCall spDraw [] E (tCons (tVar i) (tCons tn tNil))) ss ms yInt P :=
  xe_call1 (xa_cons (xe_of (ve_v hp) (xa_cons (xe_mono hn fun n ms1 ⟨T, h1, h2, h3, h4, h5⟩ => xa_nil ⟨(p, n, T), j, p, _, rfl, rfl, rfl, hL, h1, ⟨h2, h3, h4⟩, fun r m' ⟨r0, r1, e⟩ => by
    have e := (List.cons.inj e).1
    subst e
    exact h5 r r0 r1⟩))))
theorem xe_add {ta tb : TE} {P : Int → List MSlot → Prop} (h : Xe L ta ss ms yInt fun x ms1 => Xe L tb ss ms1 yInt fun y ms2 => P (x + y) ms2) : Xe L (tOp (rI0 fun i j => .int (i + j)) ta tb) ss ms yInt P :=
  xe_opP (f := fun i j => i + j) (C := fun _ _ => True) (fun M v1 v2 H1 x y _ wf r1 r2 Q q => ⟨x, y, r1, r2, q _ H1 Ke.refl rfl⟩) (xe_mono h fun x ms1 hb => xe_mono hb fun y ms2 p => ⟨trivial, p⟩)
theorem xe_eq {α : Type} {t : Ty α} [DecidableEq α] [Sca t] {ta tb : TE} {P : Bool → List MSlot → Prop} [Scl t] (h : Xe L ta ss ms t fun x ms1 => Xe L tb ss ms1 t fun y ms2 => P (decide (x = y)) ms2) : Xe L (tOp rEq ta tb) ss ms yBool P :=
  xe_opP (f := fun x y => decide (x = y)) (C := fun _ _ => True) (fun M v1 v2 H1 x y _ wf r1 r2 Q q => ⟨(Sca.s r1 r2).1, q _ H1 Ke.refl (congrArg V.bl (Sca.s r1 r2).2)⟩) (xe_mono h fun x ms1 hb => xe_mono hb fun y ms2 p => ⟨trivial, p⟩)
end
/-- the law's script, as the end hands it in -/
theorem scr_of {K : PySem.W.Frag} {H : Hp} {a : Addr} {ns : List Int} (h : SqL K H a (ns.map V.int)) : (yScr K).rep [] H (.ref a) ns := ⟨a, rfl, fun H' k => by
  rcases h with h | h
  · exact .inl (h.imp k.one fun ⟨o, e⟩ => ⟨o, k.one e⟩)
  · exact .inr h⟩
abbrev spLaw (K : PySem.W.Frag) : Sp := SpX (A := List Int) (fun _ => []) (fun ns => [⟨yScr K, ns⟩]) (fun _ => []) (fun ns => ns.length ≤ 63) yBool (fun _ b _ => b = true)
theorem law_in {K : PySem.W.Frag} {H : Hp} {a : Addr} {ns : List Int} {E : XK} (hl : ns.length ≤ 63) (hS : SqL K H a (ns.map V.int)) : spLaw K [.ref a] H (fun v _ => v = .bl true) E :=
  ⟨[], ns, .nil, fun _ h => h, Wf.nil, ⟨scr_of hS, trivial⟩, trivial, hl, fun r x ms' H' _ _ hr hp => by
    have hp : x = true := hp
    subst hp
    exact hr⟩
end Fp

/-! ## operators of own classes -/
namespace Fp
open PySem L2
structure OwnM (K : PySem.W.Frag) (C : Addr) (m : Str) (f : Addr) : Prop where
  fi : PySem.W.findIn K (.ref C) m = some (some (.ref f))
  fn : PySem.W.isFn K (.ref f) = true
def rInO (C : Addr) (sp : Sp) (E : XK) : R2 := fun x y H Q => ∃ a dx fs, y = .ref a ∧ H a = some (.ins C dx fs) ∧ sp [.ref a, x] H (fun v H' => ∃ b, v = .bl b ∧ Q (.bl b) H') E
def rCmpO (C : Addr) (sp : Sp) (E : XK) : R2 := fun x y H Q => ∃ a b dx dy fs gs, x = .ref a ∧ y = .ref b ∧ H a = some (.ins C dx fs) ∧ H b = some (.ins C dy gs) ∧ sp [.ref a, .ref b] H Q E
section
variable {X : Cx} {CX : CXT} {k : Nat} {f C : Addr} {fd : FuncData} {ps : List Str} {sp : Sp} {E : XK}
theorem op_in_own (F : FnOk X.prog X.w X.K X.mg X.base CX k f fd ps sp) (hr : Room k X.A) (hb : Binds X.K fd ps []) (hx : Passes CX X E) (m : OwnM X.K C "__contains__" f) : OpR X (compareOp .In) (rInO C sp E) := by
  intro pins s σ H x y v u Q I rx ry hq
  obtain ⟨a, dx, fs, rfl, ha, q⟩ := hq
  cases ry
  obtain ⟨mA, J, _⟩ := ins_get I.hok ha
  obtain ⟨od, J, _⟩ := J.look
  obtain ⟨m', hF⟩ := I.fr
  refine PySem.W.in_K hF I.ok.mod.kin J m.fi m.fn ?_
  refine wpAny_mono (run_fn (vs := [.ref a, x]) F hr hb .nil hx I (.cons (show RelV (.ref a) (.ref a) from rfl) (.cons rx .nil)) (by rw [List.append_nil]; exact q)) (fun r s' z => ?_) fun _ _ z => z
  obtain ⟨z, H', I', rz, b, rfl, q'⟩ := z
  cases rz
  exact wpAny_truthy_bool ⟨.bl b, H', I', rfl, q'⟩
theorem back_of {Q : Value → Shared → Prop} {z : V} {r : Value} {s' : Shared} (rz : RelV z r) (q : Q r s') : PySem.W.CmpBack Q r s' := by
  cases z <;> first
    | (cases rz; exact q)
    | (obtain ⟨t, rfl⟩ := rz; exact q)
theorem op_cmp_own {op : CmpOp} (F : FnOk X.prog X.w X.K X.mg X.base CX k f fd ps sp) (hr : Room k X.A) (hb : Binds X.K fd ps []) (hx : Passes CX X E) (m : OwnM X.K C (cmpInfo op).2.1 f) (hop : ∀ v u, compareOp op v u = richCompare op v u) : OpR X (compareOp op) (rCmpO C sp E) := by
  intro pins s σ H x y v u Q I rx ry hq
  obtain ⟨a, b, dx, dy, fs, gs, rfl, rfl, ha, hb', q⟩ := hq
  cases rx
  cases ry
  obtain ⟨mA, J, _⟩ := ins_get I.hok ha
  obtain ⟨mB, J', _⟩ := ins_get I.hok hb'
  obtain ⟨od, J, _⟩ := J.look
  obtain ⟨od', J', _⟩ := J'.look
  obtain ⟨m', hF⟩ := I.fr
  rw [hop]
  refine PySem.W.cmp_K (op := op) (tb := .ref C) hr.units0 hF I.ok.mod.kin J J'.type (by simp [PySem.W.notFirst]) m.fi m.fn ?_
  refine wpAny_mono (run_fn (vs := [.ref a, .ref b]) F hr hb .nil hx I (.cons (show RelV (.ref a) (.ref a) from rfl) (.cons (show RelV (.ref b) (.ref b) from rfl) .nil)) (by rw [List.append_nil]; exact q)) (fun r s' z => ?_) fun _ _ z => z
  obtain ⟨z, H', I', rz, q'⟩ := z
  exact back_of rz ⟨z, H', I', rz, q'⟩
theorem op_bin_own {op : Operator} (F : FnOk X.prog X.w X.K X.mg X.base CX k f fd ps sp) (hr : Room k X.A) (hb : Binds X.K fd ps []) (hx : Passes CX X E) (m : OwnM X.K C (PySem.dunder op.info.2) f) (hc : PySem.W.selfFirst X.K C = true) : OpR X (binaryOp op) (rCmpO C sp E) := by
  intro pins s σ H x y v u Q I rx ry hq
  obtain ⟨a, b, dx, dy, fs, gs, rfl, rfl, ha, hb', q⟩ := hq
  cases rx
  cases ry
  obtain ⟨mA, J, _⟩ := ins_get I.hok ha
  obtain ⟨mB, J', _⟩ := ins_get I.hok hb'
  obtain ⟨od, J, _⟩ := J.look
  obtain ⟨od', J', _⟩ := J'.look
  obtain ⟨m', hF⟩ := I.fr
  refine PySem.W.binop_K hF I.ok.mod.kin J J'.type hc m.fi m.fn ?_
  refine wpAny_mono (run_fn (vs := [.ref a, .ref b]) F hr hb .nil hx I (.cons (show RelV (.ref a) (.ref a) from rfl) (.cons (show RelV (.ref b) (.ref b) from rfl) .nil)) (by rw [List.append_nil]; exact q)) (fun r s' z => ?_) fun _ _ z => z
  obtain ⟨z, H', I', rz, q'⟩ := z
  exact back_of rz ⟨z, H', I', rz, q'⟩
end
/-- an instance of a class -/
structure InsY {α : Type} (C : Addr) (t : Ty α) (m : Str) : Prop where
  i : ∀ {M : List Addr} {H : Hp} {v : V} {x : α}, t.rep M H v x → ∃ a dx fs, v = .ref a ∧ H a = some (.ins C dx fs) ∧ fs.lookup m = none
section
variable {A α β γ : Type} {K : PySem.W.Frag} {ss : SS} {t : Ty α} {u : Ty β} {te ta tb : TE} {x x' : α} {y : β} {C : Addr} {E : XK}
theorem argsR1 {M : List Addr} {H : Hp} {v : V} (r : t.rep M H v x) : ArgsR M H [v] [⟨t, x⟩] := ⟨r, trivial⟩
theorem argsR2 {M : List Addr} {H : Hp} {v w : V} (r : t.rep M H v x) (r' : u.rep M H w y) : ArgsR M H [v, w] [⟨t, x⟩, ⟨u, y⟩] := ⟨r, r', trivial⟩
theorem spF_of {sl : A → List Slot} {pre : A → Prop} {f : A → α} {M : List Addr} {H : Hp} {vs : List V} {Q : VK} (a : A) (wf : Wf M H) (r : ArgsR M H vs (sl a)) (hp : pre a) (q : ∀ v H', Ke [] H H' → t.rep M H' v (f a) → Q v H') : SpF sl pre t f vs H Q E :=
  ⟨M, a, List.nodup_nil, (fun _ h => by cases h), wf, r, trivial, hp, fun v y _ H' k _ r' e => q v H' k (by rw [← e]; exact r')⟩
theorem ve_inO {m : Str} {sl : A → List Slot} {pre : A → Prop} {f : A → Bool} (I : InsY C u m) (a : A) (ea : sl a = [⟨u, y⟩, ⟨t, x⟩]) (hp : pre a) (ha : Ve ta ss t x) (hb : Ve tb ss u y) : Ve (tOp (rInO C (SpF sl pre yBool f) E) ta tb) ss yBool (f a) :=
  ve_op ha hb fun M v1 v2 H1 wf r1 r2 Q q => by
    obtain ⟨b, dx, fs, rfl, hi, _⟩ := I.i r2
    exact ⟨b, dx, fs, rfl, hi, spF_of a wf (by rw [ea]; exact argsR2 r2 r1) hp fun v H' k r => ⟨f a, r, q _ H' k rfl⟩⟩
theorem ve_cmpO {w : Ty γ} {m : Str} {sl : A → List Slot} {pre : A → Prop} {f : A → γ} (I : InsY C t m) (a : A) (ea : sl a = [⟨t, x⟩, ⟨t, x'⟩]) (hp : pre a) (ha : Ve ta ss t x) (hb : Ve tb ss t x') : Ve (tOp (rCmpO C (SpF sl pre w f) E) ta tb) ss w (f a) :=
  ve_op ha hb fun M v1 v2 H1 wf r1 r2 Q q => by
    obtain ⟨b, dx, fs, rfl, hi, _⟩ := I.i r1
    obtain ⟨b', dx', fs', rfl, hi', _⟩ := I.i r2
    exact ⟨b, b', dx, dx', fs, fs', rfl, rfl, hi, hi', spF_of a wf (by rw [ea]; exact argsR2 r1 r2) hp q⟩
/-- o.m(..) -/
theorem ve_meth {w : Ty γ} {m : Str} {sl : A → List Slot} {pre : A → Prop} {f : A → γ} {ts : TA} {s1 : List Slot} (I : InsY C t m) (a : A) (ea : sl a = ⟨t, x⟩ :: s1) (hp : pre a) (ha : Ve ta ss t x) (hs : Vs ts ss s1) : Ve (tMeth C m (SpF sl pre w f) [] E ta ts) ss w (f a) := fun M σ H En wf H1 k Q q =>
  ha M σ H En wf H1 k _ fun v H2 k2 r => by
    obtain ⟨b, dx, fs, rfl, hi, hl⟩ := I.i r
    refine ⟨b, dx, fs, rfl, hi, hl, hs M σ H En wf H2 (k.trans k2.all) _ fun vs H3 k3 r3 => ?_⟩
    rw [List.append_nil]
    exact spF_of a (wf.keep ((k.trans k2.all).trans k3.all)) (by rw [ea]; exact ⟨t.keep k3.all r, r3⟩) hp fun v H' k' r' => q v H' ((k2.trans k3).trans k') r'
theorem ve_meth0 {w : Ty γ} {m : Str} {sl : A → List Slot} {pre : A → Prop} {f : A → γ} (I : InsY C t m) (a : A) (ea : sl a = [⟨t, x⟩]) (hp : pre a) (ha : Ve ta ss t x) : Ve (tMeth C m (SpF sl pre w f) [] E ta tNil) ss w (f a) := ve_meth I a ea hp ha vs_nil
theorem ve_prop {w : Ty γ} {m : Str} {sl : A → List Slot} {pre : A → Prop} {f : A → γ} (I : InsY C t m) (a : A) (ea : sl a = [⟨t, x⟩]) (hp : pre a) (ha : Ve ta ss t x) : Ve (tProp C (SpF sl pre w f) [] E ta) ss w (f a) := fun M σ H En wf H1 k Q q =>
  ha M σ H En wf H1 k _ fun v H2 k2 r => by
    obtain ⟨b, dx, fs, rfl, hi, hl⟩ := I.i r
    exact ⟨b, dx, fs, rfl, hi, spF_of a (wf.keep (k.trans k2.all)) (by rw [ea]; exact argsR1 r) hp fun v H' k' r' => q v H' (k2.trans k') r'⟩
/-- o.f -/
structure FldY {α β : Type} (C : Addr) (t : Ty α) (n : Str) (u : Ty β) (g : α → β) : Prop where
  f : ∀ {M : List Addr} {H : Hp} {v : V} {x : α}, t.rep M H v x → ∃ a dx fs w, v = .ref a ∧ H a = some (.ins C dx fs) ∧ fs.lookup n = some w ∧ u.rep M H w (g x)
theorem ve_fld {n : Str} {g : α → β} (F : FldY C t n u g) (hc : Cls K C) (hn : NoAttr K C n) (ha : Ve ta ss t x) : Ve (tFld K ta n) ss u (g x) := fun M σ H En wf H1 k Q q =>
  ha M σ H En wf H1 k _ fun v H2 k2 r => by
    obtain ⟨b, dx, fs, w, rfl, hi, hl, rw'⟩ := F.f r
    exact ⟨b, C, dx, fs, w, rfl, hi, hc, hn, hl, q w H2 k2 rw'⟩
end
end Fp

/-! ## != by an own __eq__ -/
namespace Fp
open PySem L2 PySem.Spec PyProof.Rows PySem.SeqAt
structure OwnNe (K : PySem.W.Frag) (C : Addr) : Prop where
  ne : PySem.W.findIn K (.ref C) "__ne__" = some (some (.builtin "object.__ne__"))
  ob : PySem.W.mroIn K C (.type "object") = some true
def rNeO (C : Addr) (sp : Sp) (E : XK) : R2 := fun x y H Q => ∃ a b dx dy fs gs, x = .ref a ∧ y = .ref b ∧ H a = some (.ins C dx fs) ∧ H b = some (.ins C dy gs) ∧ sp [.ref a, .ref b] H (fun v H' => ∃ r, v = .bl r ∧ Q (.bl (!r)) H') E
section
variable {prog : Program} {w : World} {A : Around} {Er : Value → Shared → Prop} {s : Shared} {K : PySem.W.Frag} {x y C f : Addr} {ox : Obj} {od : Option Obj}
theorem objNe_own (hu : A.units < cLine) (X : K.In s.heap) (I : PySem.W.InstAt s.heap x ox C od) (m : OwnM K C "__eq__" f) {Q : Fin → Shared → Prop}
    (h : wpAny (model prog w) A (call (.ref f) [.ref x, .ref y]) (fun v s' => ∃ r, v = .bool r ∧ Q (.done (.ret (.bool (!r)))) s') Er s) : wpAny (model prog w) A (Builtin.«object.__ne__» ⟨[.ref x, .ref y], []⟩) Q Er s := by
  unfold Builtin.«object.__ne__»
  repeat (first
    | with_reducible refine wpAny_cRoomFor hu ?_
    | (refine wpAny_bind (m := callSpecialIfBound? (.ref x) (Str.ofString "__eq__") [.ref y]) (PySem.W.ifBound_K X I m.fi m.fn (wpAny_mono h (fun r s' hr => by
          obtain ⟨b, rfl, hq⟩ := hr
          repeat (first | exact hq | exact wpAny_pure hq | exact wpAny_truthy_bool hq | (refine wpAny_bind (m := truthy (.bool _)) (wpAny_truthy_bool ?_)) | wp_step)) fun _ _ e => e)))
    | wp_step)
theorem tryNe_own (hu : A.units + 1 < cLine) (X : K.In s.heap) (I : PySem.W.InstAt s.heap x ox C od) (m : OwnM K C "__eq__" f) (n : OwnNe K C) {Q : Option Value → Shared → Prop}
    (h : wpAny (model prog w) A.in1 (call (.ref f) [.ref x, .ref y]) (fun v s' => ∃ r, v = .bool r ∧ Q (some (.bool (!r))) s') Er s) : wpAny (model prog w) A (tryCompare (.ref x) "__ne__" (.ref y)) Q Er s := by
  have go : wpAny (model prog w) A (call (.builtin "object.__ne__") [.ref x, .ref y]) (fun v s' => ∃ r, v = .bool r ∧ Q (some (.bool r)) s') Er s :=
    wpAny_call (codeAny_call_builtin F.cmp_object.ne.plain F.cmpEntry_ne (PySem.W.check_slot F.cmpKind_ne F.cmpSplit_ne (I.type.andThen (PySem.W.looks_mroIn X n.ob)) (F.cmpArgs_ne _ _) (objNe_own (A := A.in1) hu X I m (wpAny_mono h (fun v s' hv => by
      obtain ⟨r, rfl, q⟩ := hv
      exact ⟨r, rfl, ⟨!r, rfl, q⟩⟩) fun _ _ e => e))))
  have one : wpAny (model prog w) A (callSpecialIfBound? (.ref x) "__ne__" [.ref y]) (fun v s' => ∃ r, v = some (.bool r) ∧ Q (some (.bool r)) s') Er s := by
    simp only [callSpecialIfBound?, bindSpecialIfBound?]
    refine wpAny_holding (wpAny_bind (wpAny_bind (wpAny_bind (I.type.here ((PySem.W.looks_findIn X n.ne).here ?_)))))
    refine wpAny_bind (wpAny_askSetting (wpAny_ite ?_))
    have fin : wpAny (model prog w) A (call (.builtin "object.__ne__") ([.ref x] ++ [.ref y]) >>= fun v => pure (some v)) (fun v s' => ∃ r, v = some (.bool r) ∧ Q (some (.bool r)) s') Er s := wpAny_bind (wpAny_mono go (fun v s' h' => wpAny_pure (by
      obtain ⟨r, rfl, q⟩ := h'
      exact ⟨r, rfl, q⟩)) fun _ _ h' => h')
    split
    · exact wpAny_bind (wpAny_of_eq (F.cmp_object.ne.bind _) (wpAny_pure (by exact fin)))
    · exact wpAny_tryCatch (wpAny_bind (wpAny_of_eq (F.cmp_object.ne.bind _) (wpAny_pure (by exact fin))))
  unfold tryCompare
  refine wpAny_bind (wpAny_mono one (fun v s' hv => ?_) fun _ _ e => e)
  obtain ⟨r, rfl, q⟩ := hv
  exact wpAny_pure q
theorem richNe_own (hu : A.units + 1 < cLine) (X : K.In s.heap) (I : PySem.W.InstAt s.heap x ox C od) (J : PySem.W.InstAt s.heap y oy C oz) (m : OwnM K C "__eq__" f) (n : OwnNe K C) {Q : Value → Shared → Prop}
    (h : wpAny (model prog w) A.in1 (call (.ref f) [.ref x, .ref y]) (fun v s' => ∃ r, v = .bool r ∧ Q (.bool (!r)) s') Er s) : wpAny (model prog w) A (richCompare .NotEq (.ref x) (.ref y)) Q Er s := by
  unfold richCompare
  simp only [oneThing_ref]
  refine wpAny_holding (wpAny_bind (wpAny_cRoomFor (Nat.lt_of_succ_lt hu) ?_))
  refine wpAny_bind (I.type.here (wpAny_bind (J.type.here ?_)))
  rw [show (Value.ref C != Value.ref C) = false from by simp]
  simp only [Bool.false_eq_true, if_false]
  refine wpAny_bind (wpAny_pure ?_)
  simp only [Bool.false_eq_true, if_false]
  refine wpAny_bind (tryNe_own hu X I m n (wpAny_mono h (fun v s' hv => ?_) fun _ _ e => e))
  obtain ⟨r, rfl, q⟩ := hv
  exact ⟨r, rfl, wpAny_pure q⟩
end
section
variable {X : Cx} {CX : CXT} {k : Nat} {f C : Addr} {fd : FuncData} {ps : List Str} {sp : Sp} {E : XK}
theorem op_ne_own (F : FnOk X.prog X.w X.K X.mg X.base CX k f fd ps sp) (hr : Room (k + 1) X.A) (hb : Binds X.K fd ps []) (hx : Passes CX X E) (m : OwnM X.K C "__eq__" f) (n : OwnNe X.K C) : OpR X (compareOp .NotEq) (rNeO C sp E) := by
  intro pins s σ H x y v u Q I rx ry hq
  obtain ⟨a, b, dx, dy, fs, gs, rfl, rfl, ha, hb', q⟩ := hq
  cases rx
  cases ry
  obtain ⟨mA, J, _⟩ := ins_get I.hok ha
  obtain ⟨mB, J', _⟩ := ins_get I.hok hb'
  obtain ⟨od, J, _⟩ := J.look
  obtain ⟨od', J', _⟩ := J'.look
  obtain ⟨m', hF⟩ := I.fr
  have e0 : Env0 X.prog X.w X.K X.mg X.base X.A.in1 X.stack s H := by
    have e := I.env0
    exact ⟨e.frames, e.mod, e.bs, e.bsz, e.funs, e.frf, e.hok, e.bare⟩
  show wpAny _ _ (richCompare .NotEq (.ref a) (.ref b)) _ _ _
  have hl := F.len _ _ _ _ q
  refine richNe_own (by have := hr.units; omega) I.kIn J J' m n (wpAny_call (codeAny_mono (F.run X.A.in1 X.stack s H ⟨[.ref a, .ref b], []⟩ [.ref a, .ref b] [.ref a, .ref b] _ E hr.in1 e0 (by
    have := hb s [.ref a, .ref b] I.kIn (by simpa using hl)
    simpa using this) (.cons rfl (.cons rfl .nil)) q) fun r s' hq => ?_))
  cases r with
  | error e => exact hx pins σ H s e s' I hq
  | ok fl =>
    cases fl with
    | ret w =>
      obtain ⟨z, H', I', rz, r, ez, q'⟩ := I.after hq
      subst ez
      cases rz
      exact ⟨r, rfl, .bl (!r), H', I', rfl, q'⟩
    | next => exact False.elim hq
    | brk => exact False.elim hq
    | cont => exact False.elim hq
end
section
variable {A α β γ : Type} {K : PySem.W.Frag} {ss : SS} {t : Ty α} {u : Ty β} {te ta tb : TE} {x x' : α} {y : β} {C : Addr} {E : XK}
theorem ve_neO {m : Str} {sl : A → List Slot} {pre : A → Prop} {f : A → Bool} (I : InsY C t m) (a : A) (ea : sl a = [⟨t, x⟩, ⟨t, x'⟩]) (hp : pre a) (ha : Ve ta ss t x) (hb : Ve tb ss t x') : Ve (tOp (rNeO C (SpF sl pre yBool f) E) ta tb) ss yBool (!f a) :=
  ve_op ha hb fun M v1 v2 H1 wf r1 r2 Q q => by
    obtain ⟨b, dx, fs, rfl, hi, _⟩ := I.i r1
    obtain ⟨b', dx', fs', rfl, hi', _⟩ := I.i r2
    exact ⟨b, b', dx, dx', fs, fs', rfl, rfl, hi, hi', spF_of a wf (by rw [ea]; exact argsR2 r1 r2) hp fun v H' k r => ⟨f a, r, q _ H' k rfl⟩⟩
end
end Fp

/-! ## more of the layer: all, min, t + u, conditional expressions, pairs -/
namespace Fp
open PySem L2
section
variable {X : Cx} {K : PySem.W.Frag} {w : World}
theorem call_allK (hc : X.calm = true) (hK : X.K = K := by rfl) : CallR X (.builtin "all") (rAll K) := by subst hK; exact cr_all hc
theorem op_catTK (hK : X.K = K := by rfl) : OpR X (binaryOp .Add) (rCatA K) := by subst hK; exact op_catA
end
section
variable {α β γ : Type} {K : PySem.W.Frag} {L : List Addr} {ss : SS} {ms : List MSlot} {t : Ty α} {u : Ty β} {te ta tb : TE} {tt : TT} {x : α} {y : β} {xs ys : List α}
theorem p2_bl {M : List Addr} {H : Hp} : ∀ {vs : List V} {bs : List Bool}, P2 (yBool.rep M H) vs bs → vs = bs.map V.bl
  | [], [], _ => rfl
  | [], _ :: _, h => h.elim
  | _ :: _, [], h => h.elim
  | v :: vs, b :: bs, h => by rw [show v = V.bl b from h.1, p2_bl h.2]; rfl
theorem ve_all {bs : List Bool} (h : Ve te ss (yList yBool) bs) : Ve (tCB (rAll K) (tCons te tNil)) ss yBool (bs.all id) := fun M σ H E wf H1 k Q q =>
  h M σ H E wf H1 k _ fun v H2 k2 r => by
    obtain ⟨a, vs, e, n, ha, p⟩ := r
    subst e
    rw [p2_bl p] at ha
    exact ⟨a, bs, rfl, SqL.of ha, q _ H2 k2 rfl⟩
theorem ve_min2 {i j : Int} (ha : Ve ta ss yInt i) (hb : Ve tb ss yInt j) : Ve (tCB (fun xs H Q => ∃ i j, xs = [.int i, .int j] ∧ Q (.int (if j < i then j else i)) H) (tCons ta (tCons tb tNil))) ss yInt (if j < i then j else i) := fun M σ H E wf H1 k Q q =>
  ha M σ H E wf H1 k _ fun v H2 k2 r => hb M σ H E wf H2 (k.trans k2.all) _ fun v2 H3 k3 r3 => by
    have e : v = .int i := r
    have e3 : v2 = .int j := r3
    subst e e3
    exact ⟨i, j, rfl, q _ H3 (k2.trans k3) rfl⟩
theorem ve_catT (ha : Ve ta ss (yTup K t) xs) (hb : Ve tb ss (yTup K t) ys) (hz : xs.length + ys.length ≤ 1000000) : Ve (tOp (rCatA K) ta tb) ss (yTup K t) (xs ++ ys) :=
  ve_op ha hb fun M v1 v2 H1 wf r1 r2 Q q => by
    obtain ⟨a, vs, rfl, ha, pa⟩ := r1
    obtain ⟨b, ws, rfl, hb, pb⟩ := r2
    have sa : SqT K H1 a vs := ha.sq
    have sb : SqT K H1 b ws := hb.sq
    refine ⟨a, b, vs, ws, rfl, rfl, sa, sb, szle (by rw [pa.len, pb.len]; exact hz), fun e => ?_, fun _ e => ?_, fun _ _ p hp => ?_⟩
    · subst e
      cases xs with
      | cons _ _ => exact pa.elim
      | nil => exact q _ H1 Ke.refl ⟨b, ws, rfl, hb, pb⟩
    · subst e
      cases ys with
      | cons _ _ => exact pb.elim
      | nil =>
        exact q _ H1 Ke.refl ⟨a, vs, rfl, ha, by rw [List.append_nil]; exact pa⟩
    · exact q _ _ (Ke.new hp) ⟨p, vs ++ ws, rfl, .inl ⟨wf.not hp, upd_same⟩, (pa.imp fun _ _ => t.keep (Ke.new hp)).app (pb.imp fun _ _ => t.keep (Ke.new hp))⟩
/-- the second of a pair -/
theorem ve_ixP1 {p : α × β} (ha : Ve ta ss (yPair K t u) p) (hb : Ve tb ss yInt 1) : Ve (tOp (rIxT K) ta tb) ss u p.2 :=
  ve_op ha hb fun M v1 v2 H1 wf r1 r2 Q q => by
    obtain ⟨a, v, w, rfl, ha, pa, pb⟩ := r1
    exact ⟨a, [v, w], 1, w, rfl, r2, ha.sq, rfl, q _ H1 Ke.refl pb⟩
theorem xe_ixP1 {P : β → List MSlot → Prop} (h : Xe L ta ss ms (yPair K t u) fun p ms1 => Xe L tb ss ms1 yInt fun j ms2 => j = 1 ∧ P p.2 ms2) : Xe L (tOp (rIxT K) ta tb) ss ms u P :=
  xe_opP (t := yPair K t u) (u := yInt) (w := u) (f := fun p _ => p.2) (C := fun _ j => j = 1) (fun M v1 v2 H1 p j hj wf r1 r2 Q q => by
    obtain ⟨a, v, w, rfl, ha, pa, pb⟩ := r1
    subst hj
    exact ⟨a, [v, w], 1, w, rfl, r2, ha.sq, rfl, q _ H1 Ke.refl pb⟩) h
/-- xs[e], an index that changes something -/
theorem xe_ixL {P : α → List MSlot → Prop} (h : Xe L ta ss ms (yList t) fun xs ms1 => Xe L tb ss ms1 yInt fun j ms2 => ∃ (n : Nat) (x : α), j = (n : Int) ∧ xs[n]? = some x ∧ P x ms2) : Xe L (tOp (rIxL K) ta tb) ss ms t P :=
  xe_op (xe_mono h fun xs ms1 hb => xe_mono hb fun j ms2 ⟨n, x, hj, hx, p⟩ M v1 v2 H1 _ _ wf r1 r2 O Q q => by
    obtain ⟨a, vs, rfl, na, ha, pa⟩ := r1
    obtain ⟨v, hv, rv⟩ := pa.tog hx
    have e2 : v2 = .int j := r2
    subst e2
    exact ⟨a, vs, j, v, rfl, rfl, SqL.of ha, by rw [hj]; exact atI_nat hv, q v H1 x ms2 Ke.refl O rv p⟩)
theorem xe_if {P : α → List MSlot → Prop} (h : Xt L tt ss ms fun b ms1 => (b = true → Xe L ta ss ms1 t P) ∧ (b = false → Xe L tb ss ms1 t P)) : Xe L (tIf tt ta tb) ss ms t P := fun M σ H nd s wf E O Q q =>
  h M σ H nd s wf E O _ fun H' b ms' k O' p => by
    cases b with
    | true =>
      show ta σ H' Q
      exact p.1 rfl M σ H' nd s (wf.keep k) (E.keep (k.sub s)) O' Q fun v H2 x ms2 k2 => q v H2 x ms2 (k.trans k2)
    | false =>
      show tb σ H' Q
      exact p.2 rfl M σ H' nd s (wf.keep k) (E.keep (k.sub s)) O' Q fun v H2 x ms2 k2 => q v H2 x ms2 (k.trans k2)
theorem xs_parX {δ : Type} {loc ext : List Addr} {rt : Ty δ} {N : SS → List MSlot → Prop} {R : δ → List MSlot → Prop} {B C : SS → List MSlot → Prop} {i j : Nat} (h : Xe (loc ++ ext) ta ss ms t fun x ms1 => Xe (loc ++ ext) tb ss ms1 u fun y ms2 => N ((ss.set i (some ⟨t, x⟩)).set j (some ⟨u, y⟩)) ms2) :
    Xs loc ext rt (tPar i j (tCons ta (tCons tb tNil))) ss ms N R B C := fun M0 σ H D w k =>
  h _ σ H w.nd w.sub w.wf w.env w.own _ fun v H1 x ms1 e1 O1 r1 h2 => h2 _ σ H1 w.nd w.sub (w.wf.keep e1) (w.env.keep (e1.sub w.sub)) O1 _ fun v2 H2 y ms2 e2 O2 r2 p =>
    ⟨v, v2, rfl, k.nx _ H2 _ ms2 (e1.trans e2) ((((w.env.keep (e1.sub w.sub)).keep (e2.sub w.sub)).set (t.keep (e2.sub w.sub) r1) i).set r2 j) O2 p⟩
theorem isD_bl : IsD K yBool PyData.bool := ⟨fun {M H v x} h => by have e : v = .bl x := h; subst e; exact .bl x⟩
end
end Fp

/-! ## instances, owned -/
namespace Fp
open PySem L2
/-- the fields, as data -/
def F2 (M : List Addr) (H : Hp) : List (Str × V) → List (Str × Slot) → Prop
  | [], [] => True
  | (f, v) :: gs, (g, s) :: fs => f = g ∧ s.t.rep M H v s.x ∧ F2 M H gs fs
  | _, _ => False
section
variable {M M' : List Addr} {H H' : Hp} {p : Addr}
theorem F2.imp {M' : List Addr} {H' : Hp} (k : ∀ {α : Type} (t : Ty α) (v : V) (x : α), t.rep M H v x → t.rep M' H' v x) : ∀ {gs : List (Str × V)} {fs : List (Str × Slot)}, F2 M H gs fs → F2 M' H' gs fs
  | [], [], _ => trivial
  | [], _ :: _, h => h.elim
  | _ :: _, [], h => h.elim
  | (_, _) :: gs, (_, _) :: fs, h => ⟨h.1, k _ _ _ h.2.1, F2.imp k (gs := gs) (fs := fs) h.2.2⟩
theorem F2.len : ∀ {gs : List (Str × V)} {fs : List (Str × Slot)}, F2 M H gs fs → gs.length = fs.length
  | [], [], _ => rfl
  | [], _ :: _, h => h.elim
  | _ :: _, [], h => h.elim
  | (_, _) :: gs, (_, _) :: fs, h => congrArg Nat.succ (F2.len (gs := gs) (fs := fs) h.2.2)
def putS (f : Str) (s : Slot) : List (Str × Slot) → List (Str × Slot)
  | [] => [(f, s)]
  | (g, x) :: r => if g = f then (g, s) :: r else (g, x) :: putS f s r
theorem F2.put {f : Str} {v : V} {s : Slot} (r : s.t.rep M H v s.x) : ∀ {gs : List (Str × V)} {fs : List (Str × Slot)}, F2 M H gs fs → F2 M H (putF f v gs) (putS f s fs)
  | [], [], _ => ⟨rfl, r, trivial⟩
  | [], _ :: _, h => h.elim
  | _ :: _, [], h => h.elim
  | (g, u) :: gs, (g', x) :: fs, h => by
    obtain ⟨e, r', h'⟩ := h
    subst e
    unfold putF putS
    by_cases c : g = f
    · rw [if_pos c, if_pos c]
      exact ⟨rfl, r, h'⟩
    · rw [if_neg c, if_neg c]
      exact ⟨rfl, r', F2.put r h'⟩
theorem F2.look {f : Str} : ∀ {gs : List (Str × V)} {fs : List (Str × Slot)} {s : Slot}, F2 M H gs fs → fs.lookup f = some s → ∃ v, gs.lookup f = some v ∧ s.t.rep M H v s.x
  | [], [], _, _, e => by cases e
  | [], _ :: _, _, h, _ => h.elim
  | _ :: _, [], _, h, _ => h.elim
  | (g, u) :: gs, (g', x) :: fs, s, h, e => by
    obtain ⟨e', r', h'⟩ := h
    subst e'
    rw [List.lookup_cons] at e ⊢
    cases c : f == g with
    | true =>
      rw [c] at e
      have e2 := Option.some.inj e
      subst e2
      exact ⟨u, rfl, r'⟩
    | false =>
      rw [c] at e
      exact F2.look h' e
theorem F2.no {f : Str} : ∀ {gs : List (Str × V)} {fs : List (Str × Slot)}, F2 M H gs fs → fs.lookup f = none → gs.lookup f = none
  | [], [], _, _ => rfl
  | [], _ :: _, h, _ => h.elim
  | _ :: _, [], h, _ => h.elim
  | (g, u) :: gs, (g', x) :: fs, h, e => by
    obtain ⟨e', r', h'⟩ := h
    subst e'
    rw [List.lookup_cons] at e ⊢
    cases c : f == g with
    | true => rw [c] at e; cases e
    | false =>
      rw [c] at e
      exact F2.no h' e
end
/-- an instance of the class at C with these fields -/
def mI (C : Addr) (fs : List (Str × Slot)) : MSlot where
  I := fun M H a => ∃ dx gs, H a = some (.ins C dx gs) ∧ F2 M H gs fs
  stab := fun k s n ⟨dx, gs, h, p⟩ => ⟨dx, gs, k.keep _ _ n h, p.imp fun t _ _ => t.keep (k.sub s)⟩
  more := fun f ⟨dx, gs, h, p⟩ => ⟨dx, gs, h, p.imp fun t _ _ => t.more f⟩
  less := fun s ⟨dx, gs, h, p⟩ => ⟨dx, gs, h, p.imp fun t _ _ => t.less s⟩
  there := fun ⟨dx, gs, h, _⟩ => ⟨_, h⟩
section
variable {A α β γ δ : Type} {K : PySem.W.Frag} {L loc ext : List Addr} {ss ss' : SS} {ms : List MSlot} {t : Ty α} {u : Ty β} {te ta tb tl tv : TE} {tu tz : TS} {x : α} {y : β} {rt : Ty δ} {N : SS → List MSlot → Prop} {R : δ → List MSlot → Prop} {B C : SS → List MSlot → Prop} {E : XK} {Cl : Addr}
theorem own_I {M : List Addr} {H : Hp} {i : Nat} {a : Addr} {fs : List (Str × Slot)} (O : Own M H L ms) (hL : L[i]? = some a) (hm : ms[i]? = some (mI Cl fs)) : ∃ dx gs, H a = some (.ins Cl dx gs) ∧ F2 M H gs fs := by
  obtain ⟨a', e, dx, gs, h, p⟩ := O.get hm
  have : a' = a := Option.some.inj (e.symm.trans hL)
  subst this
  exact ⟨dx, gs, h, p⟩
/-- o.f = e, o owned -/
theorem xs_fld {f : Str} {i : Nat} {a : Addr} (hc : Cls K Cl) (hn : NoAttr K Cl f) (ho : Ve ta ss yRef a) (hL : (loc ++ ext)[i]? = some a) (h : Xe (loc ++ ext) tv ss ms t fun y ms' => ∃ fs, ms'[i]? = some (mI Cl fs) ∧ fs.length < 1000 ∧ N ss (ms'.set i (mI Cl (putS f ⟨t, y⟩ fs)))) : Xs loc ext rt (sFld K ta tv f) ss ms N R B C := fun M0 σ H D w k =>
  h _ σ H w.nd w.sub w.wf w.env w.own _ fun v H1 y ms1 e1 O1 r1 ⟨fs, hm, hl, p⟩ => ho _ σ H1 (w.env.keep (e1.sub w.sub)) (w.wf.keep e1) H1 Ke.refl _ fun o H2 e2 r2 => by
    have ro : o = .ref a := r2
    subst ro
    have O2 := O1.grow e2
    obtain ⟨dx, gs, h2, pr⟩ := own_I O2 hL hm
    have haM : a ∈ loc ++ M0 := w.sub a (List.mem_of_getElem? hL)
    have k3 : Ke [a] H2 (upd H2 a (.ins Cl dx (putF f v gs))) := Ke.mut (List.mem_singleton.mpr rfl)
    have k4 : Ke (loc ++ M0) H2 (upd H2 a (.ins Cl dx (putF f v gs))) := Ke.mut haM
    refine ⟨a, Cl, dx, gs, rfl, h2, hc, hn, (by rw [pr.len]; exact hl), k.nx σ _ ss _ ((e1.trans e2.all).trans (Ke.mut (List.mem_of_getElem? hL))) (((w.env.keep (e1.sub w.sub)).keep e2.all).keep k4) (Own.put (m' := mI Cl (putS f ⟨t, y⟩ fs)) k3 haM ⟨dx, _, upd_same, ?_⟩ w.nd hL O2) p⟩
    exact F2.imp (fun t _ _ => t.keep k4) (F2.put (s := ⟨t, y⟩) (t.keep e2.all r1) pr)
/-- o.f, o owned -/
theorem xe_fld {f : Str} {i : Nat} {a : Addr} {fs : List (Str × Slot)} {P : α → List MSlot → Prop} (hc : Cls K Cl) (hn : NoAttr K Cl f) (ho : Ve ta ss yRef a) (hL : L[i]? = some a) (hm : ms[i]? = some (mI Cl fs)) (hf : fs.lookup f = some ⟨t, x⟩) (p : P x ms) : Xe L (tFld K ta f) ss ms t P := fun M σ H nd s wf En O Q q =>
  ho M σ H En wf H Ke.refl _ fun v H1 k1 r => by
    have rv : v = .ref a := r
    subst rv
    obtain ⟨dx, gs, h1, pr⟩ := own_I (O.grow k1) hL hm
    obtain ⟨w, e, rw'⟩ := pr.look hf
    exact ⟨a, Cl, dx, gs, w, rfl, h1, hc, hn, e, q w H1 x ms k1.all (O.grow k1) rw' p⟩
/-- C(..): a new instance by its __init__ -/
theorem xo_make {ext' : A → List Addr} {sl : A → List Slot} {msA : A → List MSlot} {pre : A → Prop} {post : A → Unit → List MSlot → Prop} {ts : TA} {P : MSlot → List MSlot → Prop}
    (hs : Xa L ts ss ms fun s1 ms1 => ∃ a : Addr → A, (∀ o, sl (a o) = ⟨yRef, o⟩ :: s1) ∧ (∀ o, ext' (a o) = [o]) ∧ (∀ o, msA (a o) = [mI Cl []]) ∧ (∀ o, pre (a o)) ∧ ∀ o m', post (a o) () [m'] → P m' ms1) : Xo L (tMake Cl (SpX ext' sl msA pre yNon post) [] E ts) ss ms P := fun M σ H nd s wf En O Q q =>
  hs M σ H nd s wf En O _ fun vs H1 s1 ms1 k1 O1 r ⟨a, e1, e2, e3, hp, hq⟩ => by
    intro o dx ho hd hne
    have kA : ∀ {M : List Addr}, Ke M H1 (upd (upd H1 dx (.own o)) o (.ins Cl dx [])) := (Ke.new hd).trans (Ke.new (by rw [upd_ne (Ne.symm hne)]; exact ho))
    have wf1 : Wf M H1 := wf.keep k1
    have wf2 : Wf (o :: M) (upd (upd H1 dx (.own o)) o (.ins Cl dx [])) := (wf1.keep (kA (M := []))).cons upd_same
    have rA : ArgsR (o :: M) (upd (upd H1 dx (.own o)) o (.ins Cl dx [])) vs s1 := by
      have lift : ∀ {vs : List V} {sl : List Slot}, ArgsR M H1 vs sl → ArgsR (o :: M) (upd (upd H1 dx (.own o)) o (.ins Cl dx [])) vs sl := by
        intro vs
        induction vs with
        | nil => intro sl h; cases sl with
          | nil => trivial
          | cons _ _ => exact h.elim
        | cons v vs ih => intro sl h; cases sl with
          | nil => exact h.elim
          | cons s sl => exact ⟨s.t.keep kA (s.t.more ho h.1), ih h.2⟩
      exact lift r
    rw [List.append_nil]
    refine ⟨o :: M, a o, (by rw [e2]; exact List.nodup_cons.mpr ⟨(fun z => by cases z), List.nodup_nil⟩), (fun b hb => by rw [e2] at hb; rw [List.mem_singleton.mp hb]; exact List.mem_cons_self), wf2, (by rw [e1]; exact ⟨rfl, rA⟩), (by rw [e2, e3]; exact ⟨⟨dx, [], upd_same, trivial⟩, trivial⟩), hp o, fun rv xv ms' H' k' O' r' po => ?_⟩
    rw [e2] at k' O'
    cases ms' with
    | nil => exact O'.elim
    | cons m' rest =>
      cases rest with
      | cons _ _ => exact O'.2.elim
      | nil =>
        have kB : Ke [] H1 H' := (kA.trans k').old ho
        refine ⟨r', q o m' ms1 H' (k1.free ho) (k1.trans kB.all) ?_ O'.1 (hq o m' po)⟩
        exact (O1.more ho).grow kB
/-- a new object that is no longer changed, as a datum -/
theorem xe_frz {P : α → List MSlot → Prop} (h : Xo L te ss ms fun m ms' => ∃ x, (∀ M H a, a ∉ M → m.I (a :: M) H a → t.rep M H (.ref a) x) ∧ P x ms') : Xe L te ss ms t P := fun M σ H nd s wf En O Q q =>
  h M σ H nd s wf En O _ fun a m ms' H' ha k O' i ⟨x, f, p⟩ => q _ H' x ms' k (O'.less fun _ z => List.mem_cons_of_mem _ z) (f M H' a (wf.not ha) i) p
/-- .. in an expression that changes nothing -/
theorem ve_frz (h : ∀ M σ H, Env M H σ ss → Xo [] te ss [] fun m _ => ∀ M H a, a ∉ M → m.I (a :: M) H a → t.rep M H (.ref a) x) : Ve te ss t x := fun M σ H En wf H1 k Q q =>
  h M σ H En M σ H1 List.nodup_nil (fun _ z => by cases z) (wf.keep k) (En.keep k) trivial _ fun a m ms' H' ha k' _ i f => q _ H' k' (f M H' a ((wf.keep k).not ha) i)
theorem ve_frz' (h : Xo [] te ss [] fun m _ => ∀ M H a, a ∉ M → m.I (a :: M) H a → t.rep M H (.ref a) x) : Ve te ss t x := ve_frz fun _ _ _ _ => h
end
end Fp

/-! ## the layer's rules with the written part told (within a comprehension's block the reading must not name the block) -/
namespace Fp
open PySem L2
section
variable {X : Cx} {K : PySem.W.Frag} {w : World}
theorem ix_kdictK (hK : X.K = K := by rfl) (hw : X.w = w := by rfl) : IxR X (rIxD K w) := by
  subst hK hw
  exact ix_kdict
theorem op_inK (hK : X.K = K := by rfl) : OpR X (compareOp .In) (rIn K false) := by subst hK; exact op_in_seq
theorem op_notInK (hK : X.K = K := by rfl) : OpR X (compareOp .NotIn) (rIn K true) := by subst hK; exact op_notIn_seq
theorem op_eqK (hu : X.A.units + 64 < cLine) (hK : X.K = K := by rfl) : OpR X (compareOp .Eq) (rEqD K) := by subst hK; exact op_eqD hu
theorem op_neK (hu : X.A.units + 64 < cLine) (hK : X.K = K := by rfl) : OpR X (compareOp .NotEq) (rNeD K) := by subst hK; exact op_neD hu
theorem ix_listK (hK : X.K = K := by rfl) : IxR X (rIxL K) := by subst hK; exact ix_list
theorem ix_tupK (hK : X.K = K := by rfl) : IxR X (rIxT K) := by subst hK; exact ix_tup
theorem sl_listK (hK : X.K = K := by rfl) : SlR X (rSlL K) := by subst hK; exact sl_list
theorem call_lenK (hK : X.K = K := by rfl) : CallR X (.builtin "len") (fun xs H Q => ∃ p ys, xs = [.ref p] ∧ (SqL K H p ys ∨ SqT K H p ys) ∧ Q (.int ys.length) H) := by subst hK; exact call_len_seq
theorem call_listK (hK : X.K = K := by rfl) : CallR X (.type "list") (fun xs H Q => ∃ p ys, xs = [.ref p] ∧ (SqL K H p ys ∨ SqT K H p ys) ∧ ∀ l, H l = none → Q (.ref l) (upd H l (.lst ys))) := by subst hK; exact call_list_of
theorem call_tupleK (hK : X.K = K := by rfl) : CallR X (.type "tuple") (fun xs H Q => ∃ p ys, xs = [.ref p] ∧ ((SqL K H p ys ∧ ∀ l, H l = none → Q (.ref l) (upd H l (.tup ys))) ∨ (SqT K H p ys ∧ Q (.ref p) H))) := by subst hK; exact call_tuple_of
theorem call_isiX (hK : X.K = K := by rfl) : CallR X (.builtin "isinstance") (rIsi K) := by subst hK; exact call_isi
theorem pe_fldK {e : Expr} {f : Str} {pos : Pos} {ta : TE} (he : PE X e ta) (hb : attributeBase e f X.env (eval e X.env) = eval e X.env) (hK : X.K = K := by rfl) : PE X (.Attribute e f pos) (tFld K ta f) := by subst hK; exact pe_fld he hb
theorem toBM {e : Expr} {T : String} {r : V → List V → Hp → VK → Prop} {to : TE} {t : TA} (h : PE X e (tBM X.K T r to t)) (hK : X.K = K := by rfl) : PE X e (tBM K T r to t) := by subst hK; exact h
theorem toBM0 {e : Expr} {T : String} {r : V → List V → Hp → VK → Prop} {to : TE} (h : PE X e (tBM0 X.K T r to)) (hK : X.K = K := by rfl) : PE X e (tBM0 K T r to) := by subst hK; exact h
theorem pi_listK {tg l : Expr} {tl : TE} (hl : PE X l tl) (hK : X.K = K := by rfl) : PI X tg l (iList K tl) := by subst hK; exact pi_list hl
theorem pi_tupK {tg l : Expr} {tl : TE} (hl : PE X l tl) (hK : X.K = K := by rfl) : PI X tg l (iTup K tl) := by subst hK; exact pi_tup hl
theorem pi_enumK {e : Expr} {ta : TA} {p pos tpos : Pos} {elts : List Expr} {kk : Nat} (hg : Gl X "enumerate") (hm : X.mg "enumerate" = none) (ha : PA X [e] ta) (hs : starEach [e] X.env = [(false, eval e X.env)] := by rfl) (hK : X.K = K := by rfl) :
    PI X (.Tuple elts kk tpos) (.Call (.Name "enumerate" p) [e] [] pos) (iEnum K ta) := by subst hK; exact pi_enum hg hm ha hs
theorem pi_zipK {e e2 : Expr} {ta : TA} {p pos tpos : Pos} {elts : List Expr} {kk : Nat} (hg : Gl X "zip") (hm : X.mg "zip" = none) (ha : PA X [e, e2] ta)
    (hs : starEach [e, e2] X.env = (false, eval e X.env) :: starEach [e2] X.env := by rfl) (hpl : (backTo pos (starEach [e2] X.env)).any (·.1) = false := by rfl) (hK : X.K = K := by rfl) :
    PI X (.Tuple elts kk tpos) (.Call (.Name "zip" p) [e, e2] [] pos) (iZip K ta) := by subst hK; exact pi_zip hg hm ha hs hpl
theorem pg_tupK {es : List Expr} {k : Nat} {pos : Pos} {t : TGs} {n : Nat} (hc : X.calm = true) (h : PGs X es t)
    (hn : (assignEach es X.env).length = n := by rfl) (hst : (assignEach es X.env).findIdx? (·.1) = none := by rfl) (hK : X.K = K := by rfl) : PG X (.Tuple es k pos) (gTup K n t) := by subst hK; exact pg_tup hc h hn hst
end
end Fp

/-! ## rules and kinds: the mathematics -/
namespace Fp
open PySem L2
def nine : List Str := ["grouping", "order", "middle", "first", "last", "ends", "keep", "take", "vanish"]
def high : List Str := ["grouping", "middle"]
def kinds13 : List (Str × List Str) := [("trees", []), ("pairs", ["order"]), ("words", ["grouping"]), ("bags", ["grouping", "order"]), ("parity", ["grouping", "order", "vanish"]), ("middles", ["grouping", "middle"]), ("heads", ["grouping", "middle", "first"]),
  ("tails", ["grouping", "middle", "last"]), ("sets", ["grouping", "order", "middle", "first", "last"]), ("outer", ["grouping", "middle", "ends"]), ("lefts", ["grouping", "middle", "first", "ends", "keep"]), ("rights", ["grouping", "middle", "last", "ends", "take"]), ("one", nine)]
def kindsN : List Str := kinds13.map (·.1)
def closedR (k : Str) : List Str := (kinds13.lookup k).getD []
def kindStep (names : List Str) (found kind : Str) : Str := if ((names.filter fun n => !decide (n ∈ closedR kind)).isEmpty && decide (((closedR kind).length : Int) < ((closedR found).length : Int))) = true then kind else found
def kindOf (names : List Str) : Str := kindsN.foldl (kindStep names) "one"
/-- the set's rules in their order -/
def held (names : List Str) : List Str := nine.filter fun r => decide (r ∈ names)
theorem closed_in : ∀ k ∈ kindsN, closedR k ∈ kinds13.map (·.2) := by decide +kernel
theorem kstep_pos {names : List Str} {found kind : Str} (h : ((names.filter fun n => !decide (n ∈ closedR kind)).isEmpty && decide (((closedR kind).length : Int) < ((closedR found).length : Int))) = true) : kindStep names found kind = kind := if_pos h
theorem kstep_neg {names : List Str} {found kind : Str} (h : ((names.filter fun n => !decide (n ∈ closedR kind)).isEmpty && decide (((closedR kind).length : Int) < ((closedR found).length : Int))) = false) : kindStep names found kind = found := if_neg (by rw [h]; exact Bool.false_ne_true)
theorem step_in {names : List Str} {f k : Str} (hf : f ∈ kindsN) (hk : k ∈ kindsN) : kindStep names f k ∈ kindsN := by
  unfold kindStep
  split
  · exact hk
  · exact hf
theorem fold_in {names : List Str} : ∀ (l : List Str) {f : Str}, f ∈ kindsN → (∀ k ∈ l, k ∈ kindsN) → l.foldl (kindStep names) f ∈ kindsN
  | [], _, hf, _ => hf
  | k :: l, _, hf, h => fold_in l (step_in hf (h k List.mem_cons_self)) fun k' h' => h k' (List.mem_cons_of_mem _ h')
theorem one_in : ("one" : Str) ∈ kindsN := by decide +kernel
theorem kindOf_in (names : List Str) : kindOf names ∈ kindsN := fold_in kindsN one_in fun _ h => h
theorem closed_nine : ∀ k ∈ kindsN, ∀ r ∈ closedR k, r ∈ nine := by decide +kernel
theorem nine_ok : ∀ r ∈ nine, PyData.canLay0 (.str r) = true := by decide +kernel
theorem kinds_ok : ∀ r ∈ kindsN, PyData.canLay0 (.str r) = true := by decide +kernel
theorem closed_len : ∀ k ∈ kindsN, (closedR k).length ≤ 9 := by decide +kernel
theorem held_sub (names : List Str) : ∀ r ∈ held names, r ∈ nine := fun r h => (List.mem_filter.mp h).1
theorem shp_strs {xs : List Str} (h : ∀ x ∈ xs, PyData.canLay0 (.str x) = true) : SeqAt.shaped (.list (xs.map PyData.str)) = true := (shp_list (n := 0) (d := PyData.str) fun x hx => shp_str (h x hx)).shaped (by decide)
theorem shp_strsT {xs : List Str} (h : ∀ x ∈ xs, PyData.canLay0 (.str x) = true) : SeqAt.shaped (.tuple (xs.map PyData.str)) = true := (shp_tup (n := 0) (d := PyData.str) fun x hx => shp_str (h x hx)).shaped (by decide)
theorem isEmpty_eq {α : Type} [DecidableEq α] (xs : List α) : decide (xs = []) = xs.isEmpty := by cases xs <;> simp
theorem take_fold {α β : Type} {f : β → α → β} {b : β} {l : List α} {i : Nat} {x : α} (h : l[i]? = some x) : (l.take (i + 1)).foldl f b = f ((l.take i).foldl f b) x := by
  rw [List.take_add_one, h, List.foldl_append]
  rfl
end Fp

namespace Fp
open PySem PySem.Spec PyProof.Rows L2
/-! ### a Hook over addresses of one's own -/
/-- one function object: where it lies, its names, its row, its defaults -/
structure Fn where
  ad : PySem.W.Frag → Addr
  name : Str
  qual : Str
  st : Stmt
  dfl : List He.Dv := []
def Fn.data (K : PySem.W.Frag) (d : Fn) : Option FuncData := match K.lookup (d.ad K) with
  | some o => (match o.data with
    | .func fd => some fd
    | _ => none)
  | none => none
def Fn.dvs (K : PySem.W.Frag) (d : Fn) : List V := d.dfl.map (He.Dv.v K)
def Fn.seen (K : PySem.W.Frag) (d : Fn) : He.FnW := (d.data K).map fun fd => (fd.name, fd.qualname, fd.params, fd.body, fd.scope, fd.globals, fd.closure, fd.builtins)
def Fn.due (d : Fn) : He.FnW := some (d.name, d.qual, defArgs d.st, .stmts (defBody d.st), defScope d.st, mainGlobals, [], builtinsNs)
def Fn.good (K : PySem.W.Frag) (d : Fn) : Bool := PySem.W.keepIn K (.ref (d.ad K)) && (match d.data K with
  | some fd => PySem.W.codeIn K fd.code d.qual && He.dflB K fd.defaults (d.dvs K)
  | none => false)
theorem Fn.data_at {K : PySem.W.Frag} {d : Fn} {fd : FuncData} (h : d.data K = some fd) : ∃ oc od sl, K.lookup (d.ad K) = some ⟨oc, od, .func fd, sl⟩ := by
  unfold Fn.data at h
  cases q : K.lookup (d.ad K) with
  | none => rw [q] at h; cases h
  | some o =>
    rw [q] at h
    obtain ⟨oc, od, dt, sl⟩ := o
    cases dt with
    | func f => cases h; exact ⟨oc, od, sl, rfl⟩
    | _ => cases h
theorem Fn.got {K : PySem.W.Frag} {d : Fn} (e : d.seen K = d.due) (c : d.good K = true) : ∃ fd, FunD K d.name d.qual (defArgs d.st) (defBody d.st) (defScope d.st) (d.dvs K) [] (d.ad K) fd := by
  obtain ⟨kp, c⟩ := Bool.and_eq_true_iff.mp c
  unfold Fn.seen at e
  cases q : d.data K with
  | none => rw [q] at c; cases c
  | some fd =>
    rw [q] at c e
    obtain ⟨c1, c2⟩ := Bool.and_eq_true_iff.mp c
    obtain ⟨oc, od, sl, lk⟩ := Fn.data_at q
    obtain ⟨a1, a2, a3, a4, a5, a6, a7, a8, a9, a10, a11, a12, a13, a14, a15⟩ := fd
    have e := Option.some.inj e
    simp only [Prod.mk.injEq] at e
    obtain ⟨rfl, rfl, rfl, rfl, rfl, rfl, rfl, rfl⟩ := e
    exact ⟨_, ⟨oc, od, a8, a9, a10, a11, a12, a13, a14, sl, rfl, lk, c1, He.dflB_ok c2, .inl rfl⟩, kp⟩
abbrev AlY : Type := Bool × List He.FnW × List (Option (List (Option (Str × Int))))
structure Hd where
  n : Nat
  fa : List He.Fa
  fn : List Fn
  ts : List He.Tab
  ex : PySem.W.Frag → Bool
def Hd.look (h : Hd) (K : PySem.W.Frag) : AlY := ((h.fa.all fun f => f.ok K) && (h.fn.all (Fn.good K) && h.ex K), h.fn.map (Fn.seen K), h.ts.map fun t => He.dicW K (t.1 K))
def Hd.due (h : Hd) (w : World) : AlY := (true, h.fn.map Fn.due, h.ts.map fun t => some (He.keysIn w.params t.2))
def Hd.obs (h : Hd) (g : Addr → Option Obj) : AlY := h.look (He.frG g (He.asD g h.n))
def Hd.hook (h : Hd) : PySem.W.Hook where
  α := AlY
  obs := fun s => h.obs s.heap.get?
  val := fun w => h.due w
  says := fun w hp => ∃ K : PySem.W.Frag, K.In hp ∧ h.look K = h.due w
  of := fun _ _ e => ⟨_, He.frG_in, e⟩
  keeps := fun _ _ _ ⟨K, i, c⟩ k => ⟨K, i.keeps k, c⟩
theorem Hd.obs_eq (h : Hd) (s : PySem.W.SharedT) : h.obs (HandSHeadRun.getT s) = h.hook.obs s.abs := by
  rw [show HandSHeadRun.getT s = s.abs.heap.get? from funext (HandSHeadRun.getT_eq s)]
  rfl
section
variable {h : Hd} {K : PySem.W.Frag} {w : World}
theorem Hd.bools (c : h.look K = h.due w) : (h.fa.all fun f => f.ok K) = true ∧ h.fn.all (Fn.good K) = true ∧ h.ex K = true := by
  have e : ((h.fa.all fun f => f.ok K) && (h.fn.all (Fn.good K) && h.ex K)) = true := congrArg (fun z : AlY => z.1) c
  obtain ⟨e1, e2⟩ := Bool.and_eq_true_iff.mp e
  exact ⟨e1, Bool.and_eq_true_iff.mp e2⟩
theorem Hd.fact (c : h.look K = h.due w) {f : He.Fa} (i : Nat) (hf : h.fa[i]? = some f) : f.ok K = true := List.all_eq_true.mp (Hd.bools c).1 f (List.mem_of_getElem? hf)
theorem Hd.fun_ (c : h.look K = h.due w) {d : Fn} (i : Nat) (hd : h.fn[i]? = some d) : ∃ fd, FunD K d.name d.qual (defArgs d.st) (defBody d.st) (defScope d.st) (d.dvs K) [] (d.ad K) fd := by
  have e : h.fn.map (Fn.seen K) = h.fn.map Fn.due := congrArg (fun z : AlY => z.2.1) c
  have e2 : (h.fn.map (Fn.seen K))[i]? = (h.fn.map Fn.due)[i]? := by rw [e]
  rw [List.getElem?_map, List.getElem?_map, hd] at e2
  exact Fn.got (Option.some.inj e2) (List.all_eq_true.mp (Hd.bools c).2.1 d (List.mem_of_getElem? hd))
theorem Hd.dict (c : h.look K = h.due w) {t : He.Tab} (i : Nat) (ht : h.ts[i]? = some t) : ∃ es n, KDict K w (t.1 K) es n := by
  have e : h.ts.map (fun t => He.dicW K (t.1 K)) = h.ts.map fun t => some (He.keysIn w.params t.2) := congrArg (fun z : AlY => z.2.2) c
  have e2 : (h.ts.map (fun t => He.dicW K (t.1 K)))[i]? = (h.ts.map fun t => some (He.keysIn w.params t.2))[i]? := by rw [e]
  rw [List.getElem?_map, List.getElem?_map, ht] at e2
  exact He.dicW_ok (Option.some.inj e2)
end
/-! ### checks of one's own -/
/-- a tuple of these lies there -/
def tupA (K : PySem.W.Frag) (a : Addr) (vs : List V) : Bool := match K.lookup a with
  | some o => (match o.cls, o.data with
    | .type c, .seq its _ => decide (c = "tuple") && (decide (its.size ≤ sizeLine) && He.relAll vs its.toList)
    | _, _ => false)
  | none => false
theorem tupA_ok {K : PySem.W.Frag} {a : Addr} {vs : List V} (h : tupA K a vs = true) : SqT K (fun _ => none) a vs := by
  unfold tupA at h
  cases q : K.lookup a with
  | none => rw [q] at h; cases h
  | some o =>
    rw [q] at h
    obtain ⟨oc, od, dt, sl⟩ := o
    cases oc with
    | type c =>
      cases dt with
      | seq its n =>
        obtain ⟨h1, h2⟩ := Bool.and_eq_true_iff.mp h
        obtain ⟨h3, h4⟩ := Bool.and_eq_true_iff.mp h2
        exact .inr ⟨_, its, n, q, congrArg Value.type (of_decide_eq_true h1), rfl, of_decide_eq_true h3, He.relAll_ok h4⟩
      | _ => cases h
    | _ => cases h
/-- the object that a table holds at a text -/
def atKey (K : PySem.W.Frag) (d : Addr) (k : Str) : Addr := match PySem.W.nsIn K d k with
  | some (some (.ref a)) => a
  | _ => 0
def atB (K : PySem.W.Frag) (d : Addr) (k : Str) : Bool := He.eqO (PySem.W.nsIn K d k) (some (some (.ref (atKey K d k))))
theorem kdct_of {K : PySem.W.Frag} {w : World} {d : Addr} {k : Str} {es : Array DictEntry} {n : Nat} (D : KDict K w d es n) (h : atB K d k = true) : KDct K w d k (.ref (atKey K d k)) := ⟨es, n, _, D.at_, D.lit, He.eqO_ok h, rfl⟩
/-- a property's getter -/
def getter (C m : Str) (K : PySem.W.Frag) : Addr := match PySem.W.recIn K (He.ma K (He.ga K C) m) "property" with
  | some (.ref g :: _) => g
  | _ => 0
def propB (K : PySem.W.Frag) (C m : Str) : Bool := He.eqO (PySem.W.findIn K (.ref (He.ga K C)) m) (some (some (.ref (He.ma K (He.ga K C) m)))) && (He.eqO (PySem.W.specialIn K (.ref (He.ma K (He.ga K C) m)) "__get__") (some (some (.builtin "property.__get__"))) &&
  (decide (PySem.W.takesIn K (.ref (He.ma K (He.ga K C) m)) = some true) && (match PySem.W.recIn K (He.ma K (He.ga K C) m) "property" with
    | some (.ref _ :: _) => true
    | _ => false)))
theorem propB_ok {K : PySem.W.Frag} {C m : Str} (h : propB K C m = true) : PropOf K (He.ga K C) m (He.ma K (He.ga K C) m) (getter C m K) := by
  obtain ⟨h1, h⟩ := Bool.and_eq_true_iff.mp h
  obtain ⟨h2, h⟩ := Bool.and_eq_true_iff.mp h
  obtain ⟨h3, h⟩ := Bool.and_eq_true_iff.mp h
  refine ⟨He.eqO_ok h1, He.eqO_ok h2, of_decide_eq_true h3, ?_⟩
  unfold getter
  cases q : PySem.W.recIn K (He.ma K (He.ga K C) m) "property" with
  | none => rw [q] at h; cases h
  | some l =>
    rw [q] at h
    cases l with
    | nil => cases h
    | cons v r =>
      cases v with
      | ref g => exact ⟨r, rfl⟩
      | _ => cases h
/-- isinstance of a class's objects -/
def insB (K : PySem.W.Frag) (C : Str) : Bool := He.eqO (PySem.W.findIn K (.ref (He.ga K C)) "__class__") (some (some (.builtin "object.__class__"))) && (He.eqO (PySem.W.specialIn K (.builtin "object.__class__") "__get__") (some (some (.builtin "getset_descriptor.__get__"))) &&
  (decide (PySem.W.takesIn K (.builtin "object.__class__") = some true) && decide (PySem.W.mroIn K (He.ga K C) (.type "object") = some true)))
theorem insB_ok {K : PySem.W.Frag} {C : Str} (h : insB K C = true) : PySem.W.findIn K (.ref (He.ga K C)) "__class__" = some (some (.builtin "object.__class__")) ∧ PySem.W.specialIn K (.builtin "object.__class__") "__get__" = some (some (.builtin "getset_descriptor.__get__")) ∧ PySem.W.takesIn K (.builtin "object.__class__") = some true ∧ PySem.W.mroIn K (He.ga K C) (.type "object") = some true := by
  obtain ⟨h1, h⟩ := Bool.and_eq_true_iff.mp h
  obtain ⟨h2, h⟩ := Bool.and_eq_true_iff.mp h
  obtain ⟨h3, h⟩ := Bool.and_eq_true_iff.mp h
  exact ⟨He.eqO_ok h1, He.eqO_ok h2, of_decide_eq_true h3, of_decide_eq_true h⟩
theorem relAll_strs (K : PySem.W.Frag) (xs : List Str) : (xs.map He.Dv.str).map (He.Dv.v K) = xs.map V.str := by
  rw [List.map_map]
  rfl
def neB (K : PySem.W.Frag) (C : Str) : Bool := He.eqO (PySem.W.findIn K (.ref (He.ga K C)) "__ne__") (some (some (.builtin "object.__ne__"))) && decide (PySem.W.mroIn K (He.ga K C) (.type "object") = some true)
theorem neB_ok {K : PySem.W.Frag} {C : Str} (h : neB K C = true) : OwnNe K (He.ga K C) := by
  obtain ⟨h1, h2⟩ := Bool.and_eq_true_iff.mp h
  exact ⟨He.eqO_ok h1, of_decide_eq_true h2⟩
end Fp

namespace Fp
open PySem L2
def top (i : Nat) : Stmt := PySem.Challenge.pw_foldplans_k03_rule_operators.main.body.getD i (.Pass ⟨0, 0, 0, 0⟩)
abbrev FnP (K : PySem.W.Frag) (x : Str) (st : Stmt) (f : Addr) (fd : FuncData) : Prop := FunD K x x (defArgs st) (defBody st) (defScope st) [] [] f fd
/-- a def of the text that keeps its promise -/
structure Def (P : Program) (w : World) (K : PySem.W.Frag) (mg : Str → Option Value) (base : Heap) (k : Nat) (x : Str) (ps : List Str) (sp : Sp) (f : Addr) (fd : FuncData) : Prop where
  ok : FnOk P w K mg base CX0 k f fd ps sp
  bi : Binds K fd ps []
  kp : PySem.W.keepIn K (.ref f) = true
  mg : mg x = some (.ref f)
structure Tx (w : World) (K : PySem.W.Frag) (mg : Str → Option Value) : Prop where
  b_int : mg "int" = none
  b_len : mg "len" = none
  b_abs : mg "abs" = none
  b_list : mg "list" = none
  b_tuple : mg "tuple" = none
  b_range : mg "range" = none
  b_isinstance : mg "isinstance" = none
  b_min : mg "min" = none
  b_all : mg "all" = none
  g_RULES : mg "RULES" = some (.ref (He.ga K "RULES"))
  g_KINDS : mg "KINDS" = some (.ref (He.ga K "KINDS"))
  g_CLOSED : mg "CLOSED" = some (.ref (He.ga K "CLOSED"))
  g_Rules : mg "Rules" = some (.ref (He.ga K "Rules"))
  t_RULES : SqT K (fun _ => none) (He.ga K "RULES") (nine.map V.str)
  t_KINDS : SqT K (fun _ => none) (He.ga K "KINDS") (kindsN.map V.str)
  d_CLOSED : ∀ k ∈ kindsN, ∃ a, KDct K w (He.ga K "CLOSED") k (.ref a) ∧ SqT K (fun _ => none) a ((closedR k).map V.str)
  c_Rules : Cls K (He.ga K "Rules")
  i_Rules : PySem.W.findIn K (.ref (He.ga K "Rules")) "__class__" = some (some (.builtin "object.__class__")) ∧ PySem.W.specialIn K (.builtin "object.__class__") "__get__" = some (some (.builtin "getset_descriptor.__get__")) ∧ PySem.W.takesIn K (.builtin "object.__class__") = some true ∧ PySem.W.mroIn K (He.ga K "Rules") (.type "object") = some true
  n_held : NoAttr K (He.ga K "Rules") "held"
  ne_Rules : OwnNe K (He.ga K "Rules")
  f_Rules : PySem.W.selfFirst K (He.ga K "Rules") = true
end Fp

namespace Fp
open PySem L2
section
variable {P : Program} {w : World} {K : PySem.W.Frag} {mg : Str → Option Value} {base : Heap}
/-! ### the pen's defs -/
abbrev s_pen : Stmt := top 13
theorem sc_pen : FnScope ["_law_script"] ["_law_script"] (defScope s_pen) := ⟨rfl, rfl, rfl, by decide +kernel, rfl, by decide +kernel, by decide +kernel⟩

abbrev s_draw : Stmt := top 14
theorem sc_draw : FnScope ["_law_pen_here", "_law_span", "_law_digit", "_law_turn", "_law_cell", "_law_mixed"] ["_law_pen_here", "_law_span"] (defScope s_draw) := ⟨rfl, rfl, rfl, by decide +kernel, rfl, by decide +kernel, by decide +kernel⟩

theorem ok_draw {f : Addr} {fd : FuncData} {k : Nat} (F : FnP K "_law_draw" s_draw f fd) (T : Tx w K mg) : FnOk P w K mg base CX0 (k + 1) f fd ["_law_pen_here", "_law_span"] spDraw := by
  refine okN F sc_draw (fun vs H Q E h => ?_) (fun cdv A outer s H E hr => ?_)
  · obtain ⟨M, a, _, _, _, h, _⟩ := h
    exact h.len
  have hu := hu_of hr
  refine ⟨_, (pss_cons (ps_if (pt_cmpR op_gt (pe_dget hu (pv 0) pe_str (fun _ _ => rfl)) pe_int (nomark _)) (pss_cons (ps_set (i := 2) sc_draw.nd rfl (by first | exact Or.inl rfl | exact Or.inr rfl) (pe_op op_mod (pe_callTy call_int1 (by rfl) T.b_int (by decide +kernel) (pa_cons (pe_dget hu (pv 0) pe_str (fun _ _ => rfl)) pa_nil)) (pv 1)))
    (pss_cons (ps_dput hu (pv 0) pe_str (pe_op op_fdiv (pe_dget hu (pv 0) pe_str (fun _ _ => rfl)) (pv 1)) rfl)
    (pss_one (ps_ret (pv 2))))) pss_nil)
    (pss_cons (ps_set (i := 3) sc_draw.nd rfl (by first | exact Or.inl rfl | exact Or.inr rfl) (pe_dget hu (pv 0) pe_str (fun _ _ => rfl)))
    (pss_cons (ps_dput hu (pv 0) pe_str (pe_op op_add (pv 3) pe_int) rfl)
    (pss_cons (ps_set (i := 4) sc_draw.nd rfl (by first | exact Or.inl rfl | exact Or.inr rfl) (pe_op op_add (pe_op op_mul pe_int (pv 3)) pe_int))
    (Evl.pss_cut (ps_if (pt_cmpR (op_neK (K := K) hr.units) (pe_dget hu (pv 0) pe_str (fun _ _ => rfl)) (pe_lst pa_nil) (nomark _)) (pss_one (ps_set (i := 4) sc_draw.nd rfl (by first | exact Or.inl rfl | exact Or.inr rfl) (pe_ix (ix_listK (K := K)) (pe_dget hu (pv 0) pe_str (fun _ _ => rfl)) (pe_op op_mod (pe_callTy call_int1 (by rfl) T.b_int (by decide +kernel) (pa_cons (pv 3) pa_nil)) (pe_callB (call_lenK (K := K)) (by rfl) T.b_len (by decide +kernel) (pa_cons (pe_dget hu (pv 0) pe_str (fun _ _ => rfl)) pa_nil))) (fun _ _ => rfl)))) pss_nil)
    (Evl.pss_cut (ps_if (PW.pt (pw_and (pt_cmpR op_lt (pv 3) (pe_callB (call_lenK (K := K)) (by rfl) T.b_len (by decide +kernel) (pa_cons (pe_dget hu (pv 0) pe_str (fun _ _ => rfl)) pa_nil)) (nomark _)) (pw_and1 (pt_cmpR op_ge (pe_callB call_abs (by rfl) T.b_abs (by decide +kernel) (pa_cons (pv 4) pa_nil)) (pe_op op_pow pe_int pe_int) (nomark _))))) (pss_cons (ps_dput hu (pv 0) pe_str (pe_op op_fdiv (pe_op op_sub (pe_callB call_abs (by rfl) T.b_abs (by decide +kernel) (pa_cons (pv 4) pa_nil)) (pe_op op_pow pe_int pe_int)) (pv 1)) rfl)
    (pss_one (ps_ret (pe_op op_mod (pe_callTy call_int1 (by rfl) T.b_int (by decide +kernel) (pa_cons (pe_op op_sub (pe_callB call_abs (by rfl) T.b_abs (by decide +kernel) (pa_cons (pv 4) pa_nil)) (pe_op op_pow pe_int pe_int)) pa_nil)) (pv 1))))) pss_nil)
    (pss_cons (ps_set (i := 5) sc_draw.nd rfl (by first | exact Or.inl rfl | exact Or.inr rfl) (pe_op op_mul (pe_op op_mod (pe_callTy call_int1 (by rfl) T.b_int (by decide +kernel) (pa_cons (pv 4) pa_nil)) pe_int) pe_int))
    (pss_cons (ps_set (i := 5) sc_draw.nd rfl (by first | exact Or.inl rfl | exact Or.inr rfl) (pe_op op_mod (pe_callTy call_int1 (by rfl) T.b_int (by decide +kernel) (pa_cons (pe_op op_add (pe_op op_add (pv 5) (pe_op op_mul (pv 3) (pe_op op_add (pe_op op_mul (pv 3) pe_int) pe_int))) pe_int) pa_nil)) pe_int))
    (pss_cons (ps_set (i := 5) sc_draw.nd rfl (by first | exact Or.inl rfl | exact Or.inr rfl) (pe_op op_mod (pe_callTy call_int1 (by rfl) T.b_int (by decide +kernel) (pa_cons (pe_op op_mul (pv 5) (pe_op op_add (pv 5) pe_int)) pa_nil)) pe_int))
    (pss_cons (ps_set (i := 5) sc_draw.nd rfl (by first | exact Or.inl rfl | exact Or.inr rfl) (pe_op op_mod (pe_callTy call_int1 (by rfl) T.b_int (by decide +kernel) (pa_cons (pe_op op_add (pe_op op_add (pe_op op_mul (pv 5) (pv 5)) (pe_op op_mul pe_int (pv 5))) (pe_op op_mul pe_int (pv 3))) pa_nil)) pe_int))
    (pss_one (ps_ret (pe_op op_mod (pe_callTy call_int1 (by rfl) T.b_int (by decide +kernel) (pa_cons (pe_op op_fdiv (pe_op op_mod (pe_callTy call_int1 (by rfl) T.b_int (by decide +kernel) (pa_cons (pe_op op_mul (pv 5) (pe_op op_add (pv 5) pe_int)) pa_nil)) pe_int) pe_int) pa_nil)) (pv 1)))))))))))))), fun vs Q h => ?_⟩
  obtain ⟨M, ⟨p, n, N⟩, nd, sub, wf, ar, own, ⟨n0, n1, hN⟩, q⟩ := h
  have n0 : 0 < n := n0
  have n1 : n < 1073741824 := n1
  have hN : N ≤ 1000000000000 := hN
  have hpM : p ∈ M := sub p (List.mem_singleton.mpr rfl)
  obtain ⟨⟨c, ns, t, l, hp, nc, hc, hlen, h0, hT⟩, _⟩ := own
  have hT : t ≤ (N : Int) := hT
  obtain ⟨v1, v2, rfl, e1, e2⟩ : ∃ v1 v2, vs = [v1, v2] ∧ v1 = .ref p ∧ v2 = .int n := by
    match vs, ar with
    | [v1, v2], h => exact ⟨v1, v2, rfl, h.1, h.2.1⟩
  subst e1 e2
  clear ar
  have pc : c ≠ p := ne_of hc hp (by intro z; cases z)
  have small : ∀ {a b d : Int}, (penD c a b).length < sizeLine := by intros; show 3 < sizeLine; decide
  -- the end of every way
  have fin : ∀ (r : Int) (H' : Hp) (t' l' : Int), 0 ≤ r → r < n → Ke [p] H H' → H' p = some (.dK (penD c t' l')) → H' c = some (.lst (ns.map V.int)) → 0 ≤ t' → t' ≤ t + 1 → Q (.int r) H' := fun r H' t' l' r0 r1 k e ec t0 t1 =>
    q _ r [mPen (N + 1)] H' k ⟨⟨c, ns, t', l', e, nc, ec, hlen, t0, by show t' ≤ ((N + 1 : Nat) : Int); omega⟩, trivial⟩ rfl ⟨r0, r1, rfl⟩
  have kp : ∀ {H1 : Hp} {o : HO}, Ke [p] H1 (upd H1 p o) := Ke.mut (List.mem_singleton.mpr rfl)
  -- if left > 0
  refine ⟨_, rfl, p, _, rfl, (by have z := DGet.k (k := kL) hp; rw [pen_left] at z; exact z), l, 0, rfl, rfl, _, rfl, ite2 (fun c1 => ?_) (fun c1 => ?_)⟩
  · refine ⟨_, rfl, p, _, rfl, (by have z := DGet.k (k := kL) hp; rw [pen_left] at z; exact z), .inl ⟨l, rfl, _, rfl, l, n, rfl, rfl, n0, ?_⟩⟩
    refine ⟨_, rfl, p, _, rfl, (by have z := DGet.k (k := kL) hp; rw [pen_left] at z; exact z), _, rfl, l, n, rfl, rfl, ⟨n0, n1⟩, _, rfl, p, _, rfl, DPut.k (k := kL) hp (by show 3 < sizeLine; decide), _, rfl, ?_⟩
    refine fin _ _ t (l / n) (Int.emod_nonneg _ (by omega)) (Int.emod_lt_of_pos _ n0) kp (by rw [upd_same, put_left]) (by rw [upd_ne pc]; exact hc) h0 (by omega)
  -- turn
  refine ⟨_, rfl, p, _, rfl, (by have z := DGet.k (k := kT) hp; rw [pen_turn] at z; exact z), ?_⟩
  refine ⟨_, rfl, t, 1, rfl, rfl, _, rfl, p, _, rfl, DPut.k (k := kT) hp (by show 3 < sizeLine; decide), ?_⟩
  rw [put_turn]
  have hp1 : (upd H p (.dK (penD c (t + 1) l))) p = some (.dK (penD c (t + 1) l)) := upd_same
  have hc1 : (upd H p (.dK (penD c (t + 1) l))) c = some (.lst (ns.map V.int)) := by rw [upd_ne pc]; exact hc
  have k1 : Ke [p] H (upd H p (.dK (penD c (t + 1) l))) := kp
  generalize hH1 : upd H p (.dK (penD c (t + 1) l)) = H1 at hp1 hc1 k1 ⊢
  -- cell
  refine ⟨_, rfl, 61, t, rfl, rfl, .inl ⟨by decide, by decide⟩, _, _, rfl, rfl, ?_⟩
  -- if cells != []; what follows is shown for any cell
  refine Evl.q_cut (M := fun σ' H' => ∃ cell : Int, σ' = [some (.ref p), some (.int n), none, some (.int t), some (.int cell), none] ∧ Ke [p] H H' ∧ H' p = some (.dK (penD c (t + 1) l)) ∧ H' c = some (.lst (ns.map V.int))) ?_ ?_
  · refine ⟨_, rfl, p, _, rfl, (by have z := DGet.k (k := kC) hp1; rw [pen_cells] at z; exact z), (by show 0 ≤ sizeLine; decide), fun e he => ?_⟩
    have hce : c ≠ e := ne_of_none hc1 he
    have hpe : p ≠ e := ne_of_none hp1 he
    have hp2 : (upd H1 e (.lst [])) p = some (.dK (penD c (t + 1) l)) := by rw [upd_ne hpe]; exact hp1
    have hc2 : (upd H1 e (.lst [])) c = some (.lst (ns.map V.int)) := by rw [upd_ne hce]; exact hc1
    have k2 : Ke [p] H (upd H1 e (.lst [])) := k1.trans (Ke.new he)
    refine ⟨_, _, .lst (SqL.of hc2) (dpAll_ints K _ ns), .lst (SqL.of upd_same) .nil, shp_ints ns, shp_ints [], _, rfl, ?_⟩
    refine ite2 (fun c2 => ?_) (fun c2 => ?_)
    · have hns : 0 < ns.length := by
        cases ns with
        | nil => exact absurd c2 (by decide)
        | cons x r => exact Nat.succ_pos _
      obtain ⟨v, hv⟩ := atI_mod (k := t) hns
      have hl : ((ns.map V.int).length : Int) = (ns.length : Int) := by rw [List.length_map]
      refine ⟨_, rfl, p, _, rfl, (by have z := DGet.k (k := kC) hp2; rw [pen_cells] at z; exact z), _, rfl, .inl ⟨t, rfl, _, rfl, p, _, rfl, (by have z := DGet.k (k := kC) hp2; rw [pen_cells] at z; exact z), c, _, rfl, .inl (SqL.of hc2), t, _, rfl, rfl, (by rw [hl]; omega), c, _, _, _, rfl, rfl, SqL.of hc2, (by rw [hl]; exact hv), v, rfl, k2, hp2, hc2⟩⟩
    · exact ⟨_, rfl, k2, hp2, hc2⟩
  rintro σ' H2 ⟨cell, rfl, k2, hp2, hc2⟩
  clear hp1 hc1 k1
  have absC : ∀ i : Int, (if i < 0 then -i else i) = (i.natAbs : Int) := fun i => by omega
  -- if turn < len(cells) and abs(cell) >= 10 ** 18
  refine Evl.q_cut (M := fun σ' H' => σ' = [some (.ref p), some (.int n), none, some (.int t), some (.int cell), none] ∧ H' = H2) ?_ ?_
  · refine ⟨_, rfl, _, rfl, p, _, rfl, (by have z := DGet.k (k := kC) hp2; rw [pen_cells] at z; exact z), c, _, rfl, .inl (SqL.of hc2), t, _, rfl, rfl, _, rfl, ite2 (fun c3 => ?_) (fun c3 => ⟨rfl, rfl⟩)⟩
    refine ⟨_, rfl, cell, rfl, 10, 18, rfl, rfl, ⟨by decide, by decide, by decide⟩, _, _, rfl, rfl, _, rfl, ite2 (fun c4 => ?_) (fun c4 => ⟨rfl, rfl⟩)⟩
    refine ⟨_, rfl, cell, rfl, 10, 18, rfl, rfl, ⟨by decide, by decide, by decide⟩, _, _, rfl, rfl, _, rfl, _, _, rfl, rfl, ⟨n0, n1⟩, _, rfl, p, _, rfl, DPut.k (k := kL) hp2 (by show 3 < sizeLine; decide), ?_⟩
    rw [put_left]
    refine ⟨_, rfl, cell, rfl, 10, 18, rfl, rfl, ⟨by decide, by decide, by decide⟩, _, _, rfl, rfl, .inl ⟨_, rfl, _, rfl, _, _, rfl, rfl, n0, ?_⟩⟩
    exact fin _ _ (t + 1) _ (Int.emod_nonneg _ (by omega)) (Int.emod_lt_of_pos _ n0) (k2.trans kp) upd_same (by rw [upd_ne pc]; exact hc2) (by omega) (by omega)
  rintro σ' H3 ⟨rfl, rfl⟩
  -- the mixing
  refine ⟨_, rfl, .inl ⟨cell, rfl, cell, 4294967087, rfl, rfl, (by show (0 : Int) < 4294967087; decide), _, 48611, rfl, rfl, .inr ⟨by decide, by decide⟩, ?_⟩⟩
  refine ⟨_, rfl, _, rfl, _, rfl, t, 27919, rfl, rfl, .inr ⟨by decide, by decide⟩, _, 10601, rfl, rfl, t, _, rfl, rfl, .inl ⟨by omega, by omega⟩, _, _, rfl, rfl, _, 41, rfl, rfl, .inl ⟨_, rfl, _, 4294967029, rfl, rfl, (by show (0 : Int) < 4294967029; decide), ?_⟩⟩
  dsimp only
  generalize hm2 : (cell % 4294967087 * 48611 + t * (t * 27919 + 10601) + 41) % 4294967029 = m2
  have b2 := Int.emod_nonneg (cell % 4294967087 * 48611 + t * (t * 27919 + 10601) + 41) (show (4294967029 : Int) ≠ 0 by decide)
  have d2 := Int.emod_lt_of_pos (cell % 4294967087 * 48611 + t * (t * 27919 + 10601) + 41) (show (0 : Int) < 4294967029 by decide)
  rw [hm2] at b2 d2
  clear hm2
  refine ⟨_, rfl, _, rfl, m2, 75013, rfl, rfl, m2, _, rfl, rfl, .inl ⟨by omega, by omega⟩, .inl ⟨_, rfl, _, 4294966997, rfl, rfl, (by show (0 : Int) < 4294966997; decide), ?_⟩⟩
  dsimp only
  generalize hm3 : (m2 * (m2 + 75013)) % 4294966997 = m3
  have b3 := Int.emod_nonneg (m2 * (m2 + 75013)) (show (4294966997 : Int) ≠ 0 by decide)
  have d3 := Int.emod_lt_of_pos (m2 * (m2 + 75013)) (show (0 : Int) < 4294966997 by decide)
  rw [hm3] at b3 d3
  clear hm3
  refine ⟨_, rfl, _, rfl, m3, m3, rfl, rfl, .inl ⟨by omega, by omega⟩, _, rfl, 30427, m3, rfl, rfl, .inl ⟨by decide, by decide⟩, _, _, rfl, rfl, _, rfl, 19, t, rfl, rfl, .inl ⟨by decide, by decide⟩, _, _, rfl, rfl, .inl ⟨_, rfl, _, 4294966981, rfl, rfl, (by show (0 : Int) < 4294966981; decide), ?_⟩⟩
  dsimp only
  generalize hm4 : (m3 * m3 + 30427 * m3 + 19 * t) % 4294966981 = m4
  have b4 := Int.emod_nonneg (m3 * m3 + 30427 * m3 + 19 * t) (show (4294966981 : Int) ≠ 0 by decide)
  have d4 := Int.emod_lt_of_pos (m3 * m3 + 30427 * m3 + 19 * t) (show (0 : Int) < 4294966981 by decide)
  rw [hm4] at b4 d4
  clear hm4
  refine ⟨_, rfl, _, rfl, m4, 58111, rfl, rfl, m4, _, rfl, rfl, .inl ⟨by omega, by omega⟩, .inl ⟨_, rfl, _, 4294966943, rfl, rfl, (by show (0 : Int) < 4294966943; decide), _, 64, rfl, rfl, ⟨by decide, by decide⟩, .inl ⟨_, rfl, _, rfl, _, n, rfl, rfl, n0, ?_⟩⟩⟩
  exact fin _ _ (t + 1) l (Int.emod_nonneg _ (by omega)) (Int.emod_lt_of_pos _ n0) k2 hp2 hc2 (by omega) (by omega)
abbrev spPen (K : PySem.W.Frag) : Sp := SpO (A := List Int) (fun ns => [⟨yScr K, ns⟩]) (fun ns => ns.length ≤ 63) (fun _ m => m = mPen 0)
theorem cut63 {α : Type} (f : Int → α) (ns : List Int) (h : ns.length ≤ 63) : cutV (ns.map V.int) none (some 63) = ns.map V.int := by
  unfold cutV
  rw [HT.sIx_none]
  have e : HT.sIx (ns.map V.int).length (ns.map V.int).length (some 63) = min 63 (ns.map V.int).length := HT.sIx_nat _ _ 63
  rw [e, List.drop_zero]
  exact List.take_of_length_le (by rw [List.length_map]; omega)
theorem ok_pen {f : Addr} {fd : FuncData} {k : Nat} (F : FnP K "_law_pen" s_pen f fd) (T : Tx w K mg) : FnOk P w K mg base CX0 (k + 1) f fd ["_law_script"] (spPen K) := by
  refine okN F sc_pen (fun vs H Q E h => ?_) (fun cdv A outer s H E hr => ?_)
  · obtain ⟨M, a, _, h, _⟩ := h
    exact h.len
  have hu := hu_of hr
  refine ⟨_, (pss_one (ps_ret (pe_disp (pps_cons pe_str (pe_callTy (call_listK (K := K)) (by rfl) T.b_list (by decide +kernel) (pa_cons (pe_slice (sl_listK (K := K)) (pv 0) po_none (po_some pe_int)) pa_nil)) (pps_cons pe_str pe_int (pps_cons pe_str pe_int pps_nil))) (by rfl) (by rfl) (fun z => by cases z) (by decide)))), fun vs Q h => ?_⟩
  obtain ⟨M, ns, wf, ar, hl, q⟩ := h
  obtain ⟨v1, rfl, a, rfl, hs⟩ : ∃ v1, vs = [v1] ∧ ∃ a, v1 = .ref a ∧ ∀ H', (Ke M H H' → SqL K H' a (ns.map V.int)) := by
    match vs, ar with
    | [v1], h => exact ⟨v1, rfl, h.1⟩
  intro p hp
  have kp : Ke M H (upd H p (.dK [])) := Ke.new hp
  refine ⟨_, rfl, 63, rfl, a, _, rfl, hs _ kp, fun b hb => ?_⟩
  have hbp : p ≠ b := ne_of_none upd_same hb
  refine ⟨b, _, rfl, .inl (SqL.of upd_same), fun c hc => ?_⟩
  have hcp : p ≠ c := ne_of_none (by rw [upd_ne hbp]; exact upd_same) hc
  refine ⟨by rw [upd_ne hcp, upd_ne hbp, upd_same], [(kC, .ref c), (kT, .int 0), (kL, .int 0)], rfl, (by show 3 ≤ 15; decide), ?_⟩
  have em : mergeK ([] : List (Key × V)) [(kC, .ref c), (kT, .int 0), (kL, .int 0)] = penD c 0 0 := by
    show putK (putK (putK [] kC (.ref c)) kT (.int 0)) kL (.int 0) = _
    rfl
  rw [em]
  have k3 : Ke [] H (upd (upd (upd H p (.dK [])) b (.lst (cutV (ns.map V.int) none (some 63)))) c (.lst (cutV (ns.map V.int) none (some 63)))) := ((Ke.new hp).trans (Ke.new hb)).trans (Ke.new hc)
  have k4 : Ke [] H (upd (upd (upd (upd H p (.dK [])) b (.lst (cutV (ns.map V.int) none (some 63)))) c (.lst (cutV (ns.map V.int) none (some 63)))) p (.dK (penD c 0 0))) := ⟨fun x o _ e => by rw [upd_ne (ne_of_none e hp)]; exact k3.one e, fun x o e => ⟨o, by rw [upd_ne (ne_of_none e hp)]; exact k3.one e⟩⟩
  refine q p (mPen 0) _ hp k4 ⟨c, ns, 0, 0, upd_same, (fun z => ?_), (by rw [upd_ne (Ne.symm hcp), upd_same, cut63 V.int ns hl]), hl, by decide, by decide⟩ rfl
  rcases List.mem_cons.mp z with z | z
  · exact hcp z.symm
  · exact wf.not (((Ke.new hp).trans (Ke.new hb) : Ke [] H _).free hc) z
/-! ### shuffled -/
abbrev s_shuffled : Stmt := top 16
theorem sc_shuffled : FnScope ["_law_pen_here", "_law_items", "_law_left", "_law_found"] ["_law_pen_here", "_law_items"] (defScope s_shuffled) := ⟨rfl, rfl, rfl, by decide +kernel, rfl, by decide +kernel, by decide +kernel⟩

abbrev spShuf (K : PySem.W.Frag) {α : Type} (t : Ty α) (d : α → PyData) : Sp := SpX (A := Addr × List α × Nat) (fun a => [a.1]) (fun a => [⟨yRef, a.1⟩, ⟨yList t, a.2.1⟩]) (fun a => [mPen a.2.2]) (fun a => a.2.1.length ≤ 100000 ∧ a.2.2 ≤ 100000000000 ∧ ∀ x ∈ a.2.1, Shp 60 (d x)) (yList t) (fun a ys ms' => ys.Perm a.2.1 ∧ ms' = [mPen (a.2.2 + a.2.1.length)])
theorem perm_erase {α : Type} : ∀ {l : List α} {i : Nat} (h : i < l.length), (l[i] :: l.eraseIdx i).Perm l
  | [], _, h => by cases h
  | x :: l, 0, _ => List.Perm.refl _
  | x :: l, i + 1, h => by
    have hi : i < l.length := Nat.lt_of_succ_lt_succ h
    have ih := perm_erase (l := l) (i := i) hi
    show (l[i] :: x :: l.eraseIdx i).Perm (x :: l)
    exact (List.Perm.swap x l[i] _).trans (List.Perm.cons x ih)
theorem eqv_nil {α : Type} (d : α → PyData) (xs : List α) : PyData.eqv (.list (xs.map d)) (.list []) = xs.isEmpty := by
  cases xs <;> rfl
theorem ok_shuffled {α : Type} {t : Ty α} {d : α → PyData} (Dt : IsD K t d) {f fD : Addr} {fd fdD : FuncData} (F : FnP K "_law_shuffled" s_shuffled f fd) (T : Tx w K mg) (D_draw : Def P w K mg base 1 "_law_draw" ["_law_pen_here", "_law_span"] spDraw fD fdD) : FnOk P w K mg base CX0 2 f fd ["_law_pen_here", "_law_items"] (spShuf K t d) := by
  refine fnX F sc_shuffled (fun _ => rfl) fun cdv A outer s H E hr => ?_
  have hu := hu_of hr
  refine ⟨_, (pss_cons (ps_par (i := 2) (j := 3) (by rfl) sc_shuffled.nd rfl rfl (by decide) rfl rfl (pa_cons (pe_callTy (call_listK (K := K)) (by rfl) T.b_list (by decide +kernel) (pa_cons (pv 1) pa_nil)) (pa_cons (pe_lst pa_nil) pa_nil)) (by rfl))
    (pss_cons (ps_while PassesOwn.never (pt_cmpR (op_neK (K := K) hr.units) (pv 2) (pe_lst pa_nil) (nomark _))
    (pss_one (ps_expr (toBM (K := K) (pe_bm PySem.F.plainAttrs_list PySem.F.slot_list_append PySem.F.type_list_append mt_append (pv 3) (pa_cons (toBM (K := K) (pe_bm PySem.F.plainAttrs_list PySem.F.slot_list_pop PySem.F.type_list_pop mt_popAt (pv 2) (pa_cons (pe_call D_draw.ok (hr.mono (by decide)) (by rfl) D_draw.mg D_draw.kp D_draw.bi .nil pass0 (pa_cons (pv 0) (pa_cons (pe_callB (call_lenK (K := K)) (by rfl) T.b_len (by decide +kernel) (pa_cons (pv 2) pa_nil)) pa_nil))) pa_nil))) pa_nil))))))
    (pss_one (ps_ret (pv 3))))), fun ⟨p, xs, N⟩ ⟨hl, hN, hsh⟩ => ?_⟩
  have hl : xs.length ≤ 100000 := hl
  have hN : N ≤ 100000000000 := hN
  refine xs_par2 (xo_of (xn_listOf seqL (ve_v rfl) fun a => xo_of (xn_lst (t := t) vi_nil (Nat.zero_le _) fun b => ?_)))
  refine xs_seq (xs_while (fun m s' ms' => ∃ (fo le : List α), m = le.length ∧ s' = [some ⟨yRef, p⟩, some ⟨yList t, xs⟩, some ⟨yRef, a⟩, some ⟨yRef, b⟩] ∧ ms' = [mL t fo, mL t le, mPen (N + fo.length)] ∧ (fo ++ le).Perm xs) xs.length ⟨[], xs, rfl, rfl, rfl, List.Perm.refl _⟩ ?_)
  rintro m s' ms' ⟨fo, le, rfl, rfl, rfl, hp⟩
  have hlen : fo.length + le.length = xs.length := by rw [← List.length_append]; exact hp.length_eq
  have V : Vw ([b, a] ++ [p]) [mL t fo, mL t le, mPen (N + fo.length)] [some ⟨yRef, p⟩, some ⟨yList t, xs⟩, some ⟨yRef, a⟩, some ⟨yRef, b⟩] [some ⟨yRef, p⟩, some ⟨yList t, xs⟩, some ⟨yList t, le⟩, some ⟨yRef, b⟩] := vw_list (i := 2) (j := 1) (t := t) (xs := le) vw_refl rfl rfl rfl
  have hsl : ∀ x ∈ le, Shp 60 (d x) := fun x hx => hsh x (hp.mem_iff.mp (List.mem_append_right _ hx))
  refine xt_view V (vb_test (ve_neD (isD_list Dt) (isD_list Dt) (ve_v rfl) (ve_lst (t := t) vi_nil (Nat.zero_le _)) ((shp_list hsl).shaped (by decide)) ((shp_list (n := 60) (d := d) (xs := []) (by intro x hx; cases hx)).shaped (by decide)) (eqv_nil d le))) ?_
  cases le with
  | nil =>
    show Xs _ _ _ _ _ _ _ _ _ _
    refine xs_retL (i := 0) (ve_v rfl) rfl rfl ⟨?_, ?_⟩
    · rw [List.append_nil] at hp
      exact hp
    · have e : fo.length = xs.length := by simpa using hlen
      rw [e]
      rfl
  | cons z le =>
    show Xs _ _ _ _ _ _ _ _ _ _
    refine xs_dropX (xe_app (i := 0) (ve_v rfl) rfl (xe_popAt (i := 1) (ve_v rfl) rfl rfl (xe_call1 (xa_cons (xe_of (ve_v rfl) (xa_cons (xe_view V (ve_len seqL (ve_v rfl)) (xa_nil ⟨(p, _, _), 2, p, _, rfl, rfl, rfl, rfl, rfl, ?_, ?_⟩))))))) rfl)
    · exact ⟨by show (0 : Int) < ((z :: le).length : Int); rw [List.length_cons]; omega, by show ((z :: le).length : Int) < 1073741824; omega, by show N + fo.length ≤ 1000000000000; omega⟩
    · rintro r m' ⟨r0, r1, em⟩
      have em := (List.cons.inj em).1
      subst em
      have r1 : r < ((z :: le).length : Int) := r1
      have hr : r.toNat < (z :: le).length := by omega
      refine ⟨z :: le, r.toNat, (z :: le)[r.toNat], by omega, by omega, rfl, List.getElem?_eq_getElem hr, fo, rfl, by omega, ((z :: le).eraseIdx r.toNat).length, ?_, fo ++ [(z :: le)[r.toNat]], (z :: le).eraseIdx r.toNat, rfl, rfl, ?_, ?_⟩
      · rw [List.length_eraseIdx_of_lt hr]
        omega
      · show [mL t (fo ++ [(z :: le)[r.toNat]]), mL t ((z :: le).eraseIdx r.toNat), mPen (N + fo.length + 1)] = _
        rw [List.length_append, List.length_singleton, ← Nat.add_assoc]
      · refine List.Perm.trans ?_ hp
        rw [List.append_assoc]
        exact List.Perm.append_left fo (perm_erase hr)
end
end Fp

namespace Fp
open PySem L2
/-! ### the class Rules -/
/-- a set of rules: its rules in order -/
def yRules (K : PySem.W.Frag) (C : Addr) : Ty (List Str) where
  rep := fun M H v xs => ∃ a dx u, v = .ref a ∧ a ∉ M ∧ H a = some (.ins C dx [("held", u)]) ∧ (yTup K yStr).rep M H u xs
  keep := fun k ⟨a, dx, u, e, n, h, p⟩ => ⟨a, dx, u, e, n, k.keep a _ n h, (yTup K yStr).keep k p⟩
  less := fun s ⟨a, dx, u, e, n, h, p⟩ => ⟨a, dx, u, e, fun z => n (s a z), h, (yTup K yStr).less s p⟩
  more := fun f ⟨a, dx, u, e, n, h, p⟩ => ⟨a, dx, u, e, (fun z => by
    rcases List.mem_cons.mp z with z | z
    · rw [z, f] at h; cases h
    · exact n z), h, (yTup K yStr).more f p⟩
theorem insRules {K : PySem.W.Frag} {C : Addr} {m : Str} (h : ¬ m = "held") : InsY C (yRules K C) m := ⟨fun ⟨a, dx, u, e, n, hh, p⟩ => ⟨a, dx, _, e, hh, by rw [List.lookup_cons, beq_eq_false_iff_ne.mpr h]; rfl⟩⟩
theorem fldRules {K : PySem.W.Frag} {C : Addr} : FldY C (yRules K C) "held" (yTup K yStr) (fun xs => xs) := ⟨fun ⟨a, dx, u, e, n, hh, p⟩ => ⟨a, dx, _, u, e, hh, by rw [List.lookup_cons, beq_self_eq_true], p⟩⟩
theorem frzOne {C : Addr} {n : Str} {s : Slot} {M : List Addr} {H : Hp} {a : Addr} (i : (mI C [(n, s)]).I M H a) : ∃ dx u, H a = some (.ins C dx [(n, u)]) ∧ s.t.rep M H u s.x := by
  obtain ⟨dx, gs, h, p⟩ := i
  cases gs with
  | nil => exact p.elim
  | cons g gs =>
    obtain ⟨f, u⟩ := g
    cases gs with
    | nil =>
      obtain ⟨e, r, _⟩ := p
      subst e
      exact ⟨dx, u, h, r⟩
    | cons _ _ => exact p.2.2.elim
theorem frzRules {K : PySem.W.Frag} {C : Addr} {xs : List Str} : ∀ M H a, a ∉ M → (mI C [("held", ⟨yTup K yStr, xs⟩)]).I (a :: M) H a → (yRules K C).rep M H (.ref a) xs := fun M H a n i => by
  obtain ⟨dx, u, h, r⟩ := frzOne i
  exact ⟨a, dx, u, rfl, n, h, (yTup K yStr).less (fun _ z => List.mem_cons_of_mem _ z) r⟩
theorem p2_strs {M : List Addr} {H : Hp} : ∀ xs : List Str, P2 (yStr.rep M H) (xs.map V.str) xs
  | [] => trivial
  | _ :: xs => ⟨rfl, p2_strs xs⟩
section
variable {P : Program} {w : World} {K : PySem.W.Frag} {mg : Str → Option Value} {base : Heap} {ss : SS} {ta : TE} {kd : Str}
theorem ve_RULES (T : Tx w K mg) : Ve (tC (.ref (He.ga K "RULES"))) ss (yTup K yStr) nine := ve_k fun M H => ⟨_, _, rfl, .inr T.t_RULES, p2_strs nine⟩
theorem ve_KINDS (T : Tx w K mg) : Ve (tC (.ref (He.ga K "KINDS"))) ss (yTup K yStr) kindsN := ve_k fun M H => ⟨_, _, rfl, .inr T.t_KINDS, p2_strs kindsN⟩
theorem ve_CLOSED (T : Tx w K mg) (h : Ve ta ss yStr kd) (hk : kd ∈ kindsN) : Ve (tOp (rIxD K w) (tC (.ref (He.ga K "CLOSED"))) ta) ss (yTup K yStr) (closedR kd) :=
  ve_op (t := yRef) (x := (He.ga K "CLOSED")) (ve_k fun _ _ => rfl) h fun M v1 v2 H1 wf r1 r2 Q q => by
    obtain ⟨a, hd, ht⟩ := T.d_CLOSED kd hk
    exact ⟨(He.ga K "CLOSED"), kd, .ref a, r1, r2, hd, q _ H1 Ke.refl ⟨a, _, rfl, .inr ht, p2_strs (closedR kd)⟩⟩
abbrev s_rules_of : Stmt := top 9
theorem sc_rules_of : FnScope ["kind"] ["kind"] (defScope s_rules_of) := ⟨rfl, rfl, rfl, by decide +kernel, rfl, by decide +kernel, by decide +kernel⟩

abbrev spRulesOf : Sp := SpF (A := Str) (fun k => [⟨yStr, k⟩]) (fun k => k ∈ kindsN) (yList yStr) closedR
theorem ok_rules_of {f : Addr} {fd : FuncData} {k : Nat} (F : FnP K "rules_of" s_rules_of f fd) (T : Tx w K mg) : FnOk P w K mg base CX0 (k + 1) f fd ["kind"] spRulesOf := by
  refine fnX F sc_rules_of (fun _ => rfl) fun cdv A outer s H E hr => ?_
  refine ⟨_, (pss_cons (ps_if (pt_cmpR (op_notInK (K := K)) (pv 0) (pe_glob (v := .ref (He.ga K "KINDS")) (by rfl) T.g_KINDS rfl) (by rfl)) (pss_one ps_never) pss_nil)
    (pss_one (ps_ret (pe_callTy (call_listK (K := K)) (by rfl) T.b_list (by decide +kernel) (pa_cons (pe_ix (ix_kdictK (K := K) (w := w)) (pe_glob (v := .ref (He.ga K "CLOSED")) (by rfl) T.g_CLOSED rfl) (pv 0) (fun _ _ => rfl)) pa_nil))))), fun kd hk => ?_⟩
  refine xs_seq (xs_if (vb_test (ve_notin seqT (ve_v rfl) (ve_KINDS T))) (fun h => ?_) (fun _ => xs_next ?_))
  · rw [decide_eq_true hk] at h
    cases h
  · exact xs_ret (ve_listOf seqT (ve_CLOSED T (ve_v rfl) hk)) rfl
abbrev s_kind_of : Stmt := top 10
theorem sc_kind_of : FnScope ["names", "found", "kind", "missing", "name"] ["names"] (defScope s_kind_of) := ⟨rfl, rfl, rfl, by decide +kernel, rfl, by decide +kernel, by decide +kernel⟩

abbrev spKindOf (K : PySem.W.Frag) : Sp := SpF (A := List Str) (fun xs => [⟨yTup K yStr, xs⟩]) (fun xs => xs.length ≤ 1000 ∧ ∀ x ∈ xs, PyData.canLay0 (.str x) = true) yStr kindOf
theorem ok_kind_of {f : Addr} {fd : FuncData} {k : Nat} (F : FnP K "kind_of" s_kind_of f fd) (T : Tx w K mg) : FnOk P w K mg base CX0 (k + 1) f fd ["names"] (spKindOf K) := by
  refine fnX F sc_kind_of (fun _ => rfl) fun cdv A outer s H E hr => ?_
  refine ⟨_, (pss_cons (ps_set (i := 1) sc_kind_of.nd rfl (by first | exact Or.inl rfl | exact Or.inr rfl) pe_str)
    (pss_cons (ps_for PassesOwn.never rfl (pi_tupK (K := K) (pe_glob (v := .ref (He.ga K "KINDS")) (by rfl) T.g_KINDS rfl)) (pg_name (i := 2) sc_kind_of.nd rfl (by first | exact Or.inl rfl | exact Or.inr rfl))
    (pss_cons (ps_setLc (i := 3) (own := [("name", 4)]) rfl sc_kind_of.nd rfl rfl (sw_true rfl rfl rfl (by decide +kernel)) (pi_tupK (K := K) (pv 0)) (blkOk_by (by kernel_rfl)) (fun _ _ _ _ _ => (pg_name (i := 4) sc_kind_of.nd rfl (by first | exact Or.inl rfl | exact Or.inr rfl))) (fun _ _ _ _ _ => (pts_one (pt_cmpR (op_notInK (K := K)) (pv 4) (pe_ix (ix_kdictK (K := K) (w := w)) (pe_glob (v := .ref (He.ga K "CLOSED")) (by rfl) T.g_CLOSED rfl) (pv 2) (fun _ _ => rfl)) (by rfl)))) (fun _ _ _ _ _ => (pv 4)))
    (pss_one (ps_if (PW.pt (pw_and (pt_cmpR (op_eqK (K := K) hr.units) (pv 3) (pe_lst pa_nil) (nomark _)) (pw_and1 (pt_cmpR op_lt (pe_callB (call_lenK (K := K)) (by rfl) T.b_len (by decide +kernel) (pa_cons (pe_ix (ix_kdictK (K := K) (w := w)) (pe_glob (v := .ref (He.ga K "CLOSED")) (by rfl) T.g_CLOSED rfl) (pv 2) (fun _ _ => rfl)) pa_nil)) (pe_callB (call_lenK (K := K)) (by rfl) T.b_len (by decide +kernel) (pa_cons (pe_ix (ix_kdictK (K := K) (w := w)) (pe_glob (v := .ref (He.ga K "CLOSED")) (by rfl) T.g_CLOSED rfl) (pv 1) (fun _ _ => rfl)) pa_nil)) (nomark _))))) (pss_one (ps_set (i := 1) sc_kind_of.nd rfl (by first | exact Or.inl rfl | exact Or.inr rfl) (pv 2))) pss_nil))))
    (pss_one (ps_ret (pv 1))))), fun xs ⟨hl, hok⟩ => ?_⟩
  refine xs_seq (xs_asg ve_str ?_)
  refine xs_seq (xs_forT (tg_name (ws := [2]) List.mem_cons_self) (ve_KINDS T) (fun i s' ms' => ∃ o2 o3 r, r = (kindsN.take i).foldl (kindStep xs) "one" ∧ s' = [some ⟨yTup K yStr, xs⟩, some ⟨yStr, r⟩, o2, o3, none] ∧ ms' = []) ⟨none, none, _, rfl, rfl, rfl⟩ ?_ ?_)
  · rintro i kd s' ms' hkd ⟨o2, o3, r, rfl, rfl, rfl⟩
    have hk : kd ∈ kindsN := List.mem_of_getElem? hkd
    have hf : (kindsN.take i).foldl (kindStep xs) "one" ∈ kindsN := fold_in _ one_in fun k hk => List.mem_of_mem_take hk
    refine xs_seq (xs_asg (ve_lcT (fun n => !decide (n ∈ closedR kd)) (fun n => n) (tg_name (ws := [4]) List.mem_cons_self) (ve_v rfl) (by omega) (fun n hn => vb_test (ve_notin seqT (ve_v rfl) (ve_CLOSED T (ve_v rfl) hk))) fun n hn _ => ve_v rfl) ?_)
    refine xs_if (vb_and (vb_test (ve_eqD (isD_list isD_str) (isD_list isD_str) (ve_v rfl) (ve_lst (t := yStr) vi_nil (Nat.zero_le _)) (shp_strs fun x hx => ?_) rfl (eqv_strs _ []))) fun _ => vb_test (ve_lt (ve_len seqT (ve_CLOSED T (ve_v rfl) hk)) (ve_len seqT (ve_CLOSED T (ve_v rfl) hf)))) (fun h => xs_asg (ve_v rfl) ?_) (fun h => xs_next ?_)
    · rw [List.map_id'] at hx
      exact hok x (List.mem_filter.mp hx).1
    · rw [List.map_id', isEmpty_eq] at h
      have key : (kindsN.take (i + 1)).foldl (kindStep xs) "one" = kd := by
        rw [take_fold hkd]
        exact kstep_pos h
      exact ⟨_, _, _, key.symm, rfl, rfl⟩
    · rw [List.map_id', isEmpty_eq] at h
      have key : (kindsN.take (i + 1)).foldl (kindStep xs) "one" = (kindsN.take i).foldl (kindStep xs) "one" := by
        rw [take_fold hkd]
        exact kstep_neg h
      exact ⟨_, _, _, key.symm, rfl, rfl⟩
  · rintro s' ms' ⟨o2, o3, r, rfl, rfl, rfl⟩
    rw [List.take_length]
    exact xs_ret (ve_v rfl) rfl
/-! ### Rules.__init__ and the methods -/
abbrev s_Rules_init : Stmt := inClass (top 11) 0
theorem sc_Rules_init : FnScope ["self", "names", "name", "rule"] ["self", "names"] (defScope s_Rules_init) := ⟨rfl, rfl, rfl, by decide +kernel, rfl, by decide +kernel, by decide +kernel⟩

abbrev spRInit (K : PySem.W.Frag) (C : Addr) : Sp := SpX (A := Addr × List Str) (fun a => [a.1]) (fun a => [⟨yRef, a.1⟩, ⟨yList yStr, a.2⟩]) (fun _ => [mI C []]) (fun a => a.2.length ≤ 1000 ∧ ∀ x ∈ a.2, x ∈ nine) yNon (fun a _ ms' => ms' = [mI C [("held", ⟨yTup K yStr, held a.2⟩)]])
theorem ok_R_init {f : Addr} {fd : FuncData} {k : Nat} {dv : List V} (F : FunD K "__init__" "Rules.__init__" (defArgs s_Rules_init) (defBody s_Rules_init) (defScope s_Rules_init) dv [] f fd) (T : Tx w K mg) : FnOk P w K mg base CX0 (k + 1) f fd ["self", "names"] (spRInit K (He.ga K "Rules")) := by
  refine fnX F sc_Rules_init (fun _ => rfl) fun cdv A outer s H E hr => ?_
  refine ⟨_, (pss_cons (ps_for PassesOwn.never rfl (pi_listK (K := K) (pv 1)) (pg_name (i := 2) sc_Rules_init.nd rfl (by first | exact Or.inl rfl | exact Or.inr rfl))
    (pss_one (ps_if (pt_cmpR (op_notInK (K := K)) (pv 2) (pe_glob (v := .ref (He.ga K "RULES")) (by rfl) T.g_RULES rfl) (by rfl)) (pss_one ps_never) pss_nil)))
    (pss_one (ps_fld (pv 0) (pe_callTy (call_tupleK (K := K)) (by rfl) T.b_tuple (by decide +kernel) (pa_cons (pe_lc (own := [("rule", 3)]) rfl sc_Rules_init.nd (pi_tupK (K := K) (pe_glob (v := .ref (He.ga K "RULES")) (by rfl) T.g_RULES rfl)) (blkOk_by (by kernel_rfl)) (fun _ _ _ _ _ => (pg_name (i := 3) sc_Rules_init.nd rfl (by first | exact Or.inl rfl | exact Or.inr rfl))) (fun _ _ _ _ _ => (pts_one (pt_cmpR (op_inK (K := K)) (pv 3) (pv 1) (by rfl)))) (fun _ _ _ _ _ => (pv 3))) pa_nil)) rfl))), fun ⟨o, xs⟩ ⟨hl, hx⟩ => ?_⟩
  have hl : xs.length ≤ 1000 := hl
  have hx : ∀ x ∈ xs, x ∈ nine := hx
  refine xs_seq (xs_forL (tg_name (ws := [2]) List.mem_cons_self) (ve_v rfl) (fun i s' ms' => ∃ o2, s' = [some ⟨yRef, o⟩, some ⟨yList yStr, xs⟩, o2, none] ∧ ms' = [mI (He.ga K "Rules") []]) ⟨none, rfl, rfl⟩ ?_ ?_)
  · rintro i x s' ms' hi ⟨o2, rfl, rfl⟩
    have hm := hx x (List.mem_of_getElem? hi)
    refine xs_if (vb_test (ve_notin seqT (ve_v rfl) (ve_RULES T))) (fun h => ?_) (fun _ => xs_next ⟨_, rfl, rfl⟩)
    rw [decide_eq_true hm] at h
    cases h
  · rintro s' ms' ⟨o2, rfl, rfl⟩
    refine xs_fld (i := 0) (a := o) T.c_Rules T.n_held (ve_v rfl) rfl (xe_of (ve_tupleOf (ve_lcT (fun r => decide (r ∈ xs)) (fun r => r) (tg_name (ws := [3]) List.mem_cons_self) (ve_RULES T) (by decide) (fun r hr => vb_test (ve_in seqL (ve_v rfl) (ve_v rfl))) fun r hr _ => ve_v rfl)) ⟨[], rfl, by decide, (), fun _ _ => rfl, ?_⟩)
    rw [List.map_id']
    rfl
abbrev s_Rules_kind : Stmt := inClass (top 11) 3
theorem sc_Rules_kind : FnScope ["self"] ["self"] (defScope s_Rules_kind) := ⟨rfl, rfl, rfl, by decide +kernel, rfl, by decide +kernel, by decide +kernel⟩

abbrev spRKind (K : PySem.W.Frag) (C : Addr) : Sp := SpF (A := List Str) (fun xs => [⟨yRules K C, xs⟩]) (fun xs => xs.length ≤ 1000 ∧ ∀ x ∈ xs, x ∈ nine) yStr kindOf
theorem ok_R_kind {f fK : Addr} {fd fdK : FuncData} (F : FunD K "kind" "Rules.kind" (defArgs s_Rules_kind) (defBody s_Rules_kind) (defScope s_Rules_kind) [] [] f fd) (T : Tx w K mg) (D_kind_of : Def P w K mg base 1 "kind_of" ["names"] (spKindOf K) fK fdK) : FnOk P w K mg base CX0 2 f fd ["self"] (spRKind K (He.ga K "Rules")) := by
  refine fnX F sc_Rules_kind (fun _ => rfl) fun cdv A outer s H E hr => ?_
  refine ⟨_, (pss_one (ps_ret (pe_call D_kind_of.ok (hr.mono (by decide)) (by rfl) D_kind_of.mg D_kind_of.kp D_kind_of.bi .nil pass0 (pa_cons (pe_fldK (K := K) (pv 0) rfl) pa_nil)))), fun xs ⟨hl, hx⟩ => ?_⟩
  exact xs_ret (ve_call xs (vs_cons (ve_fld fldRules T.c_Rules T.n_held (ve_v rfl)) vs_nil) ⟨hl, fun x h => nine_ok x (hx x h)⟩) rfl
abbrev s_Rules_listed : Stmt := inClass (top 11) 4
theorem sc_Rules_listed : FnScope ["self"] ["self"] (defScope s_Rules_listed) := ⟨rfl, rfl, rfl, by decide +kernel, rfl, by decide +kernel, by decide +kernel⟩

abbrev spRListed (K : PySem.W.Frag) (C : Addr) : Sp := SpF (A := List Str) (fun xs => [⟨yRules K C, xs⟩]) (fun _ => True) (yList yStr) (fun xs => xs)
theorem ok_R_listed {f : Addr} {fd : FuncData} {k : Nat} (F : FunD K "listed" "Rules.listed" (defArgs s_Rules_listed) (defBody s_Rules_listed) (defScope s_Rules_listed) [] [] f fd) (T : Tx w K mg) : FnOk P w K mg base CX0 (k + 1) f fd ["self"] (spRListed K (He.ga K "Rules")) := by
  refine fnX F sc_Rules_listed (fun _ => rfl) fun cdv A outer s H E hr => ?_
  refine ⟨_, (pss_one (ps_ret (pe_callTy (call_listK (K := K)) (by rfl) T.b_list (by decide +kernel) (pa_cons (pe_fldK (K := K) (pv 0) rfl) pa_nil)))), fun xs _ => ?_⟩
  exact xs_ret (ve_listOf seqT (ve_fld fldRules T.c_Rules T.n_held (ve_v rfl))) rfl
/-- Rules(names) as a datum -/
theorem ve_Rules {E' : XK} {xs : List Str} {te : TE} (h : Ve te ss (yList yStr) xs) (hl : xs.length ≤ 1000) (hx : ∀ x ∈ xs, x ∈ nine) : Ve (tMake (He.ga K "Rules") (spRInit K (He.ga K "Rules")) [] E' (tCons te tNil)) ss (yRules K (He.ga K "Rules")) (held xs) :=
  ve_frz' (xo_make (xa_of (vs_cons h vs_nil) ⟨fun o => (o, xs), fun _ => rfl, fun _ => rfl, fun _ => rfl, fun _ => ⟨hl, hx⟩, fun o m' e => by
    have e := (List.cons.inj e).1
    subst e
    exact frzRules⟩))
structure DefI (P : Program) (w : World) (K : PySem.W.Frag) (mg : Str → Option Value) (base : Heap) (k : Nat) (C : Addr) (ps : List Str) (sp : Sp) (f : Addr) (fd : FuncData) : Prop where
  ok : FnOk P w K mg base CX0 k f fd ps sp
  bi : Binds K fd ps []
  mkr : Mk K C f
  df : Vals [] []
structure DefM (P : Program) (w : World) (K : PySem.W.Frag) (mg : Str → Option Value) (base : Heap) (k : Nat) (C : Addr) (m : Str) (ps : List Str) (sp : Sp) (f : Addr) (fd : FuncData) : Prop where
  ok : FnOk P w K mg base CX0 k f fd ps sp
  bi : Binds K fd ps []
  me : Meth K C m f
theorem DefM.ow {k : Nat} {C : Addr} {m : Str} {ps : List Str} {sp : Sp} {f : Addr} {fd : FuncData} (D : DefM P w K mg base k C m ps sp f fd) : OwnM K C m f := ⟨D.me.at_, D.me.fn⟩
structure DefP (P : Program) (w : World) (K : PySem.W.Frag) (mg : Str → Option Value) (base : Heap) (k : Nat) (C : Addr) (m : Str) (ps : List Str) (sp : Sp) (q f : Addr) (fd : FuncData) : Prop where
  ok : FnOk P w K mg base CX0 k f fd ps sp
  bi : Binds K fd ps []
  pr : PropOf K C m q f
abbrev s_Rules_closed : Stmt := inClass (top 11) 5
theorem sc_Rules_closed : FnScope ["self"] ["self"] (defScope s_Rules_closed) := ⟨rfl, rfl, rfl, by decide +kernel, rfl, by decide +kernel, by decide +kernel⟩

theorem held_of_sub {xs : List Str} : held xs = nine.filter fun r => decide (r ∈ xs) := rfl
abbrev spRClosed (K : PySem.W.Frag) (C : Addr) : Sp := SpF (A := List Str) (fun xs => [⟨yRules K C, xs⟩]) (fun xs => xs.length ≤ 1000 ∧ ∀ x ∈ xs, x ∈ nine) (yRules K C) (fun xs => held (closedR (kindOf xs)))
theorem ok_R_closed {f fK fR fI : Addr} {fd fdK fdR fdI : FuncData} (F : FunD K "closed" "Rules.closed" (defArgs s_Rules_closed) (defBody s_Rules_closed) (defScope s_Rules_closed) [] [] f fd) (T : Tx w K mg) (D_kind_of : Def P w K mg base 1 "kind_of" ["names"] (spKindOf K) fK fdK)
    (D_rules_of : Def P w K mg base 1 "rules_of" ["kind"] spRulesOf fR fdR) (D_Rules_init : DefI P w K mg base 1 (He.ga K "Rules") ["self", "names"] (spRInit K (He.ga K "Rules")) fI fdI) : FnOk P w K mg base CX0 3 f fd ["self"] (spRClosed K (He.ga K "Rules")) := by
  refine fnX F sc_Rules_closed (fun _ => rfl) fun cdv A outer s H E hr => ?_
  refine ⟨_, (pss_one (ps_ret (pe_make D_Rules_init.mkr D_Rules_init.ok (hr.mono (by decide)) (by rfl) T.g_Rules D_Rules_init.bi D_Rules_init.df pass0 (pa_cons (pe_call D_rules_of.ok (hr.mono (by decide)) (by rfl) D_rules_of.mg D_rules_of.kp D_rules_of.bi .nil pass0 (pa_cons (pe_call D_kind_of.ok (hr.mono (by decide)) (by rfl) D_kind_of.mg D_kind_of.kp D_kind_of.bi .nil pass0 (pa_cons (pe_fldK (K := K) (pv 0) rfl) pa_nil)) pa_nil)) pa_nil)))), fun xs ⟨hl, hx⟩ => ?_⟩
  have hk := kindOf_in xs
  exact xs_ret (ve_Rules (ve_call (kindOf xs) (vs_cons (ve_call xs (vs_cons (ve_fld fldRules T.c_Rules T.n_held (ve_v rfl)) vs_nil) ⟨hl, fun x h => nine_ok x (hx x h)⟩) vs_nil) hk) (Nat.le_trans (closed_len _ hk) (by decide)) (closed_nine _ hk)) rfl
abbrev s_Rules_contains : Stmt := inClass (top 11) 7
theorem sc_Rules_contains : FnScope ["self", "x"] ["self", "x"] (defScope s_Rules_contains) := ⟨rfl, rfl, rfl, by decide +kernel, rfl, by decide +kernel, by decide +kernel⟩

abbrev spRContains (K : PySem.W.Frag) (C : Addr) : Sp := SpF (A := List Str × Str) (fun a => [⟨yRules K C, a.1⟩, ⟨yStr, a.2⟩]) (fun a => a.1.length ≤ 1000 ∧ ∀ x ∈ a.1, x ∈ nine) yBool (fun a => decide (a.2 ∈ closedR (kindOf a.1)))
theorem ok_R_contains {f fK fR : Addr} {fd fdK fdR : FuncData} (F : FunD K "__contains__" "Rules.__contains__" (defArgs s_Rules_contains) (defBody s_Rules_contains) (defScope s_Rules_contains) [] [] f fd) (T : Tx w K mg) (D_kind_of : Def P w K mg base 1 "kind_of" ["names"] (spKindOf K) fK fdK)
    (D_rules_of : Def P w K mg base 1 "rules_of" ["kind"] spRulesOf fR fdR) : FnOk P w K mg base CX0 2 f fd ["self", "x"] (spRContains K (He.ga K "Rules")) := by
  refine fnX F sc_Rules_contains (fun _ => rfl) fun cdv A outer s H E hr => ?_
  refine ⟨_, (pss_one (ps_ret (pe_cmpR (op_inK (K := K)) (pv 1) (pe_call D_rules_of.ok (hr.mono (by decide)) (by rfl) D_rules_of.mg D_rules_of.kp D_rules_of.bi .nil pass0 (pa_cons (pe_call D_kind_of.ok (hr.mono (by decide)) (by rfl) D_kind_of.mg D_kind_of.kp D_kind_of.bi .nil pass0 (pa_cons (pe_fldK (K := K) (pv 0) rfl) pa_nil)) pa_nil)) (by rfl)))), fun ⟨xs, y⟩ ⟨hl, hx⟩ => ?_⟩
  exact xs_ret (ve_in seqL (ve_v rfl) (ve_call (kindOf xs) (vs_cons (ve_call xs (vs_cons (ve_fld fldRules T.c_Rules T.n_held (ve_v rfl)) vs_nil) ⟨hl, fun x h => nine_ok x (hx x h)⟩) vs_nil) (kindOf_in xs))) rfl
abbrev s_Rules_eq : Stmt := inClass (top 11) 18
theorem sc_Rules_eq : FnScope ["self", "other"] ["self", "other"] (defScope s_Rules_eq) := ⟨rfl, rfl, rfl, by decide +kernel, rfl, by decide +kernel, by decide +kernel⟩

abbrev spREq (K : PySem.W.Frag) (C : Addr) : Sp := SpF (A := List Str × List Str) (fun a => [⟨yRules K C, a.1⟩, ⟨yRules K C, a.2⟩]) (fun a => (∀ x ∈ a.1, x ∈ nine) ∧ ∀ x ∈ a.2, x ∈ nine) yBool (fun a => decide (a.1 = a.2))
theorem kit_self (K : PySem.W.Frag) (C : Addr) : PySem.W.kitOne K (.ref C) (.ref C) = some true := by
  unfold PySem.W.kitOne
  rw [if_pos (beq_self_eq_true _)]
theorem ve_isRules (T : Tx w K mg) {xs : List Str} (h : Ve ta ss (yRules K (He.ga K "Rules")) xs) : Ve (tCB (rIsi K) (tCons ta (tCons (tC (.ref (He.ga K "Rules"))) tNil))) ss yBool true := fun M σ H En wf H1 k Q q =>
  h M σ H En wf H1 k _ fun v H2 k2 r => by
    obtain ⟨a, dx, u, rfl, n, hi, _⟩ := r
    exact ⟨_, _, _, _, true, rfl, .own _, .base (.ins hi T.c_Rules T.i_Rules.1 T.i_Rules.2.1 T.i_Rules.2.2.1 T.i_Rules.2.2.2), kit_self _ _, q _ H2 k2 rfl⟩
theorem ok_R_eq {f : Addr} {fd : FuncData} {k : Nat} (F : FunD K "__eq__" "Rules.__eq__" (defArgs s_Rules_eq) (defBody s_Rules_eq) (defScope s_Rules_eq) [] [] f fd) (T : Tx w K mg) : FnOk P w K mg base CX0 (k + 1) f fd ["self", "other"] (spREq K (He.ga K "Rules")) := by
  refine fnX F sc_Rules_eq (fun _ => rfl) fun cdv A outer s H E hr => ?_
  refine ⟨_, (pss_one (ps_ret (pe_and (pe_callB (call_isiX (K := K)) (by rfl) T.b_isinstance (by decide +kernel) (pa_cons (pv 1) (pa_cons (pe_glob (v := .ref (He.ga K "Rules")) (by rfl) T.g_Rules rfl) pa_nil))) (pe_one (pe_cmpR (op_eqK (K := K) hr.units) (pe_fldK (K := K) (pv 0) rfl) (pe_fldK (K := K) (pv 1) rfl) (nomark _)))))), fun ⟨xs, ys⟩ ⟨hx, hy⟩ => ?_⟩
  refine xs_ret (ve_and (ve_isRules T (ve_v rfl)) fun _ => ve_eqD (isD_tup isD_str) (isD_tup isD_str) (ve_fld fldRules T.c_Rules T.n_held (ve_v rfl)) (ve_fld fldRules T.c_Rules T.n_held (ve_v rfl)) (shp_strsT fun x h => nine_ok x (hx x h)) (shp_strsT fun x h => nine_ok x (hy x h)) (eqv_strsT xs ys)) ?_
  exact Bool.true_and _
end
end Fp

namespace Fp
open PySem L2
/-! ### more of the class Rules: implies and the operators -/
abbrev RB (xs : List Str) : Prop := xs.length ≤ 1000 ∧ ∀ x ∈ xs, x ∈ nine
def impl (xs ys : List Str) : Bool := (ys.map fun n => decide (n ∈ closedR (kindOf xs))).all id
theorem held_len (xs : List Str) : (held xs).length ≤ 9 := List.length_filter_le _ _
theorem held_rb (xs : List Str) : RB (held xs) := ⟨Nat.le_trans (held_len xs) (by decide), held_sub xs⟩
section
variable {P : Program} {w : World} {K : PySem.W.Frag} {mg : Str → Option Value} {base : Heap} {ss : SS} {ta : TE}
abbrev spRInitT (K : PySem.W.Frag) (C : Addr) : Sp := SpX (A := Addr × List Str) (fun a => [a.1]) (fun a => [⟨yRef, a.1⟩, ⟨yTup K yStr, a.2⟩]) (fun _ => [mI C []]) (fun a => ∀ x ∈ a.2, x ∈ nine) yNon (fun a _ ms' => ms' = [mI C [("held", ⟨yTup K yStr, held a.2⟩)]])
theorem ok_R_initT {f : Addr} {fd : FuncData} {k : Nat} {dv : List V} (F : FunD K "__init__" "Rules.__init__" (defArgs s_Rules_init) (defBody s_Rules_init) (defScope s_Rules_init) dv [] f fd) (T : Tx w K mg) : FnOk P w K mg base CX0 (k + 1) f fd ["self", "names"] (spRInitT K (He.ga K "Rules")) := by
  refine fnX F sc_Rules_init (fun _ => rfl) fun cdv A outer s H E hr => ?_
  refine ⟨_, (pss_cons (ps_for PassesOwn.never rfl (pi_tupK (K := K) (pv 1)) (pg_name (i := 2) sc_Rules_init.nd rfl (by first | exact Or.inl rfl | exact Or.inr rfl))
    (pss_one (ps_if (pt_cmpR (op_notInK (K := K)) (pv 2) (pe_glob (v := .ref (He.ga K "RULES")) (by rfl) T.g_RULES rfl) (by rfl)) (pss_one ps_never) pss_nil)))
    (pss_one (ps_fld (pv 0) (pe_callTy (call_tupleK (K := K)) (by rfl) T.b_tuple (by decide +kernel) (pa_cons (pe_lc (own := [("rule", 3)]) rfl sc_Rules_init.nd (pi_tupK (K := K) (pe_glob (v := .ref (He.ga K "RULES")) (by rfl) T.g_RULES rfl)) (blkOk_by (by kernel_rfl)) (fun _ _ _ _ _ => (pg_name (i := 3) sc_Rules_init.nd rfl (by first | exact Or.inl rfl | exact Or.inr rfl))) (fun _ _ _ _ _ => (pts_one (pt_cmpR (op_inK (K := K)) (pv 3) (pv 1) (by rfl)))) (fun _ _ _ _ _ => (pv 3))) pa_nil)) rfl))), fun ⟨o, xs⟩ hx => ?_⟩
  have hx : ∀ x ∈ xs, x ∈ nine := hx
  refine xs_seq (xs_forT (tg_name (ws := [2]) List.mem_cons_self) (ve_v rfl) (fun i s' ms' => ∃ o2, s' = [some ⟨yRef, o⟩, some ⟨yTup K yStr, xs⟩, o2, none] ∧ ms' = [mI (He.ga K "Rules") []]) ⟨none, rfl, rfl⟩ ?_ ?_)
  · rintro i x s' ms' hi ⟨o2, rfl, rfl⟩
    have hm := hx x (List.mem_of_getElem? hi)
    refine xs_if (vb_test (ve_notin seqT (ve_v rfl) (ve_RULES T))) (fun h => ?_) (fun _ => xs_next ⟨_, rfl, rfl⟩)
    rw [decide_eq_true hm] at h
    cases h
  · rintro s' ms' ⟨o2, rfl, rfl⟩
    refine xs_fld (i := 0) (a := o) T.c_Rules T.n_held (ve_v rfl) rfl (xe_of (ve_tupleOf (ve_lcT (fun r => decide (r ∈ xs)) (fun r => r) (tg_name (ws := [3]) List.mem_cons_self) (ve_RULES T) (by decide) (fun r hr => vb_test (ve_in seqT (ve_v rfl) (ve_v rfl))) fun r hr _ => ve_v rfl)) ⟨[], rfl, by decide, (), fun _ _ => rfl, ?_⟩)
    rw [List.map_id']
    rfl
theorem ve_RulesT {E' : XK} {xs : List Str} {te : TE} (h : Ve te ss (yTup K yStr) xs) (hx : ∀ x ∈ xs, x ∈ nine) : Ve (tMake (He.ga K "Rules") (spRInitT K (He.ga K "Rules")) [] E' (tCons te tNil)) ss (yRules K (He.ga K "Rules")) (held xs) :=
  ve_frz' (xo_make (xa_of (vs_cons h vs_nil) ⟨fun o => (o, xs), fun _ => rfl, fun _ => rfl, fun _ => rfl, fun _ => hx, fun o m' e => by
    have e := (List.cons.inj e).1
    subst e
    exact frzRules⟩))
abbrev sl2 (K : PySem.W.Frag) (C : Addr) : List Str × List Str → List Slot := fun a => [⟨yRules K C, a.1⟩, ⟨yRules K C, a.2⟩]
abbrev RB2 : List Str × List Str → Prop := fun a => RB a.1 ∧ RB a.2
abbrev spR2 (K : PySem.W.Frag) (C : Addr) (f : List Str × List Str → List Str) : Sp := SpF (A := List Str × List Str) (sl2 K C) RB2 (yRules K C) f
abbrev spR2b (K : PySem.W.Frag) (C : Addr) (f : List Str × List Str → Bool) : Sp := SpF (A := List Str × List Str) (sl2 K C) RB2 yBool f
abbrev FnM (K : PySem.W.Frag) (m q : Str) (st : Stmt) (f : Addr) (fd : FuncData) : Prop := FunD K m q (defArgs st) (defBody st) (defScope st) [] [] f fd
abbrev s_Rules_implies : Stmt := inClass (top 11) 6
theorem sc_Rules_implies : FnScope ["self", "other", "known", "name"] ["self", "other"] (defScope s_Rules_implies) := ⟨rfl, rfl, rfl, by decide +kernel, rfl, by decide +kernel, by decide +kernel⟩

theorem ok_R_implies {f fK fR : Addr} {fd fdK fdR : FuncData} (F : FnM K "implies" "Rules.implies" s_Rules_implies f fd) (T : Tx w K mg) (D_kind_of : Def P w K mg base 1 "kind_of" ["names"] (spKindOf K) fK fdK)
    (D_rules_of : Def P w K mg base 1 "rules_of" ["kind"] spRulesOf fR fdR) : FnOk P w K mg base CX0 2 f fd ["self", "other"] (spR2b K (He.ga K "Rules") fun a => impl a.1 a.2) := by
  refine fnX F sc_Rules_implies (fun _ => rfl) fun cdv A outer s H E hr => ?_
  refine ⟨_, (pss_cons (ps_set (i := 2) sc_Rules_implies.nd rfl (by first | exact Or.inl rfl | exact Or.inr rfl) (pe_call D_rules_of.ok (hr.mono (by decide)) (by rfl) D_rules_of.mg D_rules_of.kp D_rules_of.bi .nil pass0 (pa_cons (pe_call D_kind_of.ok (hr.mono (by decide)) (by rfl) D_kind_of.mg D_kind_of.kp D_kind_of.bi .nil pass0 (pa_cons (pe_fldK (K := K) (pv 0) rfl) pa_nil)) pa_nil)))
    (pss_one (ps_ret (pe_callB (call_allK (K := K) rfl) (by rfl) T.b_all (by decide +kernel) (pa_cons (pe_lc (own := [("name", 3)]) rfl sc_Rules_implies.nd (pi_tupK (K := K) (pe_fldK (K := K) (pv 1) rfl)) (blkOk_by (by kernel_rfl)) (fun _ _ _ _ _ => (pg_name (i := 3) sc_Rules_implies.nd rfl (by first | exact Or.inl rfl | exact Or.inr rfl))) (fun _ _ _ _ _ => pts_nil) (fun _ _ _ _ _ => (pe_cmpR (op_inK (K := K)) (pv 3) (pv 2) (by rfl)))) pa_nil))))), fun ⟨xs, ys⟩ ⟨⟨hl, hx⟩, hy⟩ => ?_⟩
  have hl : xs.length ≤ 1000 := hl
  have hx : ∀ x ∈ xs, x ∈ nine := hx
  have hy : RB ys := hy
  refine xs_seq (xs_asg (ve_call (kindOf xs) (vs_cons (ve_call xs (vs_cons (ve_fld fldRules T.c_Rules T.n_held (ve_v rfl)) vs_nil) ⟨hl, fun x h => nine_ok x (hx x h)⟩) vs_nil) (kindOf_in xs)) ?_)
  refine xs_ret (ve_all (ve_lcT (fun _ => true) (fun n => decide (n ∈ closedR (kindOf xs))) (tg_name (ws := [3]) List.mem_cons_self) (ve_fld fldRules T.c_Rules T.n_held (ve_v rfl)) (Nat.le_trans hy.1 (by decide)) (fun n hn => vb_yes) fun n hn _ => ve_in seqL (ve_v rfl) (ve_v rfl))) ?_
  show (List.map (fun n => decide (n ∈ closedR (kindOf xs))) (ys.filter fun _ => true)).all id = impl xs ys
  rw [List.filter_eq_self.mpr fun _ _ => rfl]
  rfl
section
variable {f fI : Addr} {fd fdI : FuncData}
abbrev s_Rules_or : Stmt := inClass (top 11) 10
theorem sc_Rules_or : FnScope ["self", "other"] ["self", "other"] (defScope s_Rules_or) := ⟨rfl, rfl, rfl, by decide +kernel, rfl, by decide +kernel, by decide +kernel⟩

theorem ok_R_or (F : FnM K "__or__" "Rules.__or__" s_Rules_or f fd) (T : Tx w K mg) (D_Rules_init : DefI P w K mg base 1 (He.ga K "Rules") ["self", "names"] (spRInitT K (He.ga K "Rules")) fI fdI) : FnOk P w K mg base CX0 3 f fd ["self", "other"] (spR2 K (He.ga K "Rules") fun a => held (a.1 ++ a.2)) := by
  refine fnX F sc_Rules_or (fun _ => rfl) fun cdv A outer s H E hr => ?_
  refine ⟨_, (pss_one (ps_ret (pe_make D_Rules_init.mkr D_Rules_init.ok (hr.mono (by decide)) (by rfl) T.g_Rules D_Rules_init.bi D_Rules_init.df pass0 (pa_cons (pe_op (op_catTK (K := K)) (pe_fldK (K := K) (pv 0) rfl) (pe_fldK (K := K) (pv 1) rfl)) pa_nil)))), fun ⟨xs, ys⟩ ⟨hx, hy⟩ => ?_⟩
  have hx : RB xs := hx
  have hy : RB ys := hy
  exact xs_ret (ve_RulesT (ve_catT (ve_fld fldRules T.c_Rules T.n_held (ve_v rfl)) (ve_fld fldRules T.c_Rules T.n_held (ve_v rfl)) (by omega)) fun x h => (List.mem_append.mp h).elim (hx.2 x) (hy.2 x)) rfl
abbrev s_Rules_and : Stmt := inClass (top 11) 11
theorem sc_Rules_and : FnScope ["self", "other", "name"] ["self", "other"] (defScope s_Rules_and) := ⟨rfl, rfl, rfl, by decide +kernel, rfl, by decide +kernel, by decide +kernel⟩

theorem ok_R_and (F : FnM K "__and__" "Rules.__and__" s_Rules_and f fd) (T : Tx w K mg) (D_Rules_init : DefI P w K mg base 1 (He.ga K "Rules") ["self", "names"] (spRInit K (He.ga K "Rules")) fI fdI) : FnOk P w K mg base CX0 3 f fd ["self", "other"] (spR2 K (He.ga K "Rules") fun a => held (a.1.filter fun n => decide (n ∈ a.2))) := by
  refine fnX F sc_Rules_and (fun _ => rfl) fun cdv A outer s H E hr => ?_
  refine ⟨_, (pss_one (ps_ret (pe_make D_Rules_init.mkr D_Rules_init.ok (hr.mono (by decide)) (by rfl) T.g_Rules D_Rules_init.bi D_Rules_init.df pass0 (pa_cons (pe_lc (own := [("name", 2)]) rfl sc_Rules_and.nd (pi_tupK (K := K) (pe_fldK (K := K) (pv 0) rfl)) (blkOk_by (by kernel_rfl)) (fun _ _ _ _ _ => (pg_name (i := 2) sc_Rules_and.nd rfl (by first | exact Or.inl rfl | exact Or.inr rfl))) (fun _ _ _ _ _ => (pts_one (pt_cmpR (op_inK (K := K)) (pv 2) (pe_fldK (K := K) (pv 1) rfl) (by rfl)))) (fun _ _ _ _ _ => (pv 2))) pa_nil)))), fun ⟨xs, ys⟩ ⟨hx, hy⟩ => ?_⟩
  have hx : RB xs := hx
  exact xs_ret (ve_Rules (ve_is (ve_lcT (fun n => decide (n ∈ ys)) (fun n => n) (tg_name (ws := [2]) List.mem_cons_self) (ve_fld fldRules T.c_Rules T.n_held (ve_v rfl)) (Nat.le_trans hx.1 (by decide)) (fun n hn => vb_test (ve_in seqT (ve_v rfl) (ve_fld fldRules T.c_Rules T.n_held (ve_v rfl)))) fun n hn _ => ve_v rfl) (List.map_id' _)) (Nat.le_trans (List.length_filter_le _ _) hx.1) fun x h => hx.2 x (List.mem_filter.mp h).1) rfl
abbrev s_Rules_sub : Stmt := inClass (top 11) 12
theorem sc_Rules_sub : FnScope ["self", "other", "name"] ["self", "other"] (defScope s_Rules_sub) := ⟨rfl, rfl, rfl, by decide +kernel, rfl, by decide +kernel, by decide +kernel⟩

theorem ok_R_sub (F : FnM K "__sub__" "Rules.__sub__" s_Rules_sub f fd) (T : Tx w K mg) (D_Rules_init : DefI P w K mg base 1 (He.ga K "Rules") ["self", "names"] (spRInit K (He.ga K "Rules")) fI fdI) : FnOk P w K mg base CX0 3 f fd ["self", "other"] (spR2 K (He.ga K "Rules") fun a => held (a.1.filter fun n => !decide (n ∈ a.2))) := by
  refine fnX F sc_Rules_sub (fun _ => rfl) fun cdv A outer s H E hr => ?_
  refine ⟨_, (pss_one (ps_ret (pe_make D_Rules_init.mkr D_Rules_init.ok (hr.mono (by decide)) (by rfl) T.g_Rules D_Rules_init.bi D_Rules_init.df pass0 (pa_cons (pe_lc (own := [("name", 2)]) rfl sc_Rules_sub.nd (pi_tupK (K := K) (pe_fldK (K := K) (pv 0) rfl)) (blkOk_by (by kernel_rfl)) (fun _ _ _ _ _ => (pg_name (i := 2) sc_Rules_sub.nd rfl (by first | exact Or.inl rfl | exact Or.inr rfl))) (fun _ _ _ _ _ => (pts_one (pt_cmpR (op_notInK (K := K)) (pv 2) (pe_fldK (K := K) (pv 1) rfl) (by rfl)))) (fun _ _ _ _ _ => (pv 2))) pa_nil)))), fun ⟨xs, ys⟩ ⟨hx, hy⟩ => ?_⟩
  have hx : RB xs := hx
  exact xs_ret (ve_Rules (ve_is (ve_lcT (fun n => !decide (n ∈ ys)) (fun n => n) (tg_name (ws := [2]) List.mem_cons_self) (ve_fld fldRules T.c_Rules T.n_held (ve_v rfl)) (Nat.le_trans hx.1 (by decide)) (fun n hn => vb_test (ve_notin seqT (ve_v rfl) (ve_fld fldRules T.c_Rules T.n_held (ve_v rfl)))) fun n hn _ => ve_v rfl) (List.map_id' _)) (Nat.le_trans (List.length_filter_le _ _) hx.1) fun x h => hx.2 x (List.mem_filter.mp h).1) rfl
abbrev s_Rules_xor : Stmt := inClass (top 11) 13
theorem sc_Rules_xor : FnScope ["self", "other", "name"] ["self", "other"] (defScope s_Rules_xor) := ⟨rfl, rfl, rfl, by decide +kernel, rfl, by decide +kernel, by decide +kernel⟩

theorem ok_R_xor (F : FnM K "__xor__" "Rules.__xor__" s_Rules_xor f fd) (T : Tx w K mg) (D_Rules_init : DefI P w K mg base 1 (He.ga K "Rules") ["self", "names"] (spRInit K (He.ga K "Rules")) fI fdI) : FnOk P w K mg base CX0 3 f fd ["self", "other"] (spR2 K (He.ga K "Rules") fun a => held (nine.filter fun n => !decide (decide (n ∈ a.1) = decide (n ∈ a.2)))) := by
  refine fnX F sc_Rules_xor (fun _ => rfl) fun cdv A outer s H E hr => ?_
  refine ⟨_, (pss_one (ps_ret (pe_make D_Rules_init.mkr D_Rules_init.ok (hr.mono (by decide)) (by rfl) T.g_Rules D_Rules_init.bi D_Rules_init.df pass0 (pa_cons (pe_lc (own := [("name", 2)]) rfl sc_Rules_xor.nd (pi_tupK (K := K) (pe_glob (v := .ref (He.ga K "RULES")) (by rfl) T.g_RULES rfl)) (blkOk_by (by kernel_rfl)) (fun _ _ _ _ _ => (pg_name (i := 2) sc_Rules_xor.nd rfl (by first | exact Or.inl rfl | exact Or.inr rfl))) (fun _ _ _ _ _ => (pts_one (pt_cmpR op_ne (pe_cmpR (op_inK (K := K)) (pv 2) (pe_fldK (K := K) (pv 0) rfl) (by rfl)) (pe_cmpR (op_inK (K := K)) (pv 2) (pe_fldK (K := K) (pv 1) rfl) (by rfl)) (nomark _)))) (fun _ _ _ _ _ => (pv 2))) pa_nil)))), fun ⟨xs, ys⟩ ⟨hx, hy⟩ => ?_⟩
  exact xs_ret (ve_Rules (ve_is (ve_lcT (fun n => !decide (decide (n ∈ xs) = decide (n ∈ ys))) (fun n => n) (tg_name (ws := [2]) List.mem_cons_self) (ve_RULES T) (by decide) (fun n hn => vb_test (ve_ne (ve_in seqT (ve_v rfl) (ve_fld fldRules T.c_Rules T.n_held (ve_v rfl))) (ve_in seqT (ve_v rfl) (ve_fld fldRules T.c_Rules T.n_held (ve_v rfl))))) fun n hn _ => ve_v rfl) (List.map_id' _)) (Nat.le_trans (List.length_filter_le _ _) (by decide)) fun x h => (List.mem_filter.mp h).1) rfl
end
abbrev s_Rules_le : Stmt := inClass (top 11) 14
theorem sc_Rules_le : FnScope ["self", "other"] ["self", "other"] (defScope s_Rules_le) := ⟨rfl, rfl, rfl, by decide +kernel, rfl, by decide +kernel, by decide +kernel⟩

abbrev s_Rules_lt : Stmt := inClass (top 11) 15
theorem sc_Rules_lt : FnScope ["self", "other"] ["self", "other"] (defScope s_Rules_lt) := ⟨rfl, rfl, rfl, by decide +kernel, rfl, by decide +kernel, by decide +kernel⟩

abbrev s_Rules_ge : Stmt := inClass (top 11) 16
theorem sc_Rules_ge : FnScope ["self", "other"] ["self", "other"] (defScope s_Rules_ge) := ⟨rfl, rfl, rfl, by decide +kernel, rfl, by decide +kernel, by decide +kernel⟩

abbrev s_Rules_gt : Stmt := inClass (top 11) 17
theorem sc_Rules_gt : FnScope ["self", "other"] ["self", "other"] (defScope s_Rules_gt) := ⟨rfl, rfl, rfl, by decide +kernel, rfl, by decide +kernel, by decide +kernel⟩

section
variable {f fM : Addr} {fd fdM : FuncData} (D_Rules_implies : DefM P w K mg base 2 (He.ga K "Rules") "implies" ["self", "other"] (spR2b K (He.ga K "Rules") fun a => impl a.1 a.2) fM fdM)
theorem ve_implies {E' : XK} {tb : TE} {xs ys : List Str} (ha : Ve ta ss (yRules K (He.ga K "Rules")) xs) (hb : Ve tb ss (yRules K (He.ga K "Rules")) ys) (hx : RB xs) (hy : RB ys) : Ve (tMeth (He.ga K "Rules") "implies" (spR2b K (He.ga K "Rules") fun a => impl a.1 a.2) [] E' ta (tCons tb tNil)) ss yBool (impl xs ys) :=
  ve_meth (insRules (m := "implies") (by decide +kernel)) (xs, ys) rfl ⟨hx, hy⟩ ha (vs_cons hb vs_nil)
include D_Rules_implies
theorem ok_R_le (F : FnM K "__le__" "Rules.__le__" s_Rules_le f fd) (T : Tx w K mg) : FnOk P w K mg base CX0 3 f fd ["self", "other"] (spR2b K (He.ga K "Rules") fun a => impl a.2 a.1) := by
  refine fnX F sc_Rules_le (fun _ => rfl) fun cdv A outer s H E hr => ?_
  refine ⟨_, (pss_one (ps_ret (pe_meth (pv 1) T.c_Rules D_Rules_implies.me D_Rules_implies.ok (hr.mono (by decide)) D_Rules_implies.bi .nil pass0 (pa_cons (pv 0) pa_nil)))), fun ⟨xs, ys⟩ ⟨hx, hy⟩ => ?_⟩
  exact xs_ret (ve_implies (ve_v rfl) (ve_v rfl) hy hx) rfl
theorem ok_R_lt (F : FnM K "__lt__" "Rules.__lt__" s_Rules_lt f fd) (T : Tx w K mg) : FnOk P w K mg base CX0 3 f fd ["self", "other"] (spR2b K (He.ga K "Rules") fun a => impl a.2 a.1 && !impl a.1 a.2) := by
  refine fnX F sc_Rules_lt (fun _ => rfl) fun cdv A outer s H E hr => ?_
  refine ⟨_, (pss_one (ps_ret (pe_and (pe_meth (pv 1) T.c_Rules D_Rules_implies.me D_Rules_implies.ok (hr.mono (by decide)) D_Rules_implies.bi .nil pass0 (pa_cons (pv 0) pa_nil)) (pe_one (pe_not (pe_meth (pv 0) T.c_Rules D_Rules_implies.me D_Rules_implies.ok (hr.mono (by decide)) D_Rules_implies.bi .nil pass0 (pa_cons (pv 1) pa_nil))))))), fun ⟨xs, ys⟩ ⟨hx, hy⟩ => ?_⟩
  exact xs_ret (ve_and (ve_implies (ve_v rfl) (ve_v rfl) hy hx) fun _ => ve_not (ve_implies (ve_v rfl) (ve_v rfl) hx hy)) rfl
theorem ok_R_ge (F : FnM K "__ge__" "Rules.__ge__" s_Rules_ge f fd) (T : Tx w K mg) : FnOk P w K mg base CX0 3 f fd ["self", "other"] (spR2b K (He.ga K "Rules") fun a => impl a.1 a.2) := by
  refine fnX F sc_Rules_ge (fun _ => rfl) fun cdv A outer s H E hr => ?_
  refine ⟨_, (pss_one (ps_ret (pe_meth (pv 0) T.c_Rules D_Rules_implies.me D_Rules_implies.ok (hr.mono (by decide)) D_Rules_implies.bi .nil pass0 (pa_cons (pv 1) pa_nil)))), fun ⟨xs, ys⟩ ⟨hx, hy⟩ => ?_⟩
  exact xs_ret (ve_implies (ve_v rfl) (ve_v rfl) hx hy) rfl
theorem ok_R_gt (F : FnM K "__gt__" "Rules.__gt__" s_Rules_gt f fd) (T : Tx w K mg) : FnOk P w K mg base CX0 3 f fd ["self", "other"] (spR2b K (He.ga K "Rules") fun a => impl a.1 a.2 && !impl a.2 a.1) := by
  refine fnX F sc_Rules_gt (fun _ => rfl) fun cdv A outer s H E hr => ?_
  refine ⟨_, (pss_one (ps_ret (pe_and (pe_meth (pv 0) T.c_Rules D_Rules_implies.me D_Rules_implies.ok (hr.mono (by decide)) D_Rules_implies.bi .nil pass0 (pa_cons (pv 1) pa_nil)) (pe_one (pe_not (pe_meth (pv 1) T.c_Rules D_Rules_implies.me D_Rules_implies.ok (hr.mono (by decide)) D_Rules_implies.bi .nil pass0 (pa_cons (pv 0) pa_nil))))))), fun ⟨xs, ys⟩ ⟨hx, hy⟩ => ?_⟩
  exact xs_ret (ve_and (ve_implies (ve_v rfl) (ve_v rfl) hx hy) fun _ => ve_not (ve_implies (ve_v rfl) (ve_v rfl) hy hx)) rfl
end
end
end Fp

namespace Fp
open PySem L2
/-! ### the law's own readings -/
def subs {α : Type} : List α → List (List α)
  | [] => [[]]
  | x :: r => subs r ++ (subs r).map (x :: ·)
def closureL (names : List Str) : List Str := nine.filter fun r => (((kinds13.filter fun p => (names.filter fun n => !decide (n ∈ p.2)).isEmpty).map (·.2)).filter fun rs => !decide (r ∈ rs)).isEmpty
def kindsWith (names : List Str) : List Str := (kinds13.filter fun p => decide (p.2 = closureL names)).map (·.1)
def kindWith (names : List Str) : Str := (kindsWith names).head?.getD "one"
def chk (s : List Str) : Bool :=
  let whole := held (closedR (kindOf s))
  decide (whole = closureL s) && decide ((kindsWith s).head? = some (kindOf s)) && decide (kindOf whole = kindOf s) && nine.all (fun r => decide (r ∈ closedR (kindOf s)) == decide (r ∈ closureL s)) && decide (held (closedR (kindOf whole)) = whole) && (kindsN ++ (["", "q"] : List Str)).all (fun k => !decide (k ∈ closedR (kindOf s))) && decide (held s = s)
theorem chk_all : ∀ s ∈ subs nine, chk s = true := by decide +kernel
structure Chk (s : List Str) : Prop where
  sub : ∀ x ∈ s, x ∈ nine
  len : s.length ≤ 9
  h : held s = s
  w : held (closedR (kindOf s)) = closureL s
  k : (kindsWith s).head? = some (kindOf s)
  kw : kindOf (closureL s) = kindOf s
  i : ∀ r ∈ nine, decide (r ∈ closedR (kindOf s)) = decide (r ∈ closureL s)
  ww : held (closedR (kindOf (closureL s))) = closureL s
  o : ∀ k ∈ kindsN ++ (["", "q"] : List Str), decide (k ∈ closedR (kindOf s)) = false
theorem sub_subs {α : Type} : ∀ {s l : List α}, s.Sublist l → s ∈ subs l
  | _, _, .slnil => List.mem_cons_self
  | _, _, .cons _ h => List.mem_append_left _ (sub_subs h)
  | _, _, .cons₂ _ h => List.mem_append_right _ (List.mem_map.mpr ⟨_, sub_subs h, rfl⟩)
theorem chk_of {s : List Str} (hs : s.Sublist nine) : Chk s := by
  have h := chk_all _ (sub_subs hs)
  unfold chk at h
  simp only [Bool.and_eq_true] at h
  obtain ⟨⟨⟨⟨⟨⟨h1, h2⟩, h3⟩, h4⟩, h5⟩, h6⟩, h7⟩ := h
  have w := of_decide_eq_true h1
  rw [w] at h3 h5
  exact ⟨fun x hx => hs.subset hx, Nat.le_trans hs.length_le (by decide), of_decide_eq_true h7, w, of_decide_eq_true h2, of_decide_eq_true h3, fun r hr => eq_of_beq (List.all_eq_true.mp h4 r hr), of_decide_eq_true h5, fun k hk => by
    have z := List.all_eq_true.mp h6 k hk
    cases e : decide (k ∈ closedR (kindOf s)) with
    | false => rfl
    | true => rw [e] at z; cases z⟩
theorem held_perm {xs ys : List Str} (h : xs.Perm ys) : held xs = held ys := by
  unfold held
  congr 1
  funext r
  exact decide_eq_decide.mpr h.mem_iff
end Fp

namespace Fp
open PySem L2
/-! ### sets of rules: what k03 asks -/
theorem emp_congr {a b : List Str} {p : Str → Bool} (h : ∀ x, x ∈ a ↔ x ∈ b) : (a.filter p).isEmpty = (b.filter p).isEmpty := by
  rw [Bool.eq_iff_iff, List.isEmpty_iff, List.isEmpty_iff, List.filter_eq_nil_iff, List.filter_eq_nil_iff]
  exact ⟨fun z x hx => z x ((h x).mpr hx), fun z x hx => z x ((h x).mp hx)⟩
theorem closure_congr {a b : List Str} (h : ∀ x, x ∈ a ↔ x ∈ b) : closureL a = closureL b := by
  unfold closureL
  have e : (fun p : Str × List Str => (a.filter fun n => !decide (n ∈ p.2)).isEmpty) = fun p => (b.filter fun n => !decide (n ∈ p.2)).isEmpty := funext fun p => emp_congr h
  rw [e]
theorem mem_held {xs : List Str} {x : Str} : x ∈ held xs ↔ x ∈ nine ∧ x ∈ xs := by
  unfold held
  rw [List.mem_filter, decide_eq_true_iff]
theorem mem_held' {xs : List Str} (hx : ∀ x ∈ xs, x ∈ nine) {x : Str} : x ∈ held xs ↔ x ∈ xs := mem_held.trans ⟨fun h => h.2, fun h => ⟨hx x h, h⟩⟩
theorem held_congr {a b : List Str} (h : ∀ x, x ∈ a ↔ x ∈ b) : held a = held b := by
  unfold held
  congr 1
  funext r
  exact decide_eq_decide.mpr (h r)
theorem held_chk (xs : List Str) : Chk (held xs) := chk_of List.filter_sublist
theorem impl_eq {a b : List Str} (ha : ∀ x ∈ a, x ∈ nine) (hb : ∀ x ∈ b, x ∈ nine) : impl (held a) (held b) = (b.filter fun r => !decide (r ∈ closureL a)).isEmpty := by
  have c := held_chk a
  have e : closureL (held a) = closureL a := closure_congr fun x => mem_held' ha
  unfold impl
  rw [Bool.eq_iff_iff, List.isEmpty_iff, List.filter_eq_nil_iff, List.all_eq_true]
  constructor
  · intro h x hx
    have h1 := h _ (List.mem_map.mpr ⟨x, (mem_held' hb).mpr hx, rfl⟩)
    rw [c.i x (hb x hx), e] at h1
    have h1 : decide (x ∈ closureL a) = true := h1
    rw [h1]
    exact Bool.false_ne_true
  · intro h v hv
    obtain ⟨x, hx, rfl⟩ := List.mem_map.mp hv
    have hx := (mem_held' hb).mp hx
    have h1 := h x hx
    show decide (x ∈ closedR (kindOf (held a))) = true
    rw [c.i x (hb x hx), e]
    cases z : decide (x ∈ closureL a) with
    | true => rfl
    | false => rw [z] at h1; exact absurd rfl h1
theorem filter_held {p : Str → Bool} {q : Str → Bool} {xs : List Str} (h : ∀ x ∈ nine, p x = decide (x ∈ xs)) : nine.filter p = held xs := by
  unfold held
  exact List.filter_congr h
theorem held_filter (p : Str → Bool) : held (nine.filter p) = nine.filter p := by
  unfold held
  exact List.filter_congr fun x hx => by
    rw [Bool.eq_iff_iff, decide_eq_true_iff, List.mem_filter]
    exact ⟨fun h => h.2, fun h => ⟨hx, h⟩⟩
def dueOr (a b : List Str) : List Str := nine.filter fun r => decide (r ∈ a) || decide (r ∈ b)
def dueAnd (a b : List Str) : List Str := nine.filter fun r => decide (r ∈ a) && decide (r ∈ b)
def dueSub (a b : List Str) : List Str := nine.filter fun r => decide (r ∈ a) && !decide (r ∈ b)
def dueXor (a b : List Str) : List Str := nine.filter fun r => !decide (decide (r ∈ a) = decide (r ∈ b))
section
variable {a b : List Str} (ha : ∀ x ∈ a, x ∈ nine) (hb : ∀ x ∈ b, x ∈ nine)
include ha hb
theorem or_eq : held (held a ++ held b) = dueOr a b := by
  unfold held dueOr
  exact List.filter_congr fun x hx => by
    rw [Bool.eq_iff_iff, decide_eq_true_iff, Bool.or_eq_true, decide_eq_true_iff, decide_eq_true_iff, List.mem_append, List.mem_filter, List.mem_filter, decide_eq_true_iff, decide_eq_true_iff]
    exact ⟨fun h => h.imp (·.2) (·.2), fun h => h.imp (⟨hx, ·⟩) (⟨hx, ·⟩)⟩
theorem and_eq : held ((held a).filter fun n => decide (n ∈ held b)) = dueAnd a b := by
  unfold dueAnd
  rw [show held ((held a).filter fun n => decide (n ∈ held b)) = nine.filter (fun r => decide (r ∈ (held a).filter fun n => decide (n ∈ held b))) from rfl]
  exact List.filter_congr fun x hx => by
    rw [Bool.eq_iff_iff, decide_eq_true_iff, Bool.and_eq_true, decide_eq_true_iff, decide_eq_true_iff, List.mem_filter, decide_eq_true_iff, mem_held' ha, mem_held' hb]
theorem sub_eq : held ((held a).filter fun n => !decide (n ∈ held b)) = dueSub a b := by
  unfold dueSub
  rw [show held ((held a).filter fun n => !decide (n ∈ held b)) = nine.filter (fun r => decide (r ∈ (held a).filter fun n => !decide (n ∈ held b))) from rfl]
  exact List.filter_congr fun x hx => by
    rw [Bool.eq_iff_iff, decide_eq_true_iff, Bool.and_eq_true, decide_eq_true_iff, List.mem_filter, mem_held' ha, decide_eq_decide.mpr (mem_held' hb)]
theorem xor_eq : held (nine.filter fun n => !decide (decide (n ∈ held a) = decide (n ∈ held b))) = dueXor a b := by
  rw [held_filter]
  unfold dueXor
  exact List.filter_congr fun x hx => by
    rw [decide_eq_decide.mpr (mem_held' (xs := a) ha), decide_eq_decide.mpr (mem_held' (xs := b) hb)]
theorem alike_eq : decide (held a = held b) = decide (dueOr a b = dueAnd a b) := by
  rw [decide_eq_decide]
  constructor
  · intro h
    have m : ∀ x, x ∈ a ↔ x ∈ b := fun x => by rw [← mem_held' ha, ← mem_held' hb, h]
    unfold dueOr dueAnd
    exact List.filter_congr fun x hx => by
      rw [decide_eq_decide.mpr (m x), Bool.or_self, Bool.and_self]
  · intro h
    refine held_congr fun x => ?_
    have k : ∀ y, y ∈ dueOr a b ↔ y ∈ dueAnd a b := fun y => by rw [h]
    unfold dueOr dueAnd at k
    constructor
    · intro hx
      have z := (k x).mp (List.mem_filter.mpr ⟨ha x hx, by rw [decide_eq_true hx]; rfl⟩)
      exact of_decide_eq_true (Bool.and_eq_true_iff.mp (List.mem_filter.mp z).2).2
    · intro hx
      have z := (k x).mp (List.mem_filter.mpr ⟨hb x hx, by rw [decide_eq_true hx, Bool.or_true]⟩)
      exact of_decide_eq_true (Bool.and_eq_true_iff.mp (List.mem_filter.mp z).2).1
end
end Fp

namespace Fp
open PySem L2
section
variable {P : Program} {w : World} {K : PySem.W.Frag} {mg : Str → Option Value} {base : Heap} {ss : SS}
abbrev s_nine : Stmt := top 17
theorem sc_nine : FnScope [] [] (defScope s_nine) := ⟨rfl, rfl, rfl, by decide +kernel, rfl, by decide +kernel, by decide +kernel⟩

abbrev spNine : Sp := SpF (A := Unit) (fun _ => []) (fun _ => True) (yList yStr) (fun _ => nine)
theorem ok_nine {f : Addr} {fd : FuncData} {k : Nat} (F : FnP K "_law_nine" s_nine f fd) : FnOk P w K mg base CX0 (k + 1) f fd [] spNine := by
  refine fnX F sc_nine (fun _ => rfl) fun cdv A outer s H E hr => ?_
  refine ⟨_, (pss_one (ps_ret (pe_lst (pa_cons pe_str (pa_cons pe_str (pa_cons pe_str (pa_cons pe_str (pa_cons pe_str (pa_cons pe_str (pa_cons pe_str (pa_cons pe_str (pa_cons pe_str pa_nil)))))))))))), fun _ _ => ?_⟩
  exact xs_ret (ve_lst (vi_cons ve_str (vi_cons ve_str (vi_cons ve_str (vi_cons ve_str (vi_cons ve_str (vi_cons ve_str (vi_cons ve_str (vi_cons ve_str (vi_cons ve_str vi_nil))))))))) (by decide)) rfl
abbrev s_thirteen : Stmt := top 18
theorem sc_thirteen : FnScope ["_law_high", "_law_found"] [] (defScope s_thirteen) := ⟨rfl, rfl, rfl, by decide +kernel, rfl, by decide +kernel, by decide +kernel⟩

abbrev yKinds (K : PySem.W.Frag) : Ty (List (Str × List Str)) := yList (yPair K yStr (yList yStr))
abbrev spThir (K : PySem.W.Frag) : Sp := SpF (A := Unit) (fun _ => []) (fun _ => True) (yKinds K) (fun _ => kinds13)
theorem ok_thirteen {f fN : Addr} {fd fdN : FuncData} (F : FnP K "_law_thirteen" s_thirteen f fd) (D_nine : Def P w K mg base 1 "_law_nine" [] spNine fN fdN) : FnOk P w K mg base CX0 2 f fd [] (spThir K) := by
  refine fnX F sc_thirteen (fun _ => rfl) fun cdv A outer s H E hr => ?_
  refine ⟨_, (pss_cons (ps_set (i := 0) sc_thirteen.nd rfl (by first | exact Or.inl rfl | exact Or.inr rfl) (pe_lst (pa_cons pe_str (pa_cons pe_str pa_nil))))
    (pss_cons (ps_set (i := 1) sc_thirteen.nd rfl (by first | exact Or.inl rfl | exact Or.inr rfl) (pe_lst (pa_cons (pe_tup (pa_cons pe_str (pa_cons (pe_lst pa_nil) pa_nil))) (pa_cons (pe_tup (pa_cons pe_str (pa_cons (pe_lst (pa_cons pe_str pa_nil)) pa_nil))) (pa_cons (pe_tup (pa_cons pe_str (pa_cons (pe_lst (pa_cons pe_str pa_nil)) pa_nil))) (pa_cons (pe_tup (pa_cons pe_str (pa_cons (pe_lst (pa_cons pe_str (pa_cons pe_str pa_nil))) pa_nil))) pa_nil))))))
    (pss_cons (ps_set (i := 1) sc_thirteen.nd rfl (by first | exact Or.inl rfl | exact Or.inr rfl) (pe_op op_cat (pv 1) (pe_lst (pa_cons (pe_tup (pa_cons pe_str (pa_cons (pe_lst (pa_cons pe_str (pa_cons pe_str (pa_cons pe_str pa_nil)))) pa_nil))) (pa_cons (pe_tup (pa_cons pe_str (pa_cons (pv 0) pa_nil))) (pa_cons (pe_tup (pa_cons pe_str (pa_cons (pe_op op_cat (pv 0) (pe_lst (pa_cons pe_str pa_nil))) pa_nil))) pa_nil))))))
    (pss_cons (ps_set (i := 1) sc_thirteen.nd rfl (by first | exact Or.inl rfl | exact Or.inr rfl) (pe_op op_cat (pv 1) (pe_lst (pa_cons (pe_tup (pa_cons pe_str (pa_cons (pe_op op_cat (pv 0) (pe_lst (pa_cons pe_str pa_nil))) pa_nil))) (pa_cons (pe_tup (pa_cons pe_str (pa_cons (pe_lst (pa_cons pe_str (pa_cons pe_str (pa_cons pe_str (pa_cons pe_str (pa_cons pe_str pa_nil)))))) pa_nil))) pa_nil)))))
    (pss_cons (ps_set (i := 1) sc_thirteen.nd rfl (by first | exact Or.inl rfl | exact Or.inr rfl) (pe_op op_cat (pv 1) (pe_lst (pa_cons (pe_tup (pa_cons pe_str (pa_cons (pe_op op_cat (pv 0) (pe_lst (pa_cons pe_str pa_nil))) pa_nil))) (pa_cons (pe_tup (pa_cons pe_str (pa_cons (pe_op op_cat (pv 0) (pe_lst (pa_cons pe_str (pa_cons pe_str (pa_cons pe_str pa_nil))))) pa_nil))) pa_nil)))))
    (pss_one (ps_ret (pe_op op_cat (pv 1) (pe_lst (pa_cons (pe_tup (pa_cons pe_str (pa_cons (pe_op op_cat (pv 0) (pe_lst (pa_cons pe_str (pa_cons pe_str (pa_cons pe_str pa_nil))))) pa_nil))) (pa_cons (pe_tup (pa_cons pe_str (pa_cons (pe_call0 D_nine.ok (hr.mono (by decide)) (by rfl) D_nine.mg D_nine.kp D_nine.bi .nil pass0) pa_nil))) pa_nil))))))))))), fun _ _ => ?_⟩
  refine xs_seq (xs_asg (ve_lst (vi_cons ve_str (vi_cons ve_str vi_nil)) (by decide)) ?_)
  refine xs_seq (xs_asg (ve_lst (vi_cons (ve_pair (K := K) ve_str (ve_lst (t := yStr) vi_nil (by decide))) (vi_cons (ve_pair ve_str (ve_lst (vi_cons ve_str vi_nil) (by decide))) (vi_cons (ve_pair ve_str (ve_lst (vi_cons ve_str vi_nil) (by decide))) (vi_cons (ve_pair ve_str (ve_lst (vi_cons ve_str (vi_cons ve_str vi_nil)) (by decide))) vi_nil)))) (by decide)) ?_)
  refine xs_seq (xs_asg (ve_cat (ve_v rfl) (ve_lst (vi_cons (ve_pair (K := K) ve_str (ve_lst (vi_cons ve_str (vi_cons ve_str (vi_cons ve_str vi_nil))) (by decide))) (vi_cons (ve_pair ve_str (ve_v rfl)) (vi_cons (ve_pair ve_str (ve_cat (ve_v rfl) (ve_lst (vi_cons ve_str vi_nil) (by decide)) (by decide))) vi_nil))) (by decide)) (by decide)) ?_)
  refine xs_seq (xs_asg (ve_cat (ve_v rfl) (ve_lst (vi_cons (ve_pair (K := K) ve_str (ve_cat (ve_v rfl) (ve_lst (vi_cons ve_str vi_nil) (by decide)) (by decide))) (vi_cons (ve_pair ve_str (ve_lst (vi_cons ve_str (vi_cons ve_str (vi_cons ve_str (vi_cons ve_str (vi_cons ve_str vi_nil))))) (by decide))) vi_nil)) (by decide)) (by decide)) ?_)
  refine xs_seq (xs_asg (ve_cat (ve_v rfl) (ve_lst (vi_cons (ve_pair (K := K) ve_str (ve_cat (ve_v rfl) (ve_lst (vi_cons ve_str vi_nil) (by decide)) (by decide))) (vi_cons (ve_pair ve_str (ve_cat (ve_v rfl) (ve_lst (vi_cons ve_str (vi_cons ve_str (vi_cons ve_str vi_nil))) (by decide)) (by decide))) vi_nil)) (by decide)) (by decide)) ?_)
  exact xs_ret (ve_cat (ve_v rfl) (ve_lst (vi_cons (ve_pair (K := K) ve_str (ve_cat (ve_v rfl) (ve_lst (vi_cons ve_str (vi_cons ve_str (vi_cons ve_str vi_nil))) (by decide)) (by decide))) (vi_cons (ve_pair ve_str (ve_call () vs_nil trivial)) vi_nil)) (by decide)) (by decide)) rfl
abbrev s_closure : Stmt := top 19
theorem sc_closure : FnScope ["_law_names", "_law_kinds", "_law_kind", "_law_rules", "_law_rule", "_law_name"] ["_law_names"] (defScope s_closure) := ⟨rfl, rfl, rfl, by decide +kernel, rfl, by decide +kernel, by decide +kernel⟩

abbrev spClos : Sp := SpF (A := List Str) (fun xs => [⟨yList yStr, xs⟩]) (fun xs => xs.length ≤ 1000 ∧ ∀ x ∈ xs, x ∈ nine) (yList yStr) closureL
theorem kinds_in : ∀ p ∈ kinds13, (∀ x ∈ p.2, x ∈ nine) ∧ p.1 ∈ kindsN := by decide +kernel
theorem shp_lists {xss : List (List Str)} (h : ∀ xs ∈ xss, ∀ x ∈ xs, x ∈ nine) : SeqAt.shaped (.list (xss.map fun xs => .list (xs.map PyData.str))) = true :=
  (shp_list (n := 1) (d := fun xs : List Str => .list (xs.map PyData.str)) fun xs hxs => shp_list (n := 0) (d := PyData.str) fun x hx => shp_str (nine_ok x (h xs hxs x hx))).shaped (by decide)
theorem eqv_strss (xss : List (List Str)) : PyData.eqv (.list (xss.map fun xs => .list (xs.map PyData.str))) (.list []) = xss.isEmpty := by cases xss <;> rfl
theorem eqv_strs0 (xs : List Str) : PyData.eqv (.list (xs.map PyData.str)) (.list []) = xs.isEmpty := by cases xs <;> rfl
theorem ok_closure {f fN fT : Addr} {fd fdN fdT : FuncData} (F : FnP K "_law_closure" s_closure f fd) (D_nine : Def P w K mg base 1 "_law_nine" [] spNine fN fdN) (D_thirteen : Def P w K mg base 2 "_law_thirteen" [] (spThir K) fT fdT) : FnOk P w K mg base CX0 3 f fd ["_law_names"] spClos := by
  refine fnX F sc_closure (fun _ => rfl) fun cdv A outer s H E hr => ?_
  refine ⟨_, (pss_cons (ps_set (i := 1) sc_closure.nd rfl (by first | exact Or.inl rfl | exact Or.inr rfl) (pe_lc (own := [("_law_kind", 2), ("_law_rules", 3)]) rfl sc_closure.nd (pi_listK (K := K) (pe_call0 D_thirteen.ok (hr.mono (by decide)) (by rfl) D_thirteen.mg D_thirteen.kp D_thirteen.bi .nil pass0)) (blkOk_by (by kernel_rfl)) (fun _ _ _ _ _ => (pg_tupK (K := K) (n := 2) (by rfl) (pgs_cons (pg_name (i := 2) sc_closure.nd rfl (by first | exact Or.inl rfl | exact Or.inr rfl)) (pgs_cons (pg_name (i := 3) sc_closure.nd rfl (by first | exact Or.inl rfl | exact Or.inr rfl)) pgs_nil)))) (fun _ _ _ _ _ => (pts_one (pt_cmpR (op_eqK (K := K) hr.units) (pe_lc (own := [("_law_name", 5)]) rfl sc_closure.nd (pi_listK (K := K) (pv 0)) (blkOk_by (by kernel_rfl)) (fun _ _ _ _ _ => (pg_name (i := 5) sc_closure.nd rfl (by first | exact Or.inl rfl | exact Or.inr rfl))) (fun _ _ _ _ _ => (pts_one (pt_cmpR (op_notInK (K := K)) (pv 5) (pv 3) (by rfl)))) (fun _ _ _ _ _ => (pv 5))) (pe_lst pa_nil) (nomark _)))) (fun _ _ _ _ _ => (pv 3))))
    (pss_one (ps_ret (pe_lc (own := [("_law_rule", 4)]) rfl sc_closure.nd (pi_listK (K := K) (pe_call0 D_nine.ok (hr.mono (by decide)) (by rfl) D_nine.mg D_nine.kp D_nine.bi .nil pass0)) (blkOk_by (by kernel_rfl)) (fun _ _ _ _ _ => (pg_name (i := 4) sc_closure.nd rfl (by first | exact Or.inl rfl | exact Or.inr rfl))) (fun _ _ _ _ _ => (pts_one (pt_cmpR (op_eqK (K := K) hr.units) (pe_lc (own := [("_law_rules", 3)]) rfl sc_closure.nd (pi_listK (K := K) (pv 1)) (blkOk_by (by kernel_rfl)) (fun _ _ _ _ _ => (pg_name (i := 3) sc_closure.nd rfl (by first | exact Or.inl rfl | exact Or.inr rfl))) (fun _ _ _ _ _ => (pts_one (pt_cmpR (op_notInK (K := K)) (pv 4) (pv 3) (by rfl)))) (fun _ _ _ _ _ => (pv 3))) (pe_lst pa_nil) (nomark _)))) (fun _ _ _ _ _ => (pv 4)))))), fun xs ⟨hl, hx⟩ => ?_⟩
  refine xs_seq (xs_asg (ve_lcL (fun p => (xs.filter fun n => !decide (n ∈ p.2)).isEmpty) (fun p => p.2) (tg_pair (ws := [2, 3]) List.mem_cons_self (List.mem_cons_of_mem _ List.mem_cons_self)) (ve_call () vs_nil trivial) (by decide) (fun p hp => ?_) fun p hp _ => ve_v rfl) ?_)
  · refine vb_test (ve_eqD (isD_list isD_str) (isD_list isD_str) (ve_lcL (fun n => !decide (n ∈ p.2)) (fun n => n) (tg_name (ws := [5]) List.mem_cons_self) (ve_v rfl) (by omega) (fun n hn => vb_test (ve_notin seqL (ve_v rfl) (ve_v rfl))) fun n hn _ => ve_v rfl) (ve_lst (t := yStr) vi_nil (Nat.zero_le _)) (shp_strs fun x hx' => ?_) rfl ?_)
    · rw [List.map_id'] at hx'
      exact nine_ok x (hx x (List.mem_filter.mp hx').1)
    · rw [List.map_id']
      exact eqv_strs0 _
  · refine xs_ret (ve_is (ve_lcL (fun r => (((kinds13.filter fun p => (xs.filter fun n => !decide (n ∈ p.2)).isEmpty).map (·.2)).filter fun rs => !decide (r ∈ rs)).isEmpty) (fun r => r) (tg_name (ws := [4]) List.mem_cons_self) (ve_call () vs_nil trivial) (by decide) (fun r hr => ?_) fun r hr _ => ve_v rfl) (List.map_id' _)) rfl
    refine vb_test (ve_eqD (isD_list (isD_list isD_str)) (isD_list (isD_list isD_str)) (ve_lcL (fun rs => !decide (r ∈ rs)) (fun rs => rs) (tg_name (ws := [3]) List.mem_cons_self) (ve_v rfl) ?_ (fun n hn => vb_test (ve_notin seqL (ve_v rfl) (ve_v rfl))) fun n hn _ => ve_v rfl) (ve_lst (t := yList yStr) vi_nil (Nat.zero_le _)) (shp_lists fun ys hy => ?_) rfl ?_)
    · rw [List.length_map]
      exact Nat.le_trans (List.length_filter_le _ _) (by decide)
    · rw [List.map_id'] at hy
      obtain ⟨p, hp, rfl⟩ := List.mem_map.mp (List.mem_filter.mp hy).1
      exact (kinds_in p (List.mem_filter.mp hp).1).1
    · rw [List.map_id']
      exact eqv_strss _
end
end Fp

namespace Fp
open PySem L2
section
variable {P : Program} {w : World} {K : PySem.W.Frag} {mg : Str → Option Value} {base : Heap} {ss : SS}
abbrev s_pick : Stmt := top 15
theorem sc_pick : FnScope ["_law_pen_here", "_law_options"] ["_law_pen_here", "_law_options"] (defScope s_pick) := ⟨rfl, rfl, rfl, by decide +kernel, rfl, by decide +kernel, by decide +kernel⟩

abbrev spPick {α : Type} (t : Ty α) : Sp := SpX (A := Addr × List α × Nat) (fun a => [a.1]) (fun a => [⟨yRef, a.1⟩, ⟨yList t, a.2.1⟩]) (fun a => [mPen a.2.2]) (fun a => a.2.1 ≠ [] ∧ a.2.1.length ≤ 100000 ∧ a.2.2 ≤ 100000000000) t (fun a x ms' => x ∈ a.2.1 ∧ ms' = [mPen (a.2.2 + 1)])
theorem ok_pick {α : Type} {t : Ty α} {f fD : Addr} {fd fdD : FuncData} (F : FnP K "_law_pick" s_pick f fd) (T : Tx w K mg) (D_draw : Def P w K mg base 1 "_law_draw" ["_law_pen_here", "_law_span"] spDraw fD fdD) : FnOk P w K mg base CX0 2 f fd ["_law_pen_here", "_law_options"] (spPick t) := by
  refine fnX F sc_pick (fun _ => rfl) fun cdv A outer s H E hr => ?_
  refine ⟨_, (pss_one (ps_ret (pe_ix (ix_listK (K := K)) (pv 1) (pe_call D_draw.ok (hr.mono (by decide)) (by rfl) D_draw.mg D_draw.kp D_draw.bi .nil pass0 (pa_cons (pv 0) (pa_cons (pe_callB (call_lenK (K := K)) (by rfl) T.b_len (by decide +kernel) (pa_cons (pv 1) pa_nil)) pa_nil))) (fun _ _ => rfl)))), fun ⟨p, xs, N⟩ ⟨h0, hl, hN⟩ => ?_⟩
  have hl : xs.length ≤ 100000 := hl
  have hN : N ≤ 100000000000 := hN
  have h0 : 0 < xs.length := List.length_pos_iff.mpr h0
  refine xs_retX (xe_ixL (xe_of (ve_v rfl) (xe_draw (i := 0) (j := 0) rfl rfl (xe_of (ve_len seqL (ve_v rfl)) ⟨N, rfl, by show (0 : Int) < (xs.length : Int); omega, by show (xs.length : Int) < 1073741824; omega, by show N ≤ 1000000000000; omega, fun r r0 r1 => ?_⟩))))
  have r1 : r < (xs.length : Int) := r1
  have hr : r.toNat < xs.length := by omega
  exact ⟨r.toNat, xs[r.toNat], by omega, List.getElem?_eq_getElem hr, List.getElem_mem hr, rfl⟩
abbrev s_few : Stmt := top 20
theorem sc_few : FnScope ["_law_pen_here", "_law_items", "_law_span", "_law_left", "_law_found", "_law_k"] ["_law_pen_here", "_law_items", "_law_span"] (defScope s_few) := ⟨rfl, rfl, rfl, by decide +kernel, rfl, by decide +kernel, by decide +kernel⟩

abbrev spFew {α : Type} (t : Ty α) : Sp := SpX (A := Addr × List α × Int × Nat) (fun a => [a.1]) (fun a => [⟨yRef, a.1⟩, ⟨yList t, a.2.1⟩, ⟨yInt, a.2.2.1⟩]) (fun a => [mPen a.2.2.2]) (fun a => 0 ≤ a.2.2.1 ∧ a.2.1.length ≤ 100000 ∧ a.2.2.2 ≤ 100000000000) (yList t) (fun a ys ms' => ys.length ≤ a.2.1.length ∧ (∀ y ∈ ys, y ∈ a.2.1) ∧ ∃ k, k ≤ a.2.1.length ∧ ms' = [mPen (a.2.2.2 + k)])
theorem ok_few {α : Type} {t : Ty α} {f fD : Addr} {fd fdD : FuncData} (F : FnP K "_law_few" s_few f fd) (T : Tx w K mg) (D_draw : Def P w K mg base 1 "_law_draw" ["_law_pen_here", "_law_span"] spDraw fD fdD) : FnOk P w K mg base CX0 2 f fd ["_law_pen_here", "_law_items", "_law_span"] (spFew t) := by
  refine fnX F sc_few (fun _ => rfl) fun cdv A outer s H E hr => ?_
  refine ⟨_, (pss_cons (ps_par (i := 3) (j := 4) (by rfl) sc_few.nd rfl rfl (by decide) rfl rfl (pa_cons (pe_callTy (call_listK (K := K)) (by rfl) T.b_list (by decide +kernel) (pa_cons (pv 1) pa_nil)) (pa_cons (pe_lst pa_nil) pa_nil)) (by rfl))
    (pss_cons (ps_for PassesOwn.never rfl (pi_range1 (by rfl) T.b_range (pa_cons (pe_callB (call_min2 rfl) (by rfl) T.b_min (by decide +kernel) (pa_cons (pe_callTy call_int1 (by rfl) T.b_int (by decide +kernel) (pa_cons (pv 2) pa_nil)) (pa_cons (pe_callB (call_lenK (K := K)) (by rfl) T.b_len (by decide +kernel) (pa_cons (pv 3) pa_nil)) pa_nil))) pa_nil)) (pg_name (i := 5) sc_few.nd rfl (by first | exact Or.inl rfl | exact Or.inr rfl))
    (pss_one (ps_expr (toBM (K := K) (pe_bm PySem.F.plainAttrs_list PySem.F.slot_list_append PySem.F.type_list_append mt_append (pv 4) (pa_cons (toBM (K := K) (pe_bm PySem.F.plainAttrs_list PySem.F.slot_list_pop PySem.F.type_list_pop mt_popAt (pv 3) (pa_cons (pe_call D_draw.ok (hr.mono (by decide)) (by rfl) D_draw.mg D_draw.kp D_draw.bi .nil pass0 (pa_cons (pv 0) (pa_cons (pe_callB (call_lenK (K := K)) (by rfl) T.b_len (by decide +kernel) (pa_cons (pv 3) pa_nil)) pa_nil))) pa_nil))) pa_nil))))))
    (pss_one (ps_ret (pv 4))))), fun ⟨p, xs, n, N⟩ ⟨h0, hl, hN⟩ => ?_⟩
  have hl : xs.length ≤ 100000 := hl
  have hN : N ≤ 100000000000 := hN
  have h0 : 0 ≤ n := h0
  refine xs_par2 (xo_of (xn_listOf seqL (ve_v rfl) fun a => xo_of (xn_lst (t := t) vi_nil (Nat.zero_le _) fun b => ?_)))
  have V : ∀ (o5 : Option Slot) (fo le : List α) (T' : Nat), Vw ([b, a] ++ [p]) [mL t fo, mL t le, mPen T'] [some ⟨yRef, p⟩, some ⟨yList t, xs⟩, some ⟨yInt, n⟩, some ⟨yRef, a⟩, some ⟨yRef, b⟩, o5] [some ⟨yRef, p⟩, some ⟨yList t, xs⟩, some ⟨yInt, n⟩, some ⟨yList t, le⟩, some ⟨yRef, b⟩, o5] := fun o5 fo le T' => vw_list (i := 3) (j := 1) (t := t) (xs := le) vw_refl rfl rfl rfl
  refine xs_seq (xs_forR (n := if (xs.length : Int) < n then (xs.length : Int) else n) (xe_view (V none [] xs N) (ve_min2 (ve_int1 (ve_v rfl)) (ve_len seqL (ve_v rfl))) ⟨rfl, rfl⟩) (by split <;> omega) (by split <;> omega) (fun i s' ms' => ∃ o5 fo le, s' = [some ⟨yRef, p⟩, some ⟨yList t, xs⟩, some ⟨yInt, n⟩, some ⟨yRef, a⟩, some ⟨yRef, b⟩, o5] ∧ ms' = [mL t fo, mL t le, mPen (N + fo.length)] ∧ (fo ++ le).Perm xs ∧ fo.length = i) ⟨none, [], xs, rfl, rfl, List.Perm.refl _, rfl⟩ ?_ ?_)
  · rintro i s' ms' hi ⟨o5, fo, le, rfl, rfl, hp, hfo⟩
    have hi : (i : Int) < if (xs.length : Int) < n then (xs.length : Int) else n := hi
    have hix : i < xs.length := by split at hi <;> omega
    have hlen : fo.length + le.length = xs.length := by rw [← List.length_append]; exact hp.length_eq
    have hle : 0 < le.length := by omega
    refine xs_dropX (xe_app (i := 0) (ve_v rfl) rfl (xe_popAt (i := 1) (ve_v rfl) rfl rfl (xe_call1 (xa_cons (xe_of (ve_v rfl) (xa_cons (xe_view (V _ fo le _) (ve_len seqL (ve_v rfl)) (xa_nil ⟨(p, _, _), 2, p, _, rfl, rfl, rfl, rfl, rfl, ?_, ?_⟩))))))) rfl)
    · exact ⟨by show (0 : Int) < (le.length : Int); omega, by show (le.length : Int) < 1073741824; omega, by show N + fo.length ≤ 1000000000000; omega⟩
    · rintro r m' ⟨r0, r1, em⟩
      have em := (List.cons.inj em).1
      subst em
      have r1 : r < (le.length : Int) := r1
      have hr : r.toNat < le.length := by omega
      refine ⟨le, r.toNat, le[r.toNat], by omega, by omega, rfl, List.getElem?_eq_getElem hr, fo, rfl, by omega, _, fo ++ [le[r.toNat]], le.eraseIdx r.toNat, rfl, ?_, ?_, ?_⟩
      · show [mL t (fo ++ [le[r.toNat]]), mL t (le.eraseIdx r.toNat), mPen (N + fo.length + 1)] = _
        rw [List.length_append, List.length_singleton, ← Nat.add_assoc]
      · refine List.Perm.trans ?_ hp
        rw [List.append_assoc]
        exact List.Perm.append_left fo (perm_erase hr)
      · rw [List.length_append, hfo]
        rfl
  · rintro s' ms' ⟨o5, fo, le, rfl, rfl, hp, hfo⟩
    have hlen : fo.length + le.length = xs.length := by rw [← List.length_append]; exact hp.length_eq
    refine xs_retL (i := 0) (ve_v rfl) rfl rfl ⟨by show fo.length ≤ xs.length; omega, fun y hy => hp.mem_iff.mp (List.mem_append_left _ hy), fo.length, by show fo.length ≤ xs.length; omega, rfl⟩
end
end Fp

namespace Fp
open PySem L2
section
variable {P : Program} {w : World} {K : PySem.W.Frag} {mg : Str → Option Value} {base : Heap} {ss : SS}
abbrev R9 (xs : List Str) : Prop := xs.length ≤ 9 ∧ ∀ x ∈ xs, x ∈ nine
theorem kinds_9 : ∀ p ∈ kinds13, R9 p.2 := by decide +kernel
theorem closure_9 (xs : List Str) : R9 (closureL xs) := ⟨List.length_filter_le _ _, fun x h => (List.mem_filter.mp h).1⟩
theorem R9.rb {xs : List Str} (h : R9 xs) : RB xs := ⟨Nat.le_trans h.1 (by decide), h.2⟩
abbrev s_near : Stmt := top 21
theorem sc_near : FnScope ["_law_pen_here", "_law_some", "_law_way", "_law_one", "_law_rule"] ["_law_pen_here", "_law_some"] (defScope s_near) := ⟨rfl, rfl, rfl, by decide +kernel, rfl, by decide +kernel, by decide +kernel⟩

abbrev spNear : Sp := SpX (A := Addr × List Str × Nat) (fun a => [a.1]) (fun a => [⟨yRef, a.1⟩, ⟨yList yStr, a.2.1⟩]) (fun a => [mPen a.2.2]) (fun a => R9 a.2.1 ∧ a.2.2 ≤ 10000000000) (yList yStr) (fun a ys ms' => R9 ys ∧ ∃ k, k ≤ 40 ∧ ms' = [mPen (a.2.2 + k)])
theorem ok_near {f fD fF fN fC fK fT : Addr} {fd fdD fdF fdN fdC fdK fdT : FuncData} (F : FnP K "_law_near" s_near f fd) (T : Tx w K mg) (D_draw : Def P w K mg base 1 "_law_draw" ["_law_pen_here", "_law_span"] spDraw fD fdD) (D_few : Def P w K mg base 2 "_law_few" ["_law_pen_here", "_law_items", "_law_span"] (spFew yStr) fF fdF)
    (D_nine : Def P w K mg base 1 "_law_nine" [] spNine fN fdN) (D_closure : Def P w K mg base 3 "_law_closure" ["_law_names"] spClos fC fdC) (D_pick : Def P w K mg base 2 "_law_pick" ["_law_pen_here", "_law_options"] (spPick (yPair K yStr (yList yStr))) fK fdK) (D_thirteen : Def P w K mg base 2 "_law_thirteen" [] (spThir K) fT fdT) :
    FnOk P w K mg base CX0 4 f fd ["_law_pen_here", "_law_some"] spNear := by
  refine fnX F sc_near (fun _ => rfl) fun cdv A outer s H E hr => ?_
  refine ⟨_, (pss_cons (ps_asg (pe_tup (pa_cons (pe_call D_draw.ok (hr.mono (by decide)) (by rfl) D_draw.mg D_draw.kp D_draw.bi .nil pass0 (pa_cons (pv 0) (pa_cons pe_int pa_nil))) (pa_cons (pe_call D_few.ok (hr.mono (by decide)) (by rfl) D_few.mg D_few.kp D_few.bi .nil pass0 (pa_cons (pv 0) (pa_cons (pe_call0 D_nine.ok (hr.mono (by decide)) (by rfl) D_nine.mg D_nine.kp D_nine.bi .nil pass0) (pa_cons pe_int pa_nil)))) pa_nil))) (pg_tupK (K := K) (n := 2) (by rfl) (pgs_cons (pg_name (i := 2) sc_near.nd rfl (by first | exact Or.inl rfl | exact Or.inr rfl)) (pgs_cons (pg_name (i := 3) sc_near.nd rfl (by first | exact Or.inl rfl | exact Or.inr rfl)) pgs_nil))))
    (pss_cons (ps_if (pt_cmpR op_eq (pv 2) pe_int (nomark _)) (pss_one (ps_ret (pe_callTy (call_listK (K := K)) (by rfl) T.b_list (by decide +kernel) (pa_cons (pv 1) pa_nil)))) pss_nil)
    (pss_cons (ps_if (pt_cmpR op_eq (pv 2) pe_int (nomark _)) (pss_one (ps_ret (pe_call D_closure.ok (hr.mono (by decide)) (by rfl) D_closure.mg D_closure.kp D_closure.bi .nil pass0 (pa_cons (pv 1) pa_nil)))) pss_nil)
    (pss_cons (ps_if (pt_cmpR op_eq (pv 2) pe_int (nomark _)) (pss_one (ps_ret (pe_lc (own := [("_law_rule", 4)]) rfl sc_near.nd (pi_listK (K := K) (pe_call0 D_nine.ok (hr.mono (by decide)) (by rfl) D_nine.mg D_nine.kp D_nine.bi .nil pass0)) (blkOk_by (by kernel_rfl)) (fun _ _ _ _ _ => (pg_name (i := 4) sc_near.nd rfl (by first | exact Or.inl rfl | exact Or.inr rfl))) (fun _ _ _ _ _ => (pts_one (PW.pt (pw_or (pt_cmpR (op_inK (K := K)) (pv 4) (pv 1) (by rfl)) (pw_or1 (pt_cmpR (op_inK (K := K)) (pv 4) (pv 3) (by rfl))))))) (fun _ _ _ _ _ => (pv 4))))) pss_nil)
    (pss_cons (ps_if (pt_cmpR op_eq (pv 2) pe_int (nomark _)) (pss_one (ps_ret (pe_lc (own := [("_law_rule", 4)]) rfl sc_near.nd (pi_listK (K := K) (pv 1)) (blkOk_by (by kernel_rfl)) (fun _ _ _ _ _ => (pg_name (i := 4) sc_near.nd rfl (by first | exact Or.inl rfl | exact Or.inr rfl))) (fun _ _ _ _ _ => (pts_one (pt_cmpR (op_notInK (K := K)) (pv 4) (pv 3) (by rfl)))) (fun _ _ _ _ _ => (pv 4))))) pss_nil)
    (pss_one (ps_ret (pe_ifExp (pt_cmpR op_eq (pv 2) pe_int (nomark _)) (pe_call D_few.ok (hr.mono (by decide)) (by rfl) D_few.mg D_few.kp D_few.bi .nil pass0 (pa_cons (pv 0) (pa_cons (pe_call0 D_nine.ok (hr.mono (by decide)) (by rfl) D_nine.mg D_nine.kp D_nine.bi .nil pass0) (pa_cons (pe_call D_draw.ok (hr.mono (by decide)) (by rfl) D_draw.mg D_draw.kp D_draw.bi .nil pass0 (pa_cons (pv 0) (pa_cons pe_int pa_nil))) pa_nil)))) (pe_ix (ix_tupK (K := K)) (pe_call D_pick.ok (hr.mono (by decide)) (by rfl) D_pick.mg D_pick.kp D_pick.bi .nil pass0 (pa_cons (pv 0) (pa_cons (pe_call0 D_thirteen.ok (hr.mono (by decide)) (by rfl) D_thirteen.mg D_thirteen.kp D_thirteen.bi .nil pass0) pa_nil))) pe_int (fun _ _ => rfl)))))))))), fun ⟨p, sm, N⟩ ⟨h9, hN⟩ => ?_⟩
  have h9 : R9 sm := h9
  have hN : N ≤ 10000000000 := hN
  have fewOk : ∀ {n : Int} {M : Nat}, 0 ≤ n → M ≤ 100000000000 → 0 ≤ n ∧ nine.length ≤ 100000 ∧ M ≤ 100000000000 := fun h1 h2 => ⟨h1, by decide, h2⟩
  refine xs_seq (xs_asgT (tg_pair (ws := [2, 3]) List.mem_cons_self (List.mem_cons_of_mem _ List.mem_cons_self)) (xe_pair (K := K) (t := yInt) (u := yList yStr) (xe_draw (i := 0) (j := 0) rfl rfl (xe_of ve_int ⟨N, rfl, by decide, by decide, by omega, fun way w0 w1 => xe_call1 (xa_of (vs_cons (ve_v rfl) (vs_cons (ve_call () vs_nil trivial) (vs_cons ve_int vs_nil))) ⟨(p, nine, 1, N + 1), 0, p, _, rfl, rfl, rfl, rfl, rfl, fewOk (n := 1) (M := N + 1) (by decide) (by omega), ?_⟩)⟩))))
  rintro one m' ⟨ho, ho2, k, hk, em⟩
  have em := (List.cons.inj em).1
  subst em
  have hk : k ≤ 9 := hk
  refine xs_seq (xs_if (vb_test (ve_eq (ve_v rfl) ve_int)) (fun _ => xs_ret (ve_listOf seqL (ve_v rfl)) ⟨h9, k + 1, by omega, ?_⟩) fun _ => xs_next ?_)
  · show [mPen (N + 1 + k)] = [mPen (N + (k + 1))]
    rw [show N + 1 + k = N + (k + 1) by omega]
  refine xs_seq (xs_if (vb_test (ve_eq (ve_v rfl) ve_int)) (fun _ => xs_ret (ve_call sm (vs_cons (ve_v rfl) vs_nil) h9.rb) ⟨closure_9 sm, k + 1, by omega, ?_⟩) fun _ => xs_next ?_)
  · show [mPen (N + 1 + k)] = [mPen (N + (k + 1))]
    rw [show N + 1 + k = N + (k + 1) by omega]
  refine xs_seq (xs_if (vb_test (ve_eq (ve_v rfl) ve_int)) (fun _ => xs_ret (ve_is (ve_lcL (fun r => decide (r ∈ sm) || decide (r ∈ one)) (fun r => r) (tg_name (ws := [4]) List.mem_cons_self) (ve_call () vs_nil trivial) (by decide) (fun r hr => vb_or (vb_test (ve_in seqL (ve_v rfl) (ve_v rfl))) fun _ => vb_test (ve_in seqL (ve_v rfl) (ve_v rfl))) fun r hr _ => ve_v rfl) (List.map_id' _)) ⟨⟨List.length_filter_le _ _, fun x h => (List.mem_filter.mp h).1⟩, k + 1, by omega, ?_⟩) fun _ => xs_next ?_)
  · show [mPen (N + 1 + k)] = [mPen (N + (k + 1))]
    rw [show N + 1 + k = N + (k + 1) by omega]
  refine xs_seq (xs_if (vb_test (ve_eq (ve_v rfl) ve_int)) (fun _ => xs_ret (ve_is (ve_lcL (fun r => !decide (r ∈ one)) (fun r => r) (tg_name (ws := [4]) List.mem_cons_self) (ve_v rfl) (Nat.le_trans h9.1 (by decide)) (fun r hr => vb_test (ve_notin seqL (ve_v rfl) (ve_v rfl))) fun r hr _ => ve_v rfl) (List.map_id' _)) ⟨⟨Nat.le_trans (List.length_filter_le _ _) h9.1, fun x h => h9.2 x (List.mem_filter.mp h).1⟩, k + 1, by omega, ?_⟩) fun _ => xs_next ?_)
  · show [mPen (N + 1 + k)] = [mPen (N + (k + 1))]
    rw [show N + 1 + k = N + (k + 1) by omega]
  refine xs_retX (xe_if (xt_of (vb_test (ve_eq (ve_v rfl) ve_int)) ⟨fun _ => ?_, fun _ => ?_⟩))
  · refine xe_call1 (xa_cons (xe_of (ve_v rfl) (xa_cons (xe_of (ve_call () vs_nil trivial) (xa_cons (xe_draw (i := 0) (j := 0) rfl rfl (xe_of ve_int ⟨N + 1 + k, rfl, by decide, by decide, by omega, fun q q0 q1 => xa_nil ⟨(p, nine, q, N + 1 + k + 1), 0, p, _, rfl, rfl, rfl, rfl, rfl, fewOk (n := q) (M := N + 1 + k + 1) q0 (by omega), ?_⟩⟩)))))))
    rintro ys m' ⟨hy, hy2, j, hj, em⟩
    have em := (List.cons.inj em).1
    subst em
    have hj : j ≤ 9 := hj
    refine ⟨⟨hy, hy2⟩, k + j + 2, by omega, ?_⟩
    show [mPen (N + 1 + k + 1 + j)] = [mPen (N + (k + j + 2))]
    rw [show N + 1 + k + 1 + j = N + (k + j + 2) by omega]
  · refine xe_ixP1 (xe_call1 (xa_of (vs_cons (ve_v rfl) (vs_cons (ve_call () vs_nil trivial) vs_nil)) ⟨(p, kinds13, N + 1 + k), 0, p, _, rfl, rfl, rfl, rfl, rfl, ⟨by show kinds13 ≠ []; decide, by show kinds13.length ≤ 100000; decide, by show N + 1 + k ≤ 100000000000; omega⟩, ?_⟩))
    rintro q m' ⟨hq, em⟩
    have em := (List.cons.inj em).1
    subst em
    refine xe_of ve_int ⟨rfl, kinds_9 q hq, k + 2, by omega, ?_⟩
    show [mPen (N + 1 + k + 1)] = [mPen (N + (k + 2))]
    rw [show N + 1 + k + 1 = N + (k + 2) by omega]
abbrev s_order_right : Stmt := top 22
theorem sc_order_right : FnScope ["_law_one", "_law_two", "_law_some", "_law_more", "_law_below", "_law_above", "_law_due", "_law_rule"] ["_law_one", "_law_two", "_law_some", "_law_more"] (defScope s_order_right) := ⟨rfl, rfl, rfl, by decide +kernel, rfl, by decide +kernel, by decide +kernel⟩

abbrev C (K : PySem.W.Frag) : Addr := He.ga K "Rules"
abbrev spOrd (K : PySem.W.Frag) : Sp := SpF (A := List Str × List Str) (fun a => [⟨yRules K (C K), held a.1⟩, ⟨yRules K (C K), held a.2⟩, ⟨yList yStr, a.1⟩, ⟨yList yStr, a.2⟩]) RB2 yBool (fun _ => true)
theorem eqv_bls (a b c d : Bool) : PyData.eqv (.list ([a, b, c, d].map PyData.bool)) (.list ([a, b, c, d].map PyData.bool)) = true := by
  cases a <;> cases b <;> cases c <;> cases d <;> rfl
theorem shp_bls (xs : List Bool) : SeqAt.shaped (.list (xs.map PyData.bool)) = true := (shp_list (n := 0) (d := PyData.bool) fun x _ => ⟨rfl, Nat.le_refl _⟩).shaped (by decide)
theorem ok_order_right {f fC f1 f2 f3 f4 : Addr} {fd fdC fd1 fd2 fd3 fd4 : FuncData} (F : FnP K "_law_order_right" s_order_right f fd) (T : Tx w K mg) (D_closure : Def P w K mg base 3 "_law_closure" ["_law_names"] spClos fC fdC)
    (D_Rules_le : DefM P w K mg base 3 (C K) "__le__" ["self", "other"] (spR2b K (C K) fun a => impl a.2 a.1) f1 fd1) (D_Rules_lt : DefM P w K mg base 3 (C K) "__lt__" ["self", "other"] (spR2b K (C K) fun a => impl a.2 a.1 && !impl a.1 a.2) f2 fd2)
    (D_Rules_ge : DefM P w K mg base 3 (C K) "__ge__" ["self", "other"] (spR2b K (C K) fun a => impl a.1 a.2) f3 fd3) (D_Rules_gt : DefM P w K mg base 3 (C K) "__gt__" ["self", "other"] (spR2b K (C K) fun a => impl a.1 a.2 && !impl a.2 a.1) f4 fd4) :
    FnOk P w K mg base CX0 4 f fd ["_law_one", "_law_two", "_law_some", "_law_more"] (spOrd K) := by
  refine fnX F sc_order_right (fun _ => rfl) fun cdv A outer s H E hr => ?_
  refine ⟨_, (pss_cons (ps_set (i := 4) sc_order_right.nd rfl (by first | exact Or.inl rfl | exact Or.inr rfl) (pe_cmpR (op_eqK (K := K) hr.units) (pe_lc (own := [("_law_rule", 7)]) rfl sc_order_right.nd (pi_listK (K := K) (pv 2)) (blkOk_by (by kernel_rfl)) (fun _ _ _ _ _ => (pg_name (i := 7) sc_order_right.nd rfl (by first | exact Or.inl rfl | exact Or.inr rfl))) (fun _ _ _ _ _ => (pts_one (pt_cmpR (op_notInK (K := K)) (pv 7) (pe_call D_closure.ok (hr.mono (by decide)) (by rfl) D_closure.mg D_closure.kp D_closure.bi .nil pass0 (pa_cons (pv 3) pa_nil)) (by rfl)))) (fun _ _ _ _ _ => (pv 7))) (pe_lst pa_nil) (nomark _)))
    (pss_cons (ps_set (i := 5) sc_order_right.nd rfl (by first | exact Or.inl rfl | exact Or.inr rfl) (pe_cmpR (op_eqK (K := K) hr.units) (pe_lc (own := [("_law_rule", 7)]) rfl sc_order_right.nd (pi_listK (K := K) (pv 3)) (blkOk_by (by kernel_rfl)) (fun _ _ _ _ _ => (pg_name (i := 7) sc_order_right.nd rfl (by first | exact Or.inl rfl | exact Or.inr rfl))) (fun _ _ _ _ _ => (pts_one (pt_cmpR (op_notInK (K := K)) (pv 7) (pe_call D_closure.ok (hr.mono (by decide)) (by rfl) D_closure.mg D_closure.kp D_closure.bi .nil pass0 (pa_cons (pv 2) pa_nil)) (by rfl)))) (fun _ _ _ _ _ => (pv 7))) (pe_lst pa_nil) (nomark _)))
    (pss_cons (ps_set (i := 6) sc_order_right.nd rfl (by first | exact Or.inl rfl | exact Or.inr rfl) (pe_lst (pa_cons (pv 4) (pa_cons (pe_and (pv 4) (pe_one (pe_not (pv 5)))) (pa_cons (pv 5) (pa_cons (pe_and (pv 5) (pe_one (pe_not (pv 4)))) pa_nil))))))
    (pss_one (ps_ret (pe_cmpR (op_eqK (K := K) hr.units) (pe_lst (pa_cons (pe_cmpR ((op_cmp_own (op := .LtE) D_Rules_le.ok (hr.mono (by decide)) D_Rules_le.bi pass0 D_Rules_le.ow (fun _ _ => rfl))) (pv 0) (pv 1) (nomark _)) (pa_cons (pe_cmpR ((op_cmp_own (op := .Lt) D_Rules_lt.ok (hr.mono (by decide)) D_Rules_lt.bi pass0 D_Rules_lt.ow (fun _ _ => rfl))) (pv 0) (pv 1) (nomark _)) (pa_cons (pe_cmpR ((op_cmp_own (op := .GtE) D_Rules_ge.ok (hr.mono (by decide)) D_Rules_ge.bi pass0 D_Rules_ge.ow (fun _ _ => rfl))) (pv 0) (pv 1) (nomark _)) (pa_cons (pe_cmpR ((op_cmp_own (op := .Gt) D_Rules_gt.ok (hr.mono (by decide)) D_Rules_gt.bi pass0 D_Rules_gt.ow (fun _ _ => rfl))) (pv 0) (pv 1) (nomark _)) pa_nil))))) (pv 6) (nomark _))))))), fun ⟨a, b⟩ ⟨ha, hb⟩ => ?_⟩
  have ha : RB a := ha
  have hb : RB b := hb
  have iR : InsY (C K) (yRules K (C K)) "x" := insRules (by decide +kernel)
  have hh : RB2 (held a, held b) := ⟨held_rb a, held_rb b⟩
  refine xs_seq (xs_asg (ve_eqD (isD_list isD_str) (isD_list isD_str) (ve_is (ve_lcL (fun r => !decide (r ∈ closureL b)) (fun r => r) (tg_name (ws := [7]) List.mem_cons_self) (ve_v rfl) (Nat.le_trans ha.1 (by decide)) (fun r hr => vb_test (ve_notin seqL (ve_v rfl) (ve_call b (vs_cons (ve_v rfl) vs_nil) hb))) fun r hr _ => ve_v rfl) (List.map_id' _)) (ve_lst (t := yStr) vi_nil (Nat.zero_le _)) (shp_strs fun x h => nine_ok x (ha.2 x (List.mem_filter.mp h).1)) rfl (eqv_strs0 _)) ?_)
  refine xs_seq (xs_asg (ve_eqD (isD_list isD_str) (isD_list isD_str) (ve_is (ve_lcL (fun r => !decide (r ∈ closureL a)) (fun r => r) (tg_name (ws := [7]) List.mem_cons_self) (ve_v rfl) (Nat.le_trans hb.1 (by decide)) (fun r hr => vb_test (ve_notin seqL (ve_v rfl) (ve_call a (vs_cons (ve_v rfl) vs_nil) ha))) fun r hr _ => ve_v rfl) (List.map_id' _)) (ve_lst (t := yStr) vi_nil (Nat.zero_le _)) (shp_strs fun x h => nine_ok x (hb.2 x (List.mem_filter.mp h).1)) rfl (eqv_strs0 _)) ?_)
  rw [← impl_eq hb.2 ha.2, ← impl_eq ha.2 hb.2]
  refine xs_seq (xs_asg (ve_lst (vi_cons (ve_v rfl) (vi_cons (ve_and (ve_v rfl) fun _ => ve_not (ve_v rfl)) (vi_cons (ve_v rfl) (vi_cons (ve_and (ve_v rfl) fun _ => ve_not (ve_v rfl)) vi_nil)))) (by show (4 : Nat) ≤ 1000000; decide)) ?_)
  exact xs_ret (ve_eqD (isD_list isD_bl) (isD_list isD_bl) (ve_lst (vi_cons (ve_cmpO iR (held a, held b) rfl hh (ve_v rfl) (ve_v rfl)) (vi_cons (ve_cmpO iR (held a, held b) rfl hh (ve_v rfl) (ve_v rfl)) (vi_cons (ve_cmpO iR (held a, held b) rfl hh (ve_v rfl) (ve_v rfl)) (vi_cons (ve_cmpO iR (held a, held b) rfl hh (ve_v rfl) (ve_v rfl)) vi_nil)))) (by show (4 : Nat) ≤ 1000000; decide)) (ve_v rfl) (shp_bls _) (shp_bls _) (eqv_bls _ _ _ _)) rfl
abbrev s_law : Stmt := top 23
theorem sc_law : FnScope ["_law_script", "_law_pen_here", "_law_turn", "_law_some", "_law_more", "_law_one", "_law_two", "_law_due", "_law_found", "_law_alike", "_law_rule", "_law_each"] ["_law_script"] (defScope s_law) := ⟨rfl, rfl, rfl, by decide +kernel, rfl, by decide +kernel, by decide +kernel⟩

theorem eqv_lls (xs ys : List (List Str)) : PyData.eqv (.list (xs.map fun x => .list (x.map PyData.str))) (.list (ys.map fun x => .list (x.map PyData.str))) = decide (xs = ys) := eqvAll_map (d := fun x : List Str => .list (x.map PyData.str)) eqv_strs xs ys
theorem due_in {p : Str → Bool} : ∀ x ∈ nine.filter p, x ∈ nine := fun _ h => (List.mem_filter.mp h).1
theorem ok_law {f fP fD fS fN fNe fI fO f1 f2 f3 f4 f5 f6 : Addr} {fd fdP fdD fdS fdN fdNe fdI fdO fd1 fd2 fd3 fd4 fd5 fd6 : FuncData} (F : FnP K "law" s_law f fd) (T : Tx w K mg)
    (D_pen : Def P w K mg base 1 "_law_pen" ["_law_script"] (spPen K) fP fdP) (D_draw : Def P w K mg base 1 "_law_draw" ["_law_pen_here", "_law_span"] spDraw fD fdD) (D_shuffled : Def P w K mg base 2 "_law_shuffled" ["_law_pen_here", "_law_items"] (spShuf K yStr PyData.str) fS fdS)
    (D_nine : Def P w K mg base 1 "_law_nine" [] spNine fN fdN) (D_near : Def P w K mg base 4 "_law_near" ["_law_pen_here", "_law_some"] spNear fNe fdNe) (D_order_right : Def P w K mg base 4 "_law_order_right" ["_law_one", "_law_two", "_law_some", "_law_more"] (spOrd K) fO fdO)
    (D_Rules_init : DefI P w K mg base 1 (C K) ["self", "names"] (spRInit K (C K)) fI fdI) (D_Rules_listed : DefM P w K mg base 1 (C K) "listed" ["self"] (spRListed K (C K)) f1 fd1) (D_Rules_eq : DefM P w K mg base 1 (C K) "__eq__" ["self", "other"] (spREq K (C K)) f2 fd2)
    (D_Rules_or : DefM P w K mg base 3 (C K) "__or__" ["self", "other"] (spR2 K (C K) fun a => held (a.1 ++ a.2)) f3 fd3) (D_Rules_and : DefM P w K mg base 3 (C K) "__and__" ["self", "other"] (spR2 K (C K) fun a => held (a.1.filter fun n => decide (n ∈ a.2))) f4 fd4)
    (D_Rules_sub : DefM P w K mg base 3 (C K) "__sub__" ["self", "other"] (spR2 K (C K) fun a => held (a.1.filter fun n => !decide (n ∈ a.2))) f5 fd5) (D_Rules_xor : DefM P w K mg base 3 (C K) "__xor__" ["self", "other"] (spR2 K (C K) fun a => held (nine.filter fun n => !decide (decide (n ∈ a.1) = decide (n ∈ a.2)))) f6 fd6) :
    FnOk P w K mg base CX0 6 f fd ["_law_script"] (spLaw K) := by
  refine fnX F sc_law (fun _ => rfl) fun cdv A outer s H E hr => ?_
  refine ⟨_, (pss_cons (ps_set (i := 1) sc_law.nd rfl (by first | exact Or.inl rfl | exact Or.inr rfl) (pe_call D_pen.ok (hr.mono (by decide)) (by rfl) D_pen.mg D_pen.kp D_pen.bi .nil pass0 (pa_cons (pv 0) pa_nil)))
    (pss_cons (ps_for PassesOwn.never rfl (pi_range1 (by rfl) T.b_range (pa_cons pe_int pa_nil)) (pg_name (i := 2) sc_law.nd rfl (by first | exact Or.inl rfl | exact Or.inr rfl))
    (pss_cons (ps_set (i := 3) sc_law.nd rfl (by first | exact Or.inl rfl | exact Or.inr rfl) (pe_lc (own := [("_law_rule", 10)]) rfl sc_law.nd (pi_listK (K := K) (pe_call0 D_nine.ok (hr.mono (by decide)) (by rfl) D_nine.mg D_nine.kp D_nine.bi .nil pass0)) (blkOk_by (by kernel_rfl)) (fun _ _ _ _ _ => (pg_name (i := 10) sc_law.nd rfl (by first | exact Or.inl rfl | exact Or.inr rfl))) (fun _ _ _ _ _ => (pts_one (pt_cmpR op_eq (pe_call D_draw.ok (hr.mono (by decide)) (by rfl) D_draw.mg D_draw.kp D_draw.bi .nil pass0 (pa_cons (pv 1) (pa_cons pe_int pa_nil))) pe_int (nomark _)))) (fun _ _ _ _ _ => (pv 10))))
    (pss_cons (ps_set (i := 4) sc_law.nd rfl (by first | exact Or.inl rfl | exact Or.inr rfl) (pe_call D_near.ok (hr.mono (by decide)) (by rfl) D_near.mg D_near.kp D_near.bi .nil pass0 (pa_cons (pv 1) (pa_cons (pv 3) pa_nil))))
    (pss_cons (ps_par (i := 5) (j := 6) (by rfl) sc_law.nd rfl rfl (by decide) rfl rfl (pa_cons (pe_make D_Rules_init.mkr D_Rules_init.ok (hr.mono (by decide)) (by rfl) T.g_Rules D_Rules_init.bi D_Rules_init.df pass0 (pa_cons (pv 3) pa_nil)) (pa_cons (pe_make D_Rules_init.mkr D_Rules_init.ok (hr.mono (by decide)) (by rfl) T.g_Rules D_Rules_init.bi D_Rules_init.df pass0 (pa_cons (pe_call D_shuffled.ok (hr.mono (by decide)) (by rfl) D_shuffled.mg D_shuffled.kp D_shuffled.bi .nil pass0 (pa_cons (pv 1) (pa_cons (pv 4) pa_nil))) pa_nil)) pa_nil)) (by rfl))
    (pss_cons (ps_set (i := 7) sc_law.nd rfl (by first | exact Or.inl rfl | exact Or.inr rfl) (pe_lst (pa_cons (pe_lc (own := [("_law_rule", 10)]) rfl sc_law.nd (pi_listK (K := K) (pe_call0 D_nine.ok (hr.mono (by decide)) (by rfl) D_nine.mg D_nine.kp D_nine.bi .nil pass0)) (blkOk_by (by kernel_rfl)) (fun _ _ _ _ _ => (pg_name (i := 10) sc_law.nd rfl (by first | exact Or.inl rfl | exact Or.inr rfl))) (fun _ _ _ _ _ => (pts_one (PW.pt (pw_or (pt_cmpR (op_inK (K := K)) (pv 10) (pv 3) (by rfl)) (pw_or1 (pt_cmpR (op_inK (K := K)) (pv 10) (pv 4) (by rfl))))))) (fun _ _ _ _ _ => (pv 10))) pa_nil)))
    (pss_cons (ps_expr (toBM (K := K) (pe_bm PySem.F.plainAttrs_list PySem.F.slot_list_append PySem.F.type_list_append mt_append (pv 7) (pa_cons (pe_lc (own := [("_law_rule", 10)]) rfl sc_law.nd (pi_listK (K := K) (pe_call0 D_nine.ok (hr.mono (by decide)) (by rfl) D_nine.mg D_nine.kp D_nine.bi .nil pass0)) (blkOk_by (by kernel_rfl)) (fun _ _ _ _ _ => (pg_name (i := 10) sc_law.nd rfl (by first | exact Or.inl rfl | exact Or.inr rfl))) (fun _ _ _ _ _ => (pts_one (PW.pt (pw_and (pt_cmpR (op_inK (K := K)) (pv 10) (pv 3) (by rfl)) (pw_and1 (pt_cmpR (op_inK (K := K)) (pv 10) (pv 4) (by rfl))))))) (fun _ _ _ _ _ => (pv 10))) pa_nil))))
    (pss_cons (ps_expr (toBM (K := K) (pe_bm PySem.F.plainAttrs_list PySem.F.slot_list_append PySem.F.type_list_append mt_append (pv 7) (pa_cons (pe_lc (own := [("_law_rule", 10)]) rfl sc_law.nd (pi_listK (K := K) (pe_call0 D_nine.ok (hr.mono (by decide)) (by rfl) D_nine.mg D_nine.kp D_nine.bi .nil pass0)) (blkOk_by (by kernel_rfl)) (fun _ _ _ _ _ => (pg_name (i := 10) sc_law.nd rfl (by first | exact Or.inl rfl | exact Or.inr rfl))) (fun _ _ _ _ _ => (pts_one (PW.pt (pw_and (pt_cmpR (op_inK (K := K)) (pv 10) (pv 3) (by rfl)) (pw_and1 (pt_cmpR (op_notInK (K := K)) (pv 10) (pv 4) (by rfl))))))) (fun _ _ _ _ _ => (pv 10))) pa_nil))))
    (pss_cons (ps_expr (toBM (K := K) (pe_bm PySem.F.plainAttrs_list PySem.F.slot_list_append PySem.F.type_list_append mt_append (pv 7) (pa_cons (pe_lc (own := [("_law_rule", 10)]) rfl sc_law.nd (pi_listK (K := K) (pe_call0 D_nine.ok (hr.mono (by decide)) (by rfl) D_nine.mg D_nine.kp D_nine.bi .nil pass0)) (blkOk_by (by kernel_rfl)) (fun _ _ _ _ _ => (pg_name (i := 10) sc_law.nd rfl (by first | exact Or.inl rfl | exact Or.inr rfl))) (fun _ _ _ _ _ => (pts_one (pt_cmpR op_ne (pe_cmpR (op_inK (K := K)) (pv 10) (pv 3) (by rfl)) (pe_cmpR (op_inK (K := K)) (pv 10) (pv 4) (by rfl)) (nomark _)))) (fun _ _ _ _ _ => (pv 10))) pa_nil))))
    (pss_cons (ps_set (i := 8) sc_law.nd rfl (by first | exact Or.inl rfl | exact Or.inr rfl) (pe_lst (pa_cons (pe_op (op_bin_own (op := .BitOr) D_Rules_or.ok (hr.mono (by decide)) D_Rules_or.bi pass0 D_Rules_or.ow T.f_Rules) (pv 5) (pv 6)) (pa_cons (pe_op (op_bin_own (op := .BitAnd) D_Rules_and.ok (hr.mono (by decide)) D_Rules_and.bi pass0 D_Rules_and.ow T.f_Rules) (pv 5) (pv 6)) (pa_cons (pe_op (op_bin_own (op := .Sub) D_Rules_sub.ok (hr.mono (by decide)) D_Rules_sub.bi pass0 D_Rules_sub.ow T.f_Rules) (pv 5) (pv 6)) (pa_cons (pe_op (op_bin_own (op := .BitXor) D_Rules_xor.ok (hr.mono (by decide)) D_Rules_xor.bi pass0 D_Rules_xor.ow T.f_Rules) (pv 5) (pv 6)) pa_nil))))))
    (pss_cons (ps_if (PW.pt (pw_or (pt_cmpR (op_neK (K := K) hr.units) (pe_lc (own := [("_law_each", 11)]) rfl sc_law.nd (pi_listK (K := K) (pv 8)) (blkOk_by (by kernel_rfl)) (fun _ _ _ _ _ => (pg_name (i := 11) sc_law.nd rfl (by first | exact Or.inl rfl | exact Or.inr rfl))) (fun _ _ _ _ _ => pts_nil) (fun _ _ _ _ _ => (pe_meth0 (pv 11) T.c_Rules D_Rules_listed.me D_Rules_listed.ok (hr.mono (by decide)) D_Rules_listed.bi .nil pass0))) (pv 7) (nomark _)) (pw_or1 (pt_not (pt_val (pe_callB (call_isiX (K := K)) (by rfl) T.b_isinstance (by decide +kernel) (pa_cons (pe_ix (ix_listK (K := K)) (pv 8) pe_int (fun _ _ => rfl)) (pa_cons (pe_glob (v := .ref (He.ga K "Rules")) (by rfl) T.g_Rules rfl) pa_nil)))))))) (pss_one (ps_ret pe_bl)) pss_nil)
    (pss_cons (ps_if (PW.pt (pw_or (pt_not (pt_val (pe_call D_order_right.ok (hr.mono (by decide)) (by rfl) D_order_right.mg D_order_right.kp D_order_right.bi .nil pass0 (pa_cons (pv 5) (pa_cons (pv 6) (pa_cons (pv 3) (pa_cons (pv 4) pa_nil))))))) (pw_or1 (pt_not (pt_val (pe_call D_order_right.ok (hr.mono (by decide)) (by rfl) D_order_right.mg D_order_right.kp D_order_right.bi .nil pass0 (pa_cons (pv 6) (pa_cons (pv 5) (pa_cons (pv 4) (pa_cons (pv 3) pa_nil)))))))))) (pss_one (ps_ret pe_bl)) pss_nil)
    (pss_cons (ps_set (i := 9) sc_law.nd rfl (by first | exact Or.inl rfl | exact Or.inr rfl) (pe_cmpR (op_eqK (K := K) hr.units) (pe_ix (ix_listK (K := K)) (pv 7) pe_int (fun _ _ => rfl)) (pe_ix (ix_listK (K := K)) (pv 7) pe_int (fun _ _ => rfl)) (nomark _)))
    (pss_cons (ps_if (PW.pt (pw_or (pt_cmpR op_ne (pe_cmpR (op_cmp_own (op := .Eq) D_Rules_eq.ok (hr.mono (by decide)) D_Rules_eq.bi pass0 D_Rules_eq.ow (fun _ _ => rfl)) (pv 5) (pv 6) (nomark _)) (pv 9) (nomark _)) (pw_or (pt_cmpR op_eq (pe_cmpR (op_ne_own D_Rules_eq.ok (hr.mono (by decide)) D_Rules_eq.bi pass0 D_Rules_eq.ow T.ne_Rules) (pv 5) (pv 6) (nomark _)) (pv 9) (nomark _)) (pw_or1 (pt_not (pt_val (pe_call D_order_right.ok (hr.mono (by decide)) (by rfl) D_order_right.mg D_order_right.kp D_order_right.bi .nil pass0 (pa_cons (pv 5) (pa_cons (pv 5) (pa_cons (pv 3) (pa_cons (pv 3) pa_nil))))))))))) (pss_one (ps_ret pe_bl)) pss_nil)
    (pss_one (ps_if (PW.pt (pw_or (pt_cmpR (op_neK (K := K) hr.units) (pe_meth0 (pv 5) T.c_Rules D_Rules_listed.me D_Rules_listed.ok (hr.mono (by decide)) D_Rules_listed.bi .nil pass0) (pv 3) (nomark _)) (pw_or1 (pt_cmpR (op_neK (K := K) hr.units) (pe_meth0 (pv 6) T.c_Rules D_Rules_listed.me D_Rules_listed.ok (hr.mono (by decide)) D_Rules_listed.bi .nil pass0) (pe_lc (own := [("_law_rule", 10)]) rfl sc_law.nd (pi_listK (K := K) (pe_call0 D_nine.ok (hr.mono (by decide)) (by rfl) D_nine.mg D_nine.kp D_nine.bi .nil pass0)) (blkOk_by (by kernel_rfl)) (fun _ _ _ _ _ => (pg_name (i := 10) sc_law.nd rfl (by first | exact Or.inl rfl | exact Or.inr rfl))) (fun _ _ _ _ _ => (pts_one (pt_cmpR (op_inK (K := K)) (pv 10) (pv 4) (by rfl)))) (fun _ _ _ _ _ => (pv 10))) (nomark _))))) (pss_one (ps_ret pe_bl)) pss_nil)))))))))))))))
    (pss_one (ps_ret pe_bl)))), fun ns hns => ?_⟩
  have iR : ∀ {m : Str}, ¬ m = "held" → InsY (C K) (yRules K (C K)) m := fun h => insRules h
  refine xs_newO (xo_call ns (vs_cons (ve_v rfl) vs_nil) hns fun m em p => ?_)
  subst em
  refine xs_seq (xs_forR (n := 20) (xe_of ve_int ⟨rfl, rfl⟩) (by decide) (by decide) (fun i s' ms' => ∃ o2 o3 o4 o5 o6 o7 o8 o9 T', s' = [some ⟨yScr K, ns⟩, some ⟨yRef, p⟩, o2, o3, o4, o5, o6, o7, o8, o9, none, none] ∧ ms' = [mPen T'] ∧ T' ≤ 80 * i) ⟨none, none, none, none, none, none, none, none, 0, rfl, rfl, Nat.zero_le _⟩ ?_ ?_)
  · rintro i s' ms' hi ⟨o2, o3, o4, o5, o6, o7, o8, o9, T', rfl, rfl, hT⟩
    have hi : i < 20 := by omega
    refine xs_seq (xs_asgX (xe_new (xn_lcL (u := yStr) (tg_name (ws := [10]) List.mem_cons_self) (ve_call () vs_nil trivial) (fun j ys ms' => ys.Sublist (nine.take j) ∧ ms' = [mPen (T' + j)]) ⟨List.Sublist.refl _, rfl⟩ ?_ ?_)))
    · rintro j x ys ms' hx ⟨hs, rfl⟩
      have hj : j < 9 := (List.getElem?_eq_some_iff.mp hx).1
      have ht : nine.take (j + 1) = nine.take j ++ [x] := by rw [List.take_add_one, hx]; rfl
      refine xt_test (xe_eq (xe_draw (i := 1) (j := 0) rfl rfl (xe_of ve_int ⟨_, rfl, by decide, by decide, by omega, fun q q0 q1 => xe_of ve_int ?_⟩)))
      by_cases h0 : q = 0
      · rw [decide_eq_true h0]
        refine xe_of (ve_v rfl) ⟨?_, ?_, rfl⟩
        · have := hs.length_le
          rw [List.length_take] at this
          omega
        · rw [ht]
          exact hs.append_right [x]
      · rw [decide_eq_false h0]
        exact ⟨by rw [ht]; exact hs.trans (List.sublist_append_left _ _), rfl⟩
    rintro sm ms' ⟨hsm, rfl⟩
    have hsm : sm.Sublist nine := hsm
    have hs9 : R9 sm := ⟨hsm.length_le, fun x h => hsm.subset h⟩
    have hh : held sm = sm := (chk_of hsm).h
    have e9 : nine.length = 9 := rfl
    -- more
    refine xs_seq (xs_asgX (xe_call1 (xa_of (vs_cons (ve_v rfl) (vs_cons (ve_v rfl) vs_nil)) ⟨(p, sm, T' + nine.length), 0, p, _, rfl, rfl, rfl, rfl, rfl, ⟨hs9, by show T' + nine.length ≤ 10000000000; omega⟩, ?_⟩)))
    rintro more m' ⟨hm9, k, hk, em⟩
    have em := (List.cons.inj em).1
    subst em
    have hm9 : R9 more := hm9
    have hk : k ≤ 40 := hk
    -- one, two
    refine xs_seq (xs_parX (t := yRules K (C K)) (u := yRules K (C K)) (xe_of (ve_Rules (ve_v rfl) hs9.rb.1 hs9.2) (xe_frz (xo_make (xa_cons (xe_call1 (xa_of (vs_cons (ve_v rfl) (vs_cons (ve_v rfl) vs_nil)) ⟨(p, more, T' + nine.length + k), 0, p, _, rfl, rfl, rfl, rfl, rfl, ⟨Nat.le_trans hm9.1 (by decide), by show T' + nine.length + k ≤ 100000000000; omega, fun x hx => ⟨nine_ok x (hm9.2 x hx), Nat.zero_le _⟩⟩, ?_⟩)))))))
    rintro ys m' ⟨hperm, em⟩
    have em := (List.cons.inj em).1
    subst em
    refine xa_nil ⟨fun o => (o, ys), fun _ => rfl, fun _ => rfl, fun _ => rfl, fun _ => ⟨by rw [hperm.length_eq]; exact hm9.rb.1, fun x hx => hm9.2 x (hperm.mem_iff.mp hx)⟩, fun o m' em => ⟨held more, ?_, ?_⟩⟩
    · have em := (List.cons.inj em).1
      subst em
      have e : held ys = held more := held_perm hperm
      rw [show held (o, ys).2 = held more from e]
      exact frzRules
    -- due
    refine xs_new (xn_lst (t := yList yStr) (vi_cons (ve_is (ve_lcL (fun r => decide (r ∈ sm) || decide (r ∈ more)) (fun r => r) (tg_name (ws := [10]) List.mem_cons_self) (ve_call () vs_nil trivial) (by decide) (fun r hr => vb_or (vb_test (ve_in seqL (ve_v rfl) (ve_v rfl))) fun _ => vb_test (ve_in seqL (ve_v rfl) (ve_v rfl))) fun r hr _ => ve_v rfl) (List.map_id' _)) vi_nil) (by show (1 : Nat) ≤ 1000000; decide) fun a => ?_)
    refine xs_seq (xs_dropX (xe_app (i := 0) (ve_v rfl) rfl (xe_of (ve_is (ve_lcL (fun r => decide (r ∈ sm) && decide (r ∈ more)) (fun r => r) (tg_name (ws := [10]) List.mem_cons_self) (ve_call () vs_nil trivial) (by decide) (fun r hr => vb_and (vb_test (ve_in seqL (ve_v rfl) (ve_v rfl))) fun _ => vb_test (ve_in seqL (ve_v rfl) (ve_v rfl))) fun r hr _ => ve_v rfl) (List.map_id' _)) ⟨_, rfl, by show (1 : Nat) ≤ 1000000; decide, ?_⟩) rfl))
    refine xs_seq (xs_dropX (xe_app (i := 0) (ve_v rfl) rfl (xe_of (ve_is (ve_lcL (fun r => decide (r ∈ sm) && !decide (r ∈ more)) (fun r => r) (tg_name (ws := [10]) List.mem_cons_self) (ve_call () vs_nil trivial) (by decide) (fun r hr => vb_and (vb_test (ve_in seqL (ve_v rfl) (ve_v rfl))) fun _ => vb_test (ve_notin seqL (ve_v rfl) (ve_v rfl))) fun r hr _ => ve_v rfl) (List.map_id' _)) ⟨_, rfl, by show (2 : Nat) ≤ 1000000; decide, ?_⟩) rfl))
    refine xs_seq (xs_dropX (xe_app (i := 0) (ve_v rfl) rfl (xe_of (ve_is (ve_lcL (fun r => !decide (decide (r ∈ sm) = decide (r ∈ more))) (fun r => r) (tg_name (ws := [10]) List.mem_cons_self) (ve_call () vs_nil trivial) (by decide) (fun r hr => vb_test (ve_ne (ve_in seqL (ve_v rfl) (ve_v rfl)) (ve_in seqL (ve_v rfl) (ve_v rfl)))) fun r hr _ => ve_v rfl) (List.map_id' _)) ⟨_, rfl, by show (3 : Nat) ≤ 1000000; decide, ?_⟩) rfl))
    have hb2 : RB2 (held sm, held more) := ⟨held_rb sm, held_rb more⟩
    -- found
    refine xs_seq (xs_asg (ve_lst (vi_cons (ve_is (ve_cmpO (iR (m := "x") (by decide +kernel)) (held sm, held more) rfl hb2 (ve_v rfl) (ve_v rfl)) (or_eq hs9.2 hm9.2)) (vi_cons (ve_is (ve_cmpO (iR (m := "x") (by decide +kernel)) (held sm, held more) rfl hb2 (ve_v rfl) (ve_v rfl)) (and_eq hs9.2 hm9.2)) (vi_cons (ve_is (ve_cmpO (iR (m := "x") (by decide +kernel)) (held sm, held more) rfl hb2 (ve_v rfl) (ve_v rfl)) (sub_eq hs9.2 hm9.2)) (vi_cons (ve_is (ve_cmpO (iR (m := "x") (by decide +kernel)) (held sm, held more) rfl hb2 (ve_v rfl) (ve_v rfl)) (xor_eq hs9.2 hm9.2)) vi_nil)))) (by show (4 : Nat) ≤ 1000000; decide)) ?_)
    have V : ∀ o9 : Option Slot, Vw ([a, p] ++ []) [mL (yList yStr) [dueOr sm more, dueAnd sm more, dueSub sm more, dueXor sm more], mPen (T' + nine.length + k + more.length)] [some ⟨yScr K, ns⟩, some ⟨yRef, p⟩, some ⟨yInt, (i : Int)⟩, some ⟨yList yStr, sm⟩, some ⟨yList yStr, more⟩, some ⟨yRules K (C K), held sm⟩, some ⟨yRules K (C K), held more⟩, some ⟨yRef, a⟩, some ⟨yList (yRules K (C K)), [dueOr sm more, dueAnd sm more, dueSub sm more, dueXor sm more]⟩, o9, none, none]
        [some ⟨yScr K, ns⟩, some ⟨yRef, p⟩, some ⟨yInt, (i : Int)⟩, some ⟨yList yStr, sm⟩, some ⟨yList yStr, more⟩, some ⟨yRules K (C K), held sm⟩, some ⟨yRules K (C K), held more⟩, some ⟨yList (yList yStr), [dueOr sm more, dueAnd sm more, dueSub sm more, dueXor sm more]⟩, some ⟨yList (yRules K (C K)), [dueOr sm more, dueAnd sm more, dueSub sm more, dueXor sm more]⟩, o9, none, none] := fun o9 => vw_list (i := 7) (j := 0) (t := yList yStr) vw_refl rfl rfl rfl
    have hd : ∀ xs ∈ [dueOr sm more, dueAnd sm more, dueSub sm more, dueXor sm more], ∀ x ∈ xs, x ∈ nine := fun xs h => by
      simp only [List.mem_cons, List.not_mem_nil, or_false] at h
      rcases h with rfl | rfl | rfl | rfl <;> exact due_in
    refine xs_seq (xs_ifX (xt_view (V _) (vb_is (b' := false) (vb_or (vb_test (ve_neD (isD_list (isD_list isD_str)) (isD_list (isD_list isD_str)) (ve_is (x' := [dueOr sm more, dueAnd sm more, dueSub sm more, dueXor sm more]) (ve_lcL (xs := [dueOr sm more, dueAnd sm more, dueSub sm more, dueXor sm more]) (fun _ => true) (fun x => x) (tg_name (ws := [11]) List.mem_cons_self) (ve_v rfl) (by show (4 : Nat) ≤ 1000000; decide) (fun x hx => vb_yes) fun x hx _ => ve_meth0 (iR (m := "listed") (by decide +kernel)) x rfl trivial (ve_v rfl)) rfl) (ve_v rfl) (shp_lists hd) (shp_lists hd) (eqv_lls _ _))) fun _ => vb_not (vb_B (ve_isRules T (ve_ixL (i := 0) (ve_v rfl) ve_int rfl rfl)))) ?_) ?_))
    · show (!decide ([dueOr sm more, dueAnd sm more, dueSub sm more, dueXor sm more] = [dueOr sm more, dueAnd sm more, dueSub sm more, dueXor sm more]) || !true) = false
      rw [decide_eq_true rfl]
      rfl
    show Xs _ _ _ _ _ _ _ _ _ _
    refine xs_next ?_
    have o1 : RB2 (sm, more) := ⟨hs9.rb, hm9.rb⟩
    have o2' : RB2 (more, sm) := ⟨hm9.rb, hs9.rb⟩
    have o3' : RB2 (sm, sm) := ⟨hs9.rb, hs9.rb⟩
    refine xs_seq (xs_if (b := false) (vb_is (vb_or (vb_not (vb_B (ve_call (sm, more) (vs_cons (ve_v rfl) (vs_cons (ve_v rfl) (vs_cons (ve_v rfl) (vs_cons (ve_v rfl) vs_nil)))) o1))) fun _ => vb_not (vb_B (ve_call (more, sm) (vs_cons (ve_v rfl) (vs_cons (ve_v rfl) (vs_cons (ve_v rfl) (vs_cons (ve_v rfl) vs_nil)))) o2'))) rfl) (fun h => by cases h) fun _ => xs_next ?_)
    refine xs_seq (xs_asgX (xe_view (V _) (ve_eqD (isD_list isD_str) (isD_list isD_str) (ve_ixL (i := 0) (ve_v rfl) ve_int rfl rfl) (ve_ixL (i := 1) (ve_v rfl) ve_int rfl rfl) (shp_strs fun x h => nine_ok x (due_in x h)) (shp_strs fun x h => nine_ok x (due_in x h)) (eqv_strs _ _)) ?_))
    have eA := alike_eq hs9.2 hm9.2
    refine xs_seq (xs_if (b := false) (vb_is (vb_or (vb_test (ve_ne (ve_cmpO (iR (m := "x") (by decide +kernel)) (held sm, held more) rfl ⟨held_sub sm, held_sub more⟩ (ve_v rfl) (ve_v rfl)) (ve_v rfl))) fun _ => vb_or (vb_test (ve_eq (ve_neO (iR (m := "x") (by decide +kernel)) (held sm, held more) rfl ⟨held_sub sm, held_sub more⟩ (ve_v rfl) (ve_v rfl)) (ve_v rfl))) fun _ => vb_not (vb_B (ve_call (sm, sm) (vs_cons (ve_v rfl) (vs_cons (ve_v rfl) (vs_cons (ve_v rfl) (vs_cons (ve_v rfl) vs_nil)))) o3'))) ?_) (fun h => by cases h) fun _ => xs_next ?_)
    · show (!decide (decide (held sm = held more) = decide (dueOr sm more = dueAnd sm more)) || (decide ((!decide (held sm = held more)) = decide (dueOr sm more = dueAnd sm more)) || !true)) = false
      rw [eA]
      cases decide (dueOr sm more = dueAnd sm more) <;> rfl
    refine xs_if (b := false) (vb_is (vb_or (vb_test (ve_neD (isD_list isD_str) (isD_list isD_str) (ve_meth0 (iR (m := "listed") (by decide +kernel)) (held sm) rfl trivial (ve_v rfl)) (ve_v rfl) (shp_strs fun x h => nine_ok x (held_sub sm x h)) (shp_strs fun x h => nine_ok x (hs9.2 x h)) (eqv_strs _ _))) fun _ => vb_test (ve_neD (isD_list isD_str) (isD_list isD_str) (ve_meth0 (iR (m := "listed") (by decide +kernel)) (held more) rfl trivial (ve_v rfl)) (ve_is (ve_lcL (fun r => decide (r ∈ more)) (fun r => r) (tg_name (ws := [10]) List.mem_cons_self) (ve_call () vs_nil trivial) (by decide) (fun r hr => vb_test (ve_in seqL (ve_v rfl) (ve_v rfl))) fun r hr _ => ve_v rfl) (List.map_id' _)) (shp_strs fun x h => nine_ok x (held_sub more x h)) (shp_strs fun x h => nine_ok x (due_in x h)) (eqv_strs _ _))) ?_) (fun h => by cases h) fun _ => xs_next ?_
    · rw [decide_eq_true hh, decide_eq_true (show held more = nine.filter (fun r => decide (r ∈ more)) from rfl)]
      rfl
    exact ⟨_, _, rfl, _, _, _, _, _, _, _, _, _, rfl, rfl, by have := hm9.1; show T' + nine.length + k + more.length ≤ 80 * (i + 1); omega⟩
  · rintro s' ms' ⟨o2, o3, o4, o5, o6, o7, o8, o9, T', rfl, rfl, hT⟩
    exact xs_ret ve_bl rfl
end
end Fp

namespace Fp
open PySem PySem.Spec PyProof.Rows L2
def d_rules_of : Fn := { ad := fun K => He.ga K "rules_of", name := "rules_of", qual := "rules_of", st := s_rules_of, dfl := [] }
def d_kind_of : Fn := { ad := fun K => He.ga K "kind_of", name := "kind_of", qual := "kind_of", st := s_kind_of, dfl := [] }
def d_Rules_init : Fn := { ad := fun K => He.ma K (He.ga K "Rules") "__init__", name := "__init__", qual := "Rules.__init__", st := s_Rules_init, dfl := [.adr (He.dflAt ("Rules", some "__init__") 0)] }
def d_Rules_listed : Fn := { ad := fun K => He.ma K (He.ga K "Rules") "listed", name := "listed", qual := "Rules.listed", st := s_Rules_listed, dfl := [] }
def d_Rules_eq : Fn := { ad := fun K => He.ma K (He.ga K "Rules") "__eq__", name := "__eq__", qual := "Rules.__eq__", st := s_Rules_eq, dfl := [] }
def d_Rules_implies : Fn := { ad := fun K => He.ma K (He.ga K "Rules") "implies", name := "implies", qual := "Rules.implies", st := s_Rules_implies, dfl := [] }
def d_Rules_or : Fn := { ad := fun K => He.ma K (He.ga K "Rules") "__or__", name := "__or__", qual := "Rules.__or__", st := s_Rules_or, dfl := [] }
def d_Rules_and : Fn := { ad := fun K => He.ma K (He.ga K "Rules") "__and__", name := "__and__", qual := "Rules.__and__", st := s_Rules_and, dfl := [] }
def d_Rules_sub : Fn := { ad := fun K => He.ma K (He.ga K "Rules") "__sub__", name := "__sub__", qual := "Rules.__sub__", st := s_Rules_sub, dfl := [] }
def d_Rules_xor : Fn := { ad := fun K => He.ma K (He.ga K "Rules") "__xor__", name := "__xor__", qual := "Rules.__xor__", st := s_Rules_xor, dfl := [] }
def d_Rules_le : Fn := { ad := fun K => He.ma K (He.ga K "Rules") "__le__", name := "__le__", qual := "Rules.__le__", st := s_Rules_le, dfl := [] }
def d_Rules_lt : Fn := { ad := fun K => He.ma K (He.ga K "Rules") "__lt__", name := "__lt__", qual := "Rules.__lt__", st := s_Rules_lt, dfl := [] }
def d_Rules_ge : Fn := { ad := fun K => He.ma K (He.ga K "Rules") "__ge__", name := "__ge__", qual := "Rules.__ge__", st := s_Rules_ge, dfl := [] }
def d_Rules_gt : Fn := { ad := fun K => He.ma K (He.ga K "Rules") "__gt__", name := "__gt__", qual := "Rules.__gt__", st := s_Rules_gt, dfl := [] }
def d_pen : Fn := { ad := fun K => He.ga K "_law_pen", name := "_law_pen", qual := "_law_pen", st := s_pen, dfl := [] }
def d_draw : Fn := { ad := fun K => He.ga K "_law_draw", name := "_law_draw", qual := "_law_draw", st := s_draw, dfl := [] }
def d_shuffled : Fn := { ad := fun K => He.ga K "_law_shuffled", name := "_law_shuffled", qual := "_law_shuffled", st := s_shuffled, dfl := [] }
def d_pick : Fn := { ad := fun K => He.ga K "_law_pick", name := "_law_pick", qual := "_law_pick", st := s_pick, dfl := [] }
def d_few : Fn := { ad := fun K => He.ga K "_law_few", name := "_law_few", qual := "_law_few", st := s_few, dfl := [] }
def d_nine : Fn := { ad := fun K => He.ga K "_law_nine", name := "_law_nine", qual := "_law_nine", st := s_nine, dfl := [] }
def d_thirteen : Fn := { ad := fun K => He.ga K "_law_thirteen", name := "_law_thirteen", qual := "_law_thirteen", st := s_thirteen, dfl := [] }
def d_closure : Fn := { ad := fun K => He.ga K "_law_closure", name := "_law_closure", qual := "_law_closure", st := s_closure, dfl := [] }
def d_near : Fn := { ad := fun K => He.ga K "_law_near", name := "_law_near", qual := "_law_near", st := s_near, dfl := [] }
def d_order_right : Fn := { ad := fun K => He.ga K "_law_order_right", name := "_law_order_right", qual := "_law_order_right", st := s_order_right, dfl := [] }
def d_law : Fn := { ad := fun K => He.ga K "law", name := "law", qual := "law", st := s_law }
def hd : Hd where
  n := 5
  fa := [.free "int", .free "len", .free "abs", .free "list", .free "tuple", .free "range", .free "isinstance", .free "min", .free "all", .glo "RULES", .glo "KINDS", .glo "CLOSED", .glo "Rules", .cls "Rules", .noat "Rules" "held", .glo "rules_of", .glo "kind_of", .mkr "Rules", .meth "Rules" "listed", .meth "Rules" "__eq__", .meth "Rules" "implies", .meth "Rules" "__or__", .meth "Rules" "__and__", .meth "Rules" "__sub__", .meth "Rules" "__xor__", .meth "Rules" "__le__", .meth "Rules" "__lt__", .meth "Rules" "__ge__", .meth "Rules" "__gt__", .glo "_law_pen", .glo "_law_draw", .glo "_law_shuffled", .glo "_law_pick", .glo "_law_few", .glo "_law_nine", .glo "_law_thirteen", .glo "_law_closure", .glo "_law_near", .glo "_law_order_right", .glo "law"]
  fn := [d_rules_of, d_kind_of, d_Rules_init, d_Rules_listed, d_Rules_eq, d_Rules_implies, d_Rules_or, d_Rules_and, d_Rules_sub, d_Rules_xor, d_Rules_le, d_Rules_lt, d_Rules_ge, d_Rules_gt, d_pen, d_draw, d_shuffled, d_pick, d_few, d_nine, d_thirteen, d_closure, d_near, d_order_right, d_law]
  ts := [(fun K => He.ga K "CLOSED", kindsN)]
  ex := fun K => tupA K (He.ga K "RULES") (nine.map V.str) && (tupA K (He.ga K "KINDS") (kindsN.map V.str) && ((kindsN).all (fun k => atB K (He.ga K "CLOSED") k && tupA K (atKey K (He.ga K "CLOSED") k) ((closedR k).map V.str)) && (insB K "Rules" && (neB K "Rules" && (PySem.W.selfFirst K (He.ga K "Rules"))))))
abbrev rowR : PySem.W.OpenRow := PySem.W.OpenLaw.row PySem.Challenge.rw_foldplans_k03_rule_operators
def loose : List Str := (["CLOSED", "FoldError", "KINDS", "NoKind", "NoRule", "RULES", "Rules", "__name__", "_law_closure", "_law_draw", "_law_few", "_law_near", "_law_nine", "_law_order_right", "_law_pen", "_law_pick", "_law_shuffled", "_law_thirteen", "_wall", "kind_of", "rules_of"] : List Str)
theorem run_false (w : World) : HandSHeadRun.RunEq rowR (PySem.W.view rowR.prog [23]) hd.hook (fun s => hd.obs (HandSHeadRun.getT s)) 3000 loose (w.withFollow "special-get-raises" false) := by
  intro os
  kernel_rfl
theorem run_true (w : World) : HandSHeadRun.RunEq rowR (PySem.W.view rowR.prog [23]) hd.hook (fun s => hd.obs (HandSHeadRun.getT s)) 3000 loose (w.withFollow "special-get-raises" true) := by
  intro os
  kernel_rfl
theorem run (w : World) : HandSHeadRun.RunEq rowR (PySem.W.view rowR.prog [23]) hd.hook (fun s => hd.obs (HandSHeadRun.getT s)) 3000 loose w := PySem.W.byRow2 "special-get-raises" (P := fun w => HandSHeadRun.RunEq rowR (PySem.W.view rowR.prog [23]) hd.hook (fun s => hd.obs (HandSHeadRun.getT s)) 3000 loose w) run_false run_true w
section
variable {P : Program} {w : World} {K : PySem.W.Frag} {mg : Str → Option Value} {h : Heap}
theorem tx (X : K.In h) (G : h.Ns mainGlobals mg) (c : hd.look K = hd.due w) : Tx w K mg := by
  have ex := (Hd.bools c).2.2
  obtain ⟨ex0, ex⟩ := Bool.and_eq_true_iff.mp ex
  obtain ⟨ex1, ex⟩ := Bool.and_eq_true_iff.mp ex
  obtain ⟨ex2, ex⟩ := Bool.and_eq_true_iff.mp ex
  obtain ⟨ex3, ex⟩ := Bool.and_eq_true_iff.mp ex
  obtain ⟨ex4, ex⟩ := Bool.and_eq_true_iff.mp ex
  have ex5 := ex
  exact {
    b_int := He.free_ok X G (Hd.fact c (h := hd) 0 (f := .free "int") rfl)
    b_len := He.free_ok X G (Hd.fact c (h := hd) 1 (f := .free "len") rfl)
    b_abs := He.free_ok X G (Hd.fact c (h := hd) 2 (f := .free "abs") rfl)
    b_list := He.free_ok X G (Hd.fact c (h := hd) 3 (f := .free "list") rfl)
    b_tuple := He.free_ok X G (Hd.fact c (h := hd) 4 (f := .free "tuple") rfl)
    b_range := He.free_ok X G (Hd.fact c (h := hd) 5 (f := .free "range") rfl)
    b_isinstance := He.free_ok X G (Hd.fact c (h := hd) 6 (f := .free "isinstance") rfl)
    b_min := He.free_ok X G (Hd.fact c (h := hd) 7 (f := .free "min") rfl)
    b_all := He.free_ok X G (Hd.fact c (h := hd) 8 (f := .free "all") rfl)
    g_RULES := He.glo_ok X G (Hd.fact c (h := hd) 9 (f := .glo "RULES") rfl)
    g_KINDS := He.glo_ok X G (Hd.fact c (h := hd) 10 (f := .glo "KINDS") rfl)
    g_CLOSED := He.glo_ok X G (Hd.fact c (h := hd) 11 (f := .glo "CLOSED") rfl)
    g_Rules := He.glo_ok X G (Hd.fact c (h := hd) 12 (f := .glo "Rules") rfl)
    t_RULES := tupA_ok ex0
    t_KINDS := tupA_ok ex1
    d_CLOSED := fun k hk => by
      obtain ⟨es, n, D⟩ := Hd.dict c (h := hd) 0 (t := (fun K => He.ga K "CLOSED", kindsN)) rfl
      obtain ⟨e1, e2⟩ := Bool.and_eq_true_iff.mp (List.all_eq_true.mp ex2 k hk)
      exact ⟨_, kdct_of D e1, tupA_ok e2⟩
    c_Rules := He.cls_ok (Hd.fact c (h := hd) 13 (f := .cls "Rules") rfl)
    i_Rules := insB_ok ex3
    n_held := He.noat_ok (Hd.fact c (h := hd) 14 (f := .noat "Rules" "held") rfl)
    ne_Rules := neB_ok ex4
    f_Rules := ex5
  }
theorem facts {f : Addr} (X : K.In h) (G : h.Ns mainGlobals mg) (hf : mg ("law" : Str) = some (.ref f)) (c : hd.look K = hd.due w) : ∃ fd : FuncData, (∀ (s : Shared) (v : Value), BindsTo s fd ⟨[v], []⟩ [("_law_script", v)]) ∧ ∀ base : Heap, K.In base → base.Ns mainGlobals mg → FnOk P w K mg base CX0 6 f fd ["_law_script"] (spLaw K) := by
  have T := tx X G c
  have ex := (Hd.bools c).2.2
  obtain ⟨ex0, ex⟩ := Bool.and_eq_true_iff.mp ex
  obtain ⟨ex1, ex⟩ := Bool.and_eq_true_iff.mp ex
  obtain ⟨ex2, ex⟩ := Bool.and_eq_true_iff.mp ex
  obtain ⟨ex3, ex⟩ := Bool.and_eq_true_iff.mp ex
  obtain ⟨ex4, ex⟩ := Bool.and_eq_true_iff.mp ex
  have ex5 := ex
  obtain ⟨fd_rules_of, F_rules_of⟩ := Hd.fun_ c (h := hd) 0 (d := d_rules_of) rfl
  have B_rules_of : Binds K fd_rules_of ["kind"] [] := FunD.bindsN F_rules_of fun _ _ _ _ _ _ us hl => match us, hl with | [_], _ => rfl
  obtain ⟨fd_kind_of, F_kind_of⟩ := Hd.fun_ c (h := hd) 1 (d := d_kind_of) rfl
  have B_kind_of : Binds K fd_kind_of ["names"] [] := FunD.bindsN F_kind_of fun _ _ _ _ _ _ us hl => match us, hl with | [_], _ => rfl
  obtain ⟨fd_Rules_init, F_Rules_init⟩ := Hd.fun_ c (h := hd) 2 (d := d_Rules_init) rfl
  have B_Rules_init : Binds K fd_Rules_init ["self", "names"] [] := by
    obtain ⟨ds, v, b⟩ := FunD.binds1 (ps := ["self", "names"]) F_Rules_init 2 1 (List.cons_ne_nil _ _) rfl fun T kV doc pm an cdv ct us its hl hi => match us, its, hl, hi with | [_, _], [_], _, _ => ⟨_, rfl, rfl⟩
    cases v
    exact b
  obtain ⟨fd_Rules_listed, F_Rules_listed⟩ := Hd.fun_ c (h := hd) 3 (d := d_Rules_listed) rfl
  have B_Rules_listed : Binds K fd_Rules_listed ["self"] [] := FunD.bindsN F_Rules_listed fun _ _ _ _ _ _ us hl => match us, hl with | [_], _ => rfl
  obtain ⟨fd_Rules_eq, F_Rules_eq⟩ := Hd.fun_ c (h := hd) 4 (d := d_Rules_eq) rfl
  have B_Rules_eq : Binds K fd_Rules_eq ["self", "other"] [] := FunD.bindsN F_Rules_eq fun _ _ _ _ _ _ us hl => match us, hl with | [_, _], _ => rfl
  obtain ⟨fd_Rules_implies, F_Rules_implies⟩ := Hd.fun_ c (h := hd) 5 (d := d_Rules_implies) rfl
  have B_Rules_implies : Binds K fd_Rules_implies ["self", "other"] [] := FunD.bindsN F_Rules_implies fun _ _ _ _ _ _ us hl => match us, hl with | [_, _], _ => rfl
  obtain ⟨fd_Rules_or, F_Rules_or⟩ := Hd.fun_ c (h := hd) 6 (d := d_Rules_or) rfl
  have B_Rules_or : Binds K fd_Rules_or ["self", "other"] [] := FunD.bindsN F_Rules_or fun _ _ _ _ _ _ us hl => match us, hl with | [_, _], _ => rfl
  obtain ⟨fd_Rules_and, F_Rules_and⟩ := Hd.fun_ c (h := hd) 7 (d := d_Rules_and) rfl
  have B_Rules_and : Binds K fd_Rules_and ["self", "other"] [] := FunD.bindsN F_Rules_and fun _ _ _ _ _ _ us hl => match us, hl with | [_, _], _ => rfl
  obtain ⟨fd_Rules_sub, F_Rules_sub⟩ := Hd.fun_ c (h := hd) 8 (d := d_Rules_sub) rfl
  have B_Rules_sub : Binds K fd_Rules_sub ["self", "other"] [] := FunD.bindsN F_Rules_sub fun _ _ _ _ _ _ us hl => match us, hl with | [_, _], _ => rfl
  obtain ⟨fd_Rules_xor, F_Rules_xor⟩ := Hd.fun_ c (h := hd) 9 (d := d_Rules_xor) rfl
  have B_Rules_xor : Binds K fd_Rules_xor ["self", "other"] [] := FunD.bindsN F_Rules_xor fun _ _ _ _ _ _ us hl => match us, hl with | [_, _], _ => rfl
  obtain ⟨fd_Rules_le, F_Rules_le⟩ := Hd.fun_ c (h := hd) 10 (d := d_Rules_le) rfl
  have B_Rules_le : Binds K fd_Rules_le ["self", "other"] [] := FunD.bindsN F_Rules_le fun _ _ _ _ _ _ us hl => match us, hl with | [_, _], _ => rfl
  obtain ⟨fd_Rules_lt, F_Rules_lt⟩ := Hd.fun_ c (h := hd) 11 (d := d_Rules_lt) rfl
  have B_Rules_lt : Binds K fd_Rules_lt ["self", "other"] [] := FunD.bindsN F_Rules_lt fun _ _ _ _ _ _ us hl => match us, hl with | [_, _], _ => rfl
  obtain ⟨fd_Rules_ge, F_Rules_ge⟩ := Hd.fun_ c (h := hd) 12 (d := d_Rules_ge) rfl
  have B_Rules_ge : Binds K fd_Rules_ge ["self", "other"] [] := FunD.bindsN F_Rules_ge fun _ _ _ _ _ _ us hl => match us, hl with | [_, _], _ => rfl
  obtain ⟨fd_Rules_gt, F_Rules_gt⟩ := Hd.fun_ c (h := hd) 13 (d := d_Rules_gt) rfl
  have B_Rules_gt : Binds K fd_Rules_gt ["self", "other"] [] := FunD.bindsN F_Rules_gt fun _ _ _ _ _ _ us hl => match us, hl with | [_, _], _ => rfl
  obtain ⟨fd_pen, F_pen⟩ := Hd.fun_ c (h := hd) 14 (d := d_pen) rfl
  have B_pen : Binds K fd_pen ["_law_script"] [] := FunD.bindsN F_pen fun _ _ _ _ _ _ us hl => match us, hl with | [_], _ => rfl
  obtain ⟨fd_draw, F_draw⟩ := Hd.fun_ c (h := hd) 15 (d := d_draw) rfl
  have B_draw : Binds K fd_draw ["_law_pen_here", "_law_span"] [] := FunD.bindsN F_draw fun _ _ _ _ _ _ us hl => match us, hl with | [_, _], _ => rfl
  obtain ⟨fd_shuffled, F_shuffled⟩ := Hd.fun_ c (h := hd) 16 (d := d_shuffled) rfl
  have B_shuffled : Binds K fd_shuffled ["_law_pen_here", "_law_items"] [] := FunD.bindsN F_shuffled fun _ _ _ _ _ _ us hl => match us, hl with | [_, _], _ => rfl
  obtain ⟨fd_pick, F_pick⟩ := Hd.fun_ c (h := hd) 17 (d := d_pick) rfl
  have B_pick : Binds K fd_pick ["_law_pen_here", "_law_options"] [] := FunD.bindsN F_pick fun _ _ _ _ _ _ us hl => match us, hl with | [_, _], _ => rfl
  obtain ⟨fd_few, F_few⟩ := Hd.fun_ c (h := hd) 18 (d := d_few) rfl
  have B_few : Binds K fd_few ["_law_pen_here", "_law_items", "_law_span"] [] := FunD.bindsN F_few fun _ _ _ _ _ _ us hl => match us, hl with | [_, _, _], _ => rfl
  obtain ⟨fd_nine, F_nine⟩ := Hd.fun_ c (h := hd) 19 (d := d_nine) rfl
  have B_nine : Binds K fd_nine [] [] := FunD.bindsN F_nine fun _ _ _ _ _ _ us hl => match us, hl with | [], _ => rfl
  obtain ⟨fd_thirteen, F_thirteen⟩ := Hd.fun_ c (h := hd) 20 (d := d_thirteen) rfl
  have B_thirteen : Binds K fd_thirteen [] [] := FunD.bindsN F_thirteen fun _ _ _ _ _ _ us hl => match us, hl with | [], _ => rfl
  obtain ⟨fd_closure, F_closure⟩ := Hd.fun_ c (h := hd) 21 (d := d_closure) rfl
  have B_closure : Binds K fd_closure ["_law_names"] [] := FunD.bindsN F_closure fun _ _ _ _ _ _ us hl => match us, hl with | [_], _ => rfl
  obtain ⟨fd_near, F_near⟩ := Hd.fun_ c (h := hd) 22 (d := d_near) rfl
  have B_near : Binds K fd_near ["_law_pen_here", "_law_some"] [] := FunD.bindsN F_near fun _ _ _ _ _ _ us hl => match us, hl with | [_, _], _ => rfl
  obtain ⟨fd_order_right, F_order_right⟩ := Hd.fun_ c (h := hd) 23 (d := d_order_right) rfl
  have B_order_right : Binds K fd_order_right ["_law_one", "_law_two", "_law_some", "_law_more"] [] := FunD.bindsN F_order_right fun _ _ _ _ _ _ us hl => match us, hl with | [_, _, _, _], _ => rfl
  obtain ⟨fd_law, F_law⟩ := Hd.fun_ c (h := hd) 24 (d := d_law) rfl
  have e := hf.symm.trans (He.glo_ok X G (Hd.fact c (h := hd) 39 (f := .glo "law") rfl))
  cases e
  have b := FunD.bindsA (ps := ["_law_script"]) F_law fun _ _ _ _ _ _ us hl => match us, hl with | [_], _ => rfl
  refine ⟨fd_law, fun s v => b s [v] rfl, fun base _ _ => ?_⟩
  have D_rules_of := Def.mk (P := P) (w := w) (base := base) (ok_rules_of (k := 0) F_rules_of T) B_rules_of (FunD.kp F_rules_of) (He.glo_ok X G (Hd.fact c (h := hd) 15 (f := .glo "rules_of") rfl))
  have D_kind_of := Def.mk (P := P) (w := w) (base := base) (ok_kind_of (k := 0) F_kind_of T) B_kind_of (FunD.kp F_kind_of) (He.glo_ok X G (Hd.fact c (h := hd) 16 (f := .glo "kind_of") rfl))
  have D_Rules_init := DefI.mk (P := P) (w := w) (base := base) (ok_R_init (k := 0) F_Rules_init T) B_Rules_init (He.mkr_ok (Hd.fact c (h := hd) 17 (f := .mkr "Rules") rfl)) .nil
  have D_Rules_initT := DefI.mk (P := P) (w := w) (base := base) (ok_R_initT (k := 0) F_Rules_init T) B_Rules_init D_Rules_init.mkr .nil
  have D_Rules_listed := DefM.mk (P := P) (w := w) (base := base) (ok_R_listed (k := 0) F_Rules_listed T) B_Rules_listed (He.meth_ok (Hd.fact c (h := hd) 18 (f := .meth "Rules" "listed") rfl))
  have D_Rules_eq := DefM.mk (P := P) (w := w) (base := base) (ok_R_eq (k := 0) F_Rules_eq T) B_Rules_eq (He.meth_ok (Hd.fact c (h := hd) 19 (f := .meth "Rules" "__eq__") rfl))
  have D_Rules_implies := DefM.mk (P := P) (w := w) (base := base) (ok_R_implies F_Rules_implies T D_kind_of D_rules_of) B_Rules_implies (He.meth_ok (Hd.fact c (h := hd) 20 (f := .meth "Rules" "implies") rfl))
  have D_Rules_or := DefM.mk (P := P) (w := w) (base := base) (ok_R_or F_Rules_or T D_Rules_initT) B_Rules_or (He.meth_ok (Hd.fact c (h := hd) 21 (f := .meth "Rules" "__or__") rfl))
  have D_Rules_and := DefM.mk (P := P) (w := w) (base := base) (ok_R_and F_Rules_and T D_Rules_init) B_Rules_and (He.meth_ok (Hd.fact c (h := hd) 22 (f := .meth "Rules" "__and__") rfl))
  have D_Rules_sub := DefM.mk (P := P) (w := w) (base := base) (ok_R_sub F_Rules_sub T D_Rules_init) B_Rules_sub (He.meth_ok (Hd.fact c (h := hd) 23 (f := .meth "Rules" "__sub__") rfl))
  have D_Rules_xor := DefM.mk (P := P) (w := w) (base := base) (ok_R_xor F_Rules_xor T D_Rules_init) B_Rules_xor (He.meth_ok (Hd.fact c (h := hd) 24 (f := .meth "Rules" "__xor__") rfl))
  have D_Rules_le := DefM.mk (P := P) (w := w) (base := base) (ok_R_le D_Rules_implies F_Rules_le T) B_Rules_le (He.meth_ok (Hd.fact c (h := hd) 25 (f := .meth "Rules" "__le__") rfl))
  have D_Rules_lt := DefM.mk (P := P) (w := w) (base := base) (ok_R_lt D_Rules_implies F_Rules_lt T) B_Rules_lt (He.meth_ok (Hd.fact c (h := hd) 26 (f := .meth "Rules" "__lt__") rfl))
  have D_Rules_ge := DefM.mk (P := P) (w := w) (base := base) (ok_R_ge D_Rules_implies F_Rules_ge T) B_Rules_ge (He.meth_ok (Hd.fact c (h := hd) 27 (f := .meth "Rules" "__ge__") rfl))
  have D_Rules_gt := DefM.mk (P := P) (w := w) (base := base) (ok_R_gt D_Rules_implies F_Rules_gt T) B_Rules_gt (He.meth_ok (Hd.fact c (h := hd) 28 (f := .meth "Rules" "__gt__") rfl))
  have D_pen := Def.mk (P := P) (w := w) (base := base) (ok_pen (k := 0) F_pen T) B_pen (FunD.kp F_pen) (He.glo_ok X G (Hd.fact c (h := hd) 29 (f := .glo "_law_pen") rfl))
  have D_draw := Def.mk (P := P) (w := w) (base := base) (ok_draw (k := 0) F_draw T) B_draw (FunD.kp F_draw) (He.glo_ok X G (Hd.fact c (h := hd) 30 (f := .glo "_law_draw") rfl))
  have D_shuffled := Def.mk (P := P) (w := w) (base := base) (ok_shuffled isD_str F_shuffled T D_draw) B_shuffled (FunD.kp F_shuffled) (He.glo_ok X G (Hd.fact c (h := hd) 31 (f := .glo "_law_shuffled") rfl))
  have D_pick := Def.mk (P := P) (w := w) (base := base) (ok_pick (t := yPair K yStr (yList yStr)) F_pick T D_draw) B_pick (FunD.kp F_pick) (He.glo_ok X G (Hd.fact c (h := hd) 32 (f := .glo "_law_pick") rfl))
  have D_few := Def.mk (P := P) (w := w) (base := base) (ok_few (t := yStr) F_few T D_draw) B_few (FunD.kp F_few) (He.glo_ok X G (Hd.fact c (h := hd) 33 (f := .glo "_law_few") rfl))
  have D_nine := Def.mk (P := P) (w := w) (base := base) (ok_nine (k := 0) F_nine) B_nine (FunD.kp F_nine) (He.glo_ok X G (Hd.fact c (h := hd) 34 (f := .glo "_law_nine") rfl))
  have D_thirteen := Def.mk (P := P) (w := w) (base := base) (ok_thirteen F_thirteen D_nine) B_thirteen (FunD.kp F_thirteen) (He.glo_ok X G (Hd.fact c (h := hd) 35 (f := .glo "_law_thirteen") rfl))
  have D_closure := Def.mk (P := P) (w := w) (base := base) (ok_closure F_closure D_nine D_thirteen) B_closure (FunD.kp F_closure) (He.glo_ok X G (Hd.fact c (h := hd) 36 (f := .glo "_law_closure") rfl))
  have D_near := Def.mk (P := P) (w := w) (base := base) (ok_near F_near T D_draw D_few D_nine D_closure D_pick D_thirteen) B_near (FunD.kp F_near) (He.glo_ok X G (Hd.fact c (h := hd) 37 (f := .glo "_law_near") rfl))
  have D_order_right := Def.mk (P := P) (w := w) (base := base) (ok_order_right F_order_right T D_closure D_Rules_le D_Rules_lt D_Rules_ge D_Rules_gt) B_order_right (FunD.kp F_order_right) (He.glo_ok X G (Hd.fact c (h := hd) 38 (f := .glo "_law_order_right") rfl))
  exact ok_law F_law T D_pen D_draw D_shuffled D_nine D_near D_order_right D_Rules_init D_Rules_listed D_Rules_eq D_Rules_or D_Rules_and D_Rules_sub D_Rules_xor
end
end Fp
open PySem PySem.W PySem.Calls PyProof.Rows
theorem PySem.Challenge.cw_foldplans_k03_rule_operators_holds : PySem.Challenge.rw_foldplans_k03_rule_operators.Holds := by
  w_on; o_law
  refine HandSHeadRun.head_any (r := OpenLaw.row PySem.Challenge.rw_foldplans_k03_rule_operators) (q := view (OpenLaw.row PySem.Challenge.rw_foldplans_k03_rule_operators).prog [23]) (H := Fp.hd.hook) (ob := fun s => Fp.hd.obs (HandSHeadRun.getT s)) (M := 3000) (loose := Fp.loose) (d := HandSHeadRun.topDef (OpenLaw.row PySem.Challenge.rw_foldplans_k03_rule_operators).prog 23) (kwd := []) (Fp.Hd.obs_eq Fp.hd)
    (by kernel_rfl) (fun s => by kernel_rfl) Fp.run (by kernel_rfl) (by kernel_rfl) (by kernel_rfl) (by rfl) (by first | assumption | decide +kernel) (by decide +kernel) ⟨rfl, rfl, rfl, rfl, rfl, by decide +kernel⟩ ?hw ?hc
  case hw => w_witness2
  case hc =>
    refine L2.walk_ofE (l := PySem.Challenge.rw_foldplans_k03_rule_operators) (n := 63) (k := 6) (x := "_law_script") (CX := L2.CX0) rfl (by decide) (by kernel_rfl) ⟨rfl, by decide, by decide⟩ ?F (fun _ _ _ _ z => z)
    intro w mg fa h Y G hmg0
    obtain ⟨K, KX, c⟩ := Y
    have hmg : mg ("law" : PySem.Str) = some (.ref fa) := by
      have e : (HandSHeadRun.topDef (OpenLaw.row PySem.Challenge.rw_foldplans_k03_rule_operators).prog 23).name = ("law" : PySem.Str) := by kernel_rfl
      rw [← e]
      exact hmg0
    obtain ⟨fd, hb, hF⟩ := Fp.facts (P := (PySem.Challenge.rw_foldplans_k03_rule_operators).prog) (w := w) KX G hmg c
    exact ⟨K, fd, Fp.spLaw K, KX, hb, fun H a ns hl _ hS => Fp.law_in hl hS, hF⟩

